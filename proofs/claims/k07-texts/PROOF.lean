import PyProof.Rows.All
import Wide.All
import OpenK.AllK
import Wide.FinOn
import HandS.ForMost
import HandS.Evl
import HandS.Steps
import HandS.Style
import HandS.IsInst
import HandS.Strs
import HandS.SortInts
import HandS.Conv
import HandS.Wide
import HandS.Walk
import HandS.Exc
import HandS.SetFor
import HandS.ExcCtx
import HandS.ExcOwn
import HandS.ExcIs
import HandS.WordsExc
import HandS.SuiteRaise
import HandS.HotCalls
import HandS.Text
import HandS.Codes
import HandS.StrMore
import PyProof.StrOps2
import KE.IntTextText
import PySem.Challenge.RW_fallrow_k07_texts
set_option Elab.async false
set_option linter.all false
set_option maxRecDepth 100000
set_option maxHeartbeats 8000000
/-! Values as data: what a slot holds is told as a tree of data, the heap stays behind. -/
namespace FR
open PySem L2 Evl

/-! ### data -/
inductive Da where
  | non | bl (b : Bool) | int (i : Int) | str (s : Str) | ty (n : String) | cls (C : Addr)
  | lst (ds : List Da) | sq (ds : List Da) | tup (ds : List Da) | obj (C : Addr) (ns : List Str) (ds : List Da) | emp

mutual
def Rp (K : PySem.W.Frag) (B : Hp) : Da → V → Prop
  | .non, v => v = .non
  | .bl b, v => v = .bl b
  | .int i, v => v = .int i
  | .str s, v => v = .str s
  | .ty n, v => v = .ty n
  | .cls C, v => v = .ref C
  | .lst ds, v => ∃ a xs, v = .ref a ∧ B a = some (.lst xs) ∧ RpAll K B ds xs
  | .sq ds, v => ∃ a xs, v = .ref a ∧ SqL K B a xs ∧ RpAll K B ds xs
  | .tup ds, v => ∃ a xs, v = .ref a ∧ B a = some (.tup xs) ∧ RpAll K B ds xs
  | .obj C ns ds, v => ∃ a dx xs, v = .ref a ∧ B a = some (.ins C dx (ns.zip xs)) ∧ xs.length = ns.length ∧ RpAll K B ds xs
  | .emp, v => ∃ a, v = .ref a ∧ B a = some (.dK [])
def RpAll (K : PySem.W.Frag) (B : Hp) : List Da → List V → Prop
  | [], vs => vs = []
  | d :: ds, vs => ∃ v r, vs = v :: r ∧ Rp K B d v ∧ RpAll K B ds r
end
section
variable {K : PySem.W.Frag} {B B' H H' H1 H2 : Hp}
mutual
theorem Rp.mono (e : Ex B B') : ∀ (d : Da) (v : V), Rp K B d v → Rp K B' d v
  | .non, v, h => by simpa only [Rp] using h
  | .bl b, v, h => by simpa only [Rp] using h
  | .int i, v, h => by simpa only [Rp] using h
  | .str s, v, h => by simpa only [Rp] using h
  | .ty n, v, h => by simpa only [Rp] using h
  | .cls C, v, h => by simpa only [Rp] using h
  | .lst ds, v, h => by
    simp only [Rp] at h ⊢
    obtain ⟨a, xs, h1, h2, h3⟩ := h
    exact ⟨a, xs, h1, e _ _ h2, RpAll.mono e ds xs h3⟩
  | .sq ds, v, h => by
    simp only [Rp] at h ⊢
    obtain ⟨a, xs, h1, h2, h3⟩ := h
    exact ⟨a, xs, h1, ex_l e h2, RpAll.mono e ds xs h3⟩
  | .tup ds, v, h => by
    simp only [Rp] at h ⊢
    obtain ⟨a, xs, h1, h2, h3⟩ := h
    exact ⟨a, xs, h1, e _ _ h2, RpAll.mono e ds xs h3⟩
  | .obj C ns ds, v, h => by
    simp only [Rp] at h ⊢
    obtain ⟨a, dx, xs, h1, h2, h3, h4⟩ := h
    exact ⟨a, dx, xs, h1, e _ _ h2, h3, RpAll.mono e ds xs h4⟩
  | .emp, v, h => by
    simp only [Rp] at h ⊢
    obtain ⟨a, h1, h2⟩ := h
    exact ⟨a, h1, e _ _ h2⟩
theorem RpAll.mono (e : Ex B B') : ∀ (ds : List Da) (vs : List V), RpAll K B ds vs → RpAll K B' ds vs
  | [], vs, h => by simpa only [RpAll] using h
  | d :: ds, vs, h => by
    simp only [RpAll] at h ⊢
    obtain ⟨v, r, h1, h2, h3⟩ := h
    exact ⟨v, r, h1, Rp.mono e d v h2, RpAll.mono e ds r h3⟩
end
theorem RpAll.nil : RpAll K B [] [] := by simp only [RpAll]
theorem RpAll.cons {d : Da} {v : V} {ds : List Da} {vs : List V} (h : Rp K B d v) (t : RpAll K B ds vs) : RpAll K B (d :: ds) (v :: vs) := by
  simp only [RpAll]
  exact ⟨v, vs, rfl, h, t⟩
theorem RpAll.uncons {d : Da} {ds : List Da} {vs : List V} (h : RpAll K B (d :: ds) vs) : ∃ v r, vs = v :: r ∧ Rp K B d v ∧ RpAll K B ds r := by
  simpa only [RpAll] using h
theorem RpAll.len : ∀ {ds : List Da} {vs : List V}, RpAll K B ds vs → vs.length = ds.length
  | [], vs, h => by
    have e : vs = [] := by simpa only [RpAll] using h
    rw [e]
    rfl
  | d :: ds, vs, h => by
    obtain ⟨v, r, rfl, _, h3⟩ := h.uncons
    rw [List.length_cons, List.length_cons, h3.len]
theorem RpAll.get : ∀ {ds : List Da} {vs : List V} {i : Nat} {d : Da}, RpAll K B ds vs → ds[i]? = some d → ∃ v, vs[i]? = some v ∧ Rp K B d v
  | [], vs, i, d, h, e => by simp at e
  | x :: ds, vs, 0, d, h, e => by
    obtain ⟨v, r, rfl, h2, h3⟩ := h.uncons
    simp only [List.getElem?_cons_zero, Option.some.injEq] at e
    subst e
    exact ⟨v, rfl, h2⟩
  | x :: ds, vs, i + 1, d, h, e => by
    obtain ⟨v, r, rfl, h2, h3⟩ := h.uncons
    simp only [List.getElem?_cons_succ] at e ⊢
    exact h3.get e
theorem RpAll.getV : ∀ {ds : List Da} {vs : List V} {i : Nat} {v : V}, RpAll K B ds vs → vs[i]? = some v → ∃ d, ds[i]? = some d ∧ Rp K B d v
  | [], vs, i, v, h, e => by
    have q : vs = [] := by simpa only [RpAll] using h
    subst q
    simp at e
  | x :: ds, vs, 0, v, h, e => by
    obtain ⟨w, r, rfl, h2, h3⟩ := h.uncons
    simp only [List.getElem?_cons_zero, Option.some.injEq] at e
    subst e
    exact ⟨x, rfl, h2⟩
  | x :: ds, vs, i + 1, v, h, e => by
    obtain ⟨w, r, rfl, h2, h3⟩ := h.uncons
    simp only [List.getElem?_cons_succ] at e ⊢
    exact h3.getV e
theorem RpAll.app : ∀ {ds es : List Da} {vs us : List V}, RpAll K B ds vs → RpAll K B es us → RpAll K B (ds ++ es) (vs ++ us)
  | [], es, vs, us, h, t => by
    have q : vs = [] := by simpa only [RpAll] using h
    subst q
    exact t
  | x :: ds, es, vs, us, h, t => by
    obtain ⟨w, r, rfl, h2, h3⟩ := h.uncons
    exact RpAll.cons h2 (h3.app t)
theorem RpAll.drop : ∀ {ds : List Da} {vs : List V} (n : Nat), RpAll K B ds vs → RpAll K B (ds.drop n) (vs.drop n)
  | ds, vs, 0, h => h
  | [], vs, n + 1, h => by
    have q : vs = [] := by simpa only [RpAll] using h
    subst q
    exact h
  | x :: ds, vs, n + 1, h => by
    obtain ⟨w, r, rfl, h2, h3⟩ := h.uncons
    exact h3.drop n
theorem RpAll.take : ∀ {ds : List Da} {vs : List V} (n : Nat), RpAll K B ds vs → RpAll K B (ds.take n) (vs.take n)
  | ds, vs, 0, h => by
    rw [List.take_zero, List.take_zero]
    exact .nil
  | [], vs, n + 1, h => by
    have q : vs = [] := by simpa only [RpAll] using h
    subst q
    exact h
  | x :: ds, vs, n + 1, h => by
    obtain ⟨w, r, rfl, h2, h3⟩ := h.uncons
    exact .cons h2 (h3.take n)
theorem RpAll.rev : ∀ {ds : List Da} {vs : List V}, RpAll K B ds vs → RpAll K B ds.reverse vs.reverse
  | [], vs, h => by
    have q : vs = [] := by simpa only [RpAll] using h
    subst q
    exact h
  | x :: ds, vs, h => by
    obtain ⟨w, r, rfl, h2, h3⟩ := h.uncons
    rw [List.reverse_cons, List.reverse_cons]
    exact h3.rev.app (.cons h2 .nil)
theorem RpAll.set : ∀ {ds : List Da} {vs : List V} {d : Da} {v : V} (i : Nat), RpAll K B ds vs → Rp K B d v → RpAll K B (ds.set i d) (vs.set i v)
  | [], vs, d, v, i, h, g => by
    have q : vs = [] := by simpa only [RpAll] using h
    subst q
    exact h
  | x :: ds, vs, d, v, 0, h, g => by
    obtain ⟨w, r, rfl, h2, h3⟩ := h.uncons
    exact .cons g h3
  | x :: ds, vs, d, v, i + 1, h, g => by
    obtain ⟨w, r, rfl, h2, h3⟩ := h.uncons
    exact .cons h2 (h3.set i g)
theorem RpAll.dropLast {ds : List Da} {vs : List V} (h : RpAll K B ds vs) : RpAll K B ds.dropLast vs.dropLast := by
  rw [List.dropLast_eq_take, List.dropLast_eq_take, h.len]
  exact h.take _
/-- scalars: the heap does not matter -/
def isSc : Da → Bool
  | .non | .bl _ | .int _ | .str _ | .ty _ | .cls _ => true
  | _ => false
theorem Rp.sc {d : Da} {v : V} (hs : isSc d = true) (h : Rp K B d v) : Rp K B' d v := by
  cases d <;> first | (simpa only [Rp] using h) | (cases hs)
theorem RpAll.sc : ∀ {ds : List Da} {vs : List V}, ds.all isSc = true → RpAll K B ds vs → RpAll K B' ds vs
  | [], vs, _, h => by simpa only [RpAll] using h
  | d :: ds, vs, hs, h => by
    obtain ⟨v, r, rfl, h2, h3⟩ := h.uncons
    rw [List.all_cons, Bool.and_eq_true] at hs
    exact .cons (h2.sc hs.1) (h3.sc hs.2)
theorem rp_ints : ∀ {ns : List Int} {vs : List V}, RpAll K B (ns.map Da.int) vs → vs = ns.map V.int
  | [], vs, h => by simpa only [RpAll, List.map_nil] using h
  | n :: ns, vs, h => by
    rw [List.map_cons] at h ⊢
    obtain ⟨v, r, rfl, h2, h3⟩ := h.uncons
    have e : v = V.int n := by simpa only [Rp] using h2
    rw [e, rp_ints h3]
theorem ints_rp : ∀ (ns : List Int), RpAll K B (ns.map Da.int) (ns.map V.int)
  | [] => .nil
  | n :: ns => .cons (by simp only [Rp]) (ints_rp ns)
theorem rp_bls : ∀ {ns : List Bool} {vs : List V}, RpAll K B (ns.map Da.bl) vs → vs = ns.map V.bl
  | [], vs, h => by simpa only [RpAll, List.map_nil] using h
  | n :: ns, vs, h => by
    rw [List.map_cons] at h ⊢
    obtain ⟨v, r, rfl, h2, h3⟩ := h.uncons
    have e : v = V.bl n := by simpa only [Rp] using h2
    rw [e, rp_bls h3]
theorem rp_atI {ds : List Da} {vs : List V} {i : Int} {d : Da} (h : RpAll K B ds vs) (e : atI ds i = some d) : ∃ v, atI vs i = some v ∧ Rp K B d v := by
  unfold atI at e ⊢
  rw [h.len]
  cases hx : ixN ds.length i with
  | none =>
    rw [hx] at e
    cases e
  | some j =>
    rw [hx] at e
    exact h.get e
def cutD (ds : List Da) (lo hi : Option Int) : List Da := (ds.drop (HT.sIx ds.length 0 lo)).take (HT.sIx ds.length ds.length hi - HT.sIx ds.length 0 lo)
theorem rp_cut {ds : List Da} {vs : List V} {lo hi : Option Int} (h : RpAll K B ds vs) : RpAll K B (cutD ds lo hi) (cutV vs lo hi) := by
  unfold cutD cutV
  rw [h.len]
  exact (h.drop _).take _
/-- a dict's pairs -/
def KvR (K : PySem.W.Frag) (B : Hp) : List (Int × Da) → List (Key × V) → Prop
  | [], ws => ws = []
  | (k, d) :: r, ws => ∃ v t, ws = (Sum.inl k, v) :: t ∧ Rp K B d v ∧ KvR K B r t
theorem KvR.mono (e : Ex B B') : ∀ {kvs : List (Int × Da)} {ws : List (Key × V)}, KvR K B kvs ws → KvR K B' kvs ws
  | [], ws, h => h
  | (k, d) :: r, ws, h => by
    obtain ⟨v, t, h1, h2, h3⟩ := h
    exact ⟨v, t, h1, h2.mono e, h3.mono e⟩
theorem KvR.len : ∀ {kvs : List (Int × Da)} {ws : List (Key × V)}, KvR K B kvs ws → ws.length = kvs.length
  | [], ws, h => by
    have e : ws = [] := h
    rw [e]
    rfl
  | (k, d) :: r, ws, h => by
    obtain ⟨v, t, rfl, h2, h3⟩ := h
    rw [List.length_cons, List.length_cons, h3.len]
def valD : List (Int × Da) → Int → Option Da
  | [], _ => none
  | (k, d) :: r, j => if k = j then some d else valD r j
def putD (kvs : List (Int × Da)) (k : Int) (d : Da) : List (Int × Da) :=
  if (kvs.any fun kv => decide (kv.1 = k)) = true then kvs.map (fun kv => if kv.1 = k then (kv.1, d) else kv) else kvs ++ [(k, d)]
end

/-! ### slots -/
inductive Sl where
  | no
  | im (d : Da)
  | mu (ds : List Da)
  | md (kvs : List (Int × Da))
  | ob (C : Addr) (ns : List Str) (dss : List (List Da))
abbrev En := List Sl
def imm1 : Sl → Sl
  | .im d => .im d
  | _ => .no
def frz1 : Sl → Sl
  | .im d => .im d
  | .mu ds => .im (.lst ds)
  | .md kvs => .md kvs
  | .ob C ns dss => .im (.obj C ns (dss.map Da.lst))
  | .no => .no
abbrev imm (env : En) : En := env.map imm1
abbrev frz (env : En) : En := env.map frz1
/-- a view: no slot of one's own but dicts that are read -/
def SlV (K : PySem.W.Frag) (B : Hp) (o : Option (Option V)) : Sl → Prop
  | .im d => ∃ v, o = some (some v) ∧ Rp K B d v
  | .md kvs => ∃ a ws, o = some (some (.ref a)) ∧ B a = some (.dK ws) ∧ KvR K B kvs ws
  | _ => True
structure SD (K : PySem.W.Frag) (B : Hp) (σ : L2.St) (env : En) : Prop where
  len : env.length = σ.length
  sl : ∀ (i : Nat) s, env[i]? = some s → SlV K B (σ[i]?) s
structure Gr (B H1 B' H2 : Hp) : Prop where
  b : Ex B B'
  h : Ex B' H2
  k : Ex H1 H2
  n : ∀ a, H1 a ≠ none → B' a = B a
section
variable {K : PySem.W.Frag} {B B' B1 B2 H H' H1 H2 H3 : Hp}
theorem Gr.refl (e : Ex B H) : Gr B H B H := ⟨Ex.refl _, e, Ex.refl _, fun _ _ => rfl⟩
theorem Gr.keep (e : Ex B H1) (k : Ex H1 H2) : Gr B H1 B H2 := ⟨Ex.refl _, e.trans k, k, fun _ _ => rfl⟩
theorem Gr.trans (g : Gr B H1 B1 H2) (g' : Gr B1 H2 B2 H3) : Gr B H1 B2 H3 := ⟨g.b.trans g'.b, g'.h, g.k.trans g'.k, fun a h => by
  have h2 : H2 a ≠ none := fun z => by
    cases e : H1 a with
    | none => exact h e
    | some o =>
      rw [g.k a o e] at z
      cases z
  rw [g'.n a h2, g.n a h]⟩
theorem Gr.lay (e : Ex B H1) {p : Addr} {o : HO} (hp : H1 p = none) : Gr B H1 (upd B p o) (upd H1 p o) := by
  have hb : B p = none := fresh_back e hp
  refine ⟨Ex.new hb, fun a u h => ?_, Ex.new hp, fun a h => ?_⟩
  · by_cases q : a = p
    · subst q
      rw [upd_same] at h ⊢
      exact h
    · rw [upd_ne q] at h ⊢
      exact e a u h
  · exact upd_ne fun q => h (q ▸ hp)
/-- a new place, not (yet) told as data -/
theorem Gr.put (e : Ex B H1) {p : Addr} {o : HO} (hp : H1 p = none) : Gr B H1 B (upd H1 p o) := Gr.keep e (Ex.new hp)
theorem SlV.mono {o : Option (Option V)} {s : Sl} (e : Ex B B') (h : SlV K B o s) : SlV K B' o s := by
  cases s with
  | im d =>
    obtain ⟨v, h1, h2⟩ := h
    exact ⟨v, h1, h2.mono e⟩
  | md kvs =>
    obtain ⟨a, ws, h1, h2, h3⟩ := h
    exact ⟨a, ws, h1, e _ _ h2, h3.mono e⟩
  | _ => trivial
theorem SD.mono {σ : L2.St} {env : En} (e : Ex B B') (h : SD K B σ env) : SD K B' σ env := ⟨h.len, fun i s q => (h.sl i s q).mono e⟩
theorem SD.set {σ : L2.St} {env : En} {i : Nat} {v : V} {d : Da} (h : SD K B σ env) (hd : Rp K B d v) : SD K B (σ.set i (some v)) (env.set i (.im d)) := by
  refine ⟨by rw [List.length_set, List.length_set, h.len], fun j s q => ?_⟩
  by_cases e : i = j
  · subst e
    rw [List.getElem?_set_self'] at q
    cases hi : env[i]? with
    | none =>
      rw [hi] at q
      cases q
    | some t =>
      rw [hi] at q
      cases q
      have hl : i < σ.length := by
        rw [← h.len]
        exact (List.getElem?_eq_some_iff.mp hi).1
      exact ⟨v, by rw [List.getElem?_set_self hl], hd⟩
  · rw [List.getElem?_set_ne e] at q ⊢
    exact h.sl j s q
theorem SD.unset {σ : L2.St} {env : En} {i : Nat} {o : Option V} (h : SD K B σ env) : SD K B (σ.set i o) (env.set i .no) := by
  refine ⟨by rw [List.length_set, List.length_set, h.len], fun j s q => ?_⟩
  by_cases e : i = j
  · subst e
    rw [List.getElem?_set_self'] at q
    cases hi : env[i]? with
    | none =>
      rw [hi] at q
      cases q
    | some t =>
      rw [hi] at q
      cases q
      trivial
  · rw [List.getElem?_set_ne e] at q ⊢
    exact h.sl j s q
def wipeE (env : En) : List Nat → En
  | [] => env
  | v :: vs => (wipeE env vs).set v .no
theorem SD.wipe {σ : L2.St} {env : En} (h : SD K B σ env) : ∀ vs : List Nat, SD K B (L2.wipe σ vs) (wipeE env vs)
  | [] => h
  | v :: vs => (h.wipe vs).unset
end

/-! ### expressions -/
section
variable (K : PySem.W.Frag)
def EvE (te : TE) (env : En) (d : Da) : Prop := ∀ σ B, SD K B σ env → ∀ H1, Ex B H1 → ∀ Q : VK, (∀ v B' H2, Gr B H1 B' H2 → Rp K B' d v → Q v H2) → te σ H1 Q
def EvN (te : TE) (env : En) (ds : List Da) : Prop := ∀ σ B, SD K B σ env → ∀ H1, Ex B H1 → ∀ Q : VK, (∀ p xs B' H2, Gr B H1 B' H2 → H1 p = none → B' p = none → H2 p = some (.lst xs) → RpAll K B' ds xs → Q (.ref p) H2) → te σ H1 Q
def EvD (te : TE) (env : En) (kvs : List (Int × Da)) : Prop := ∀ σ B, SD K B σ env → ∀ H1, Ex B H1 → ∀ Q : VK, (∀ p ws B' H2, Gr B H1 B' H2 → H1 p = none → B' p = none → H2 p = some (.dK ws) → KvR K B' kvs ws → Q (.ref p) H2) → te σ H1 Q
def EvB (tt : TT) (env : En) (b : Bool) : Prop := ∀ σ B, SD K B σ env → ∀ H1, Ex B H1 → ∀ Q : Bool → Hp → Prop, (∀ H2, Ex H1 H2 → Q b H2) → tt σ H1 Q
def EvA (ta : TA) (env : En) (ds : List Da) : Prop := ∀ σ B, SD K B σ env → ∀ H1, Ex B H1 → ∀ Q : List V → Hp → Prop, (∀ vs B' H2, Gr B H1 B' H2 → RpAll K B' ds vs → Q vs H2) → ta σ H1 Q
end
section
variable {K : PySem.W.Frag} {env : En} {te ta tb tc : TE} {tt tu : TT} {d : Da} {ds es : List Da} {i j : Int}
theorem EvE.is {d' : Da} (h : EvE K te env d) (e : d = d') : EvE K te env d' := e ▸ h
theorem EvN.is {ds' : List Da} (h : EvN K te env ds) (e : ds = ds') : EvN K te env ds' := e ▸ h
theorem EvB.is {b b' : Bool} (h : EvB K tt env b) (e : b = b') : EvB K tt env b' := e ▸ h
theorem ev_new (h : EvN K te env ds) : EvE K te env (.lst ds) := fun σ B s H1 e Q q => h σ B s H1 e Q fun p xs B' H2 g h1 hb h2 r => by
  have eb : Ex B' (upd B' p (.lst xs)) := Ex.new hb
  refine q _ (upd B' p (.lst xs)) H2 ⟨g.b.trans eb, fun a u h => ?_, g.k, fun a h => ?_⟩ ?_
  · by_cases z : a = p
    · subst z
      rw [upd_same] at h
      rw [h2]
      exact h
    · rw [upd_ne z] at h
      exact g.h a u h
  · rw [upd_ne (show a ≠ p from fun z => h (by rw [z]; exact h1))]
    exact g.n a h
  · simp only [Rp]
    exact ⟨p, xs, rfl, upd_same, r.mono eb⟩
theorem ev_var {i : Nat} (h : env[i]? = some (.im d)) : EvE K (tVar i) env d := fun σ B s H1 e Q q => by
  obtain ⟨v, h1, h2⟩ := s.sl i _ h
  exact ⟨v, h1, q v B H1 (Gr.refl e) h2⟩
theorem ev_c {v : V} (h : ∀ B, Rp K B d v) : EvE K (tC v) env d := fun σ B s H1 e Q q => q v B H1 (Gr.refl e) (h B)
theorem ev_int : EvE K (tC (.int i)) env (.int i) := ev_c fun _ => by simp only [Rp]
theorem ev_bl {b : Bool} : EvE K (tC (.bl b)) env (.bl b) := ev_c fun _ => by simp only [Rp]
theorem ev_non : EvE K (tC .non) env .non := ev_c fun _ => by simp only [Rp]
theorem ev_str {s : Str} : EvE K (tC (.str s)) env (.str s) := ev_c fun _ => by simp only [Rp]
theorem ev_ty {n : String} : EvE K (tC (.ty n)) env (.ty n) := ev_c fun _ => by simp only [Rp]
theorem ev_cls {C : Addr} : EvE K (tC (.ref C)) env (.cls C) := ev_c fun _ => by simp only [Rp]
/-- two operands, the answer by values and heap -/
theorem ev_op {r : R2} {x y z : Da} (ha : EvE K ta env x) (hb : EvE K tb env y)
    (hr : ∀ B H v w, Ex B H → Rp K B x v → Rp K B y w → ∀ Q : VK, (∀ u B' H2, Gr B H B' H2 → Rp K B' z u → Q u H2) → r v w H Q) : EvE K (tOp r ta tb) env z := fun σ B s H1 e Q q =>
  ha σ B s H1 e _ fun v B2 H2 g2 r2 => hb σ B2 (s.mono g2.b) H2 g2.h _ fun w B3 H3 g3 r3 =>
    hr B3 H3 v w g3.h (r2.mono g3.b) r3 Q fun u B4 H4 g4 r4 => q u B4 H4 ((g2.trans g3).trans g4) r4
theorem ev_opN {r : R2} {x y : Da} {zs : List Da} (ha : EvE K ta env x) (hb : EvE K tb env y)
    (hr : ∀ B H v w, Ex B H → Rp K B x v → Rp K B y w → ∀ Q : VK, (∀ p xs B' H2, Gr B H B' H2 → H p = none → B' p = none → H2 p = some (.lst xs) → RpAll K B' zs xs → Q (.ref p) H2) → r v w H Q) : EvN K (tOp r ta tb) env zs := fun σ B s H1 e Q q =>
  ha σ B s H1 e _ fun v B2 H2 g2 r2 => hb σ B2 (s.mono g2.b) H2 g2.h _ fun w B3 H3 g3 r3 =>
    hr B3 H3 v w g3.h (r2.mono g3.b) r3 Q fun p xs B4 H4 g4 h1 h2 h3 h4 => q p xs B4 H4 ((g2.trans g3).trans g4) (fresh_back (g2.k.trans g3.k) h1) h2 h3 h4
theorem ev_I0 {g : Int → Int → V} {z : Da} (hz : ∀ B, Rp K B z (g i j)) (ha : EvE K ta env (.int i)) (hb : EvE K tb env (.int j)) : EvE K (tOp (rI0 g) ta tb) env z :=
  ev_op ha hb fun B H v w e r1 r2 Q q => by
    simp only [Rp] at r1 r2
    subst r1 r2
    exact ⟨i, j, rfl, rfl, q _ B H (Gr.refl e) (hz B)⟩
theorem ev_IC {C : Int → Int → Prop} {g : Int → Int → V} {z : Da} (hz : ∀ B, Rp K B z (g i j)) (ha : EvE K ta env (.int i)) (hb : EvE K tb env (.int j)) (hc : C i j) : EvE K (tOp (rI C g) ta tb) env z :=
  ev_op ha hb fun B H v w e r1 r2 Q q => by
    simp only [Rp] at r1 r2
    subst r1 r2
    exact ⟨i, j, rfl, rfl, hc, q _ B H (Gr.refl e) (hz B)⟩
end
/-! ### the readings' names -/
abbrev rAddI : R2 := rI0 fun i j => .int (i + j)
abbrev rSubI : R2 := rI0 fun i j => .int (i - j)
abbrev rMulI : R2 := rI CMul fun i j => .int (i * j)
abbrev rModI : R2 := rI (fun _ j => 0 < j) fun i j => .int (i % j)
abbrev rDivI : R2 := rI CDiv fun i j => .int (i / j)
abbrev rDivW : R2 := rI CDivW fun i j => .int (i / j)
abbrev rPowI : R2 := rI CPow fun i j => .int (i ^ j.toNat)
abbrev rLtI : R2 := rI0 fun i j => .bl (decide (i < j))
abbrev rLeI : R2 := rI0 fun i j => .bl (decide (i ≤ j))
abbrev rGtI : R2 := rI0 fun i j => .bl (decide (j < i))
abbrev rGeI : R2 := rI0 fun i j => .bl (decide (j ≤ i))
abbrev rCatS : R2 := fun x y H Q => ∃ i j, x = .str i ∧ y = .str j ∧ i.length + j.length ≤ sizeLine ∧ Q (.str (i ++ j)) H
section
variable {K : PySem.W.Frag} {env : En} {te ta tb tc : TE} {tt tu : TT} {d : Da} {ds es : List Da} {i j : Int}
theorem ev_add (ha : EvE K ta env (.int i)) (hb : EvE K tb env (.int j)) : EvE K (tOp rAddI ta tb) env (.int (i + j)) := ev_I0 (fun _ => by simp only [Rp]) ha hb
theorem ev_sub (ha : EvE K ta env (.int i)) (hb : EvE K tb env (.int j)) : EvE K (tOp rSubI ta tb) env (.int (i - j)) := ev_I0 (fun _ => by simp only [Rp]) ha hb
theorem ev_mul (ha : EvE K ta env (.int i)) (hb : EvE K tb env (.int j)) (hc : CMul i j) : EvE K (tOp rMulI ta tb) env (.int (i * j)) := ev_IC (fun _ => by simp only [Rp]) ha hb hc
theorem ev_mod (ha : EvE K ta env (.int i)) (hb : EvE K tb env (.int j)) (hc : 0 < j) : EvE K (tOp rModI ta tb) env (.int (i % j)) := ev_IC (fun _ => by simp only [Rp]) ha hb hc
theorem ev_div (ha : EvE K ta env (.int i)) (hb : EvE K tb env (.int j)) (hc : 0 < j ∧ j < 1073741824) : EvE K (tOp rDivI ta tb) env (.int (i / j)) := ev_IC (fun _ => by simp only [Rp]) ha hb hc
theorem ev_divW (ha : EvE K ta env (.int i)) (hb : EvE K tb env (.int j)) (hc : CDivW i j) : EvE K (tOp rDivW ta tb) env (.int (i / j)) := ev_IC (fun _ => by simp only [Rp]) ha hb hc
theorem ev_pow (ha : EvE K ta env (.int i)) (hb : EvE K tb env (.int j)) (hc : CPow i j) : EvE K (tOp rPowI ta tb) env (.int (i ^ j.toNat)) := ev_IC (fun _ => by simp only [Rp]) ha hb hc
theorem ev_lt (ha : EvE K ta env (.int i)) (hb : EvE K tb env (.int j)) : EvE K (tOp rLtI ta tb) env (.bl (decide (i < j))) := ev_I0 (fun _ => by simp only [Rp]) ha hb
theorem ev_le (ha : EvE K ta env (.int i)) (hb : EvE K tb env (.int j)) : EvE K (tOp rLeI ta tb) env (.bl (decide (i ≤ j))) := ev_I0 (fun _ => by simp only [Rp]) ha hb
theorem ev_gt (ha : EvE K ta env (.int i)) (hb : EvE K tb env (.int j)) : EvE K (tOp rGtI ta tb) env (.bl (decide (j < i))) := ev_I0 (fun _ => by simp only [Rp]) ha hb
theorem ev_ge (ha : EvE K ta env (.int i)) (hb : EvE K tb env (.int j)) : EvE K (tOp rGeI ta tb) env (.bl (decide (j ≤ i))) := ev_I0 (fun _ => by simp only [Rp]) ha hb
theorem ev_neg (ha : EvE K ta env (.int i)) : EvE K (tUn (rU fun i => .int (-i)) ta) env (.int (-i)) := fun σ B s H1 e Q q =>
  ha σ B s H1 e _ fun v B2 H2 g2 r2 => by
    simp only [Rp] at r2
    subst r2
    exact ⟨i, rfl, q _ B2 H2 g2 (by simp only [Rp])⟩
/-- == of scalars -/
theorem ev_eqI (ha : EvE K ta env (.int i)) (hb : EvE K tb env (.int j)) : EvE K (tOp rEq ta tb) env (.bl (decide (i = j))) :=
  ev_op ha hb fun B H v w e r1 r2 Q q => by
    simp only [Rp] at r1 r2
    subst r1 r2
    refine ⟨rfl, q _ B H (Gr.refl e) ?_⟩
    simp only [Rp, V.int.injEq]
theorem ev_neI (ha : EvE K ta env (.int i)) (hb : EvE K tb env (.int j)) : EvE K (tOp rNe ta tb) env (.bl (!decide (i = j))) :=
  ev_op ha hb fun B H v w e r1 r2 Q q => by
    simp only [Rp] at r1 r2
    subst r1 r2
    refine ⟨rfl, q _ B H (Gr.refl e) ?_⟩
    simp only [Rp, V.int.injEq]
theorem ev_eqB {a b : Bool} (ha : EvE K ta env (.bl a)) (hb : EvE K tb env (.bl b)) : EvE K (tOp rEq ta tb) env (.bl (decide (a = b))) :=
  ev_op ha hb fun B H v w e r1 r2 Q q => by
    simp only [Rp] at r1 r2
    subst r1 r2
    refine ⟨rfl, q _ B H (Gr.refl e) ?_⟩
    simp only [Rp, V.bl.injEq]
theorem ev_neB {a b : Bool} (ha : EvE K ta env (.bl a)) (hb : EvE K tb env (.bl b)) : EvE K (tOp rNe ta tb) env (.bl (!decide (a = b))) :=
  ev_op ha hb fun B H v w e r1 r2 Q q => by
    simp only [Rp] at r1 r2
    subst r1 r2
    refine ⟨rfl, q _ B H (Gr.refl e) ?_⟩
    simp only [Rp, V.bl.injEq]
/-- xs[i], t[i] -/
theorem ev_ixL (ha : EvE K ta env (.lst ds)) (hb : EvE K tb env (.int i)) (h : atI ds i = some d) : EvE K (tOp (rIxL K) ta tb) env d :=
  ev_op ha hb fun B H v w e r1 r2 Q q => by
    simp only [Rp] at r1 r2
    obtain ⟨a, xs, rfl, h2, h3⟩ := r1
    subst r2
    obtain ⟨u, hu, ru⟩ := rp_atI h3 h
    exact ⟨a, xs, i, u, rfl, rfl, sq_of (e _ _ h2), hu, q u B H (Gr.refl e) ru⟩
theorem ev_ixT (ha : EvE K ta env (.tup ds)) (hb : EvE K tb env (.int i)) (h : atI ds i = some d) : EvE K (tOp (rIxT K) ta tb) env d :=
  ev_op ha hb fun B H v w e r1 r2 Q q => by
    simp only [Rp] at r1 r2
    obtain ⟨a, xs, rfl, h2, h3⟩ := r1
    subst r2
    obtain ⟨u, hu, ru⟩ := rp_atI h3 h
    exact ⟨a, xs, i, u, rfl, rfl, st_of (e _ _ h2), hu, q u B H (Gr.refl e) ru⟩
/-- arguments, displays -/
theorem ea_nil : EvA K tNil env [] := fun σ B s H1 e Q q => q [] B H1 (Gr.refl e) .nil
theorem ea_cons {tr : TA} (h : EvE K te env d) (hr : EvA K tr env ds) : EvA K (tCons te tr) env (d :: ds) := fun σ B s H1 e Q q =>
  h σ B s H1 e _ fun v B2 H2 g2 r2 => hr σ B2 (s.mono g2.b) H2 g2.h _ fun vs B3 H3 g3 r3 => q (v :: vs) B3 H3 (g2.trans g3) (.cons (r2.mono g3.b) r3)
theorem ev_tup {t : TA} (h : EvA K t env ds) (hl : ds.length ≤ 100000 := by first | decide | simp) : EvE K (tTup t) env (.tup ds) := fun σ B s H1 e Q q =>
  h σ B s H1 e _ fun vs B2 H2 g2 r2 => ⟨sz_of (by rw [r2.len]; exact hl), fun p hp => q _ (upd B2 p (.tup vs)) _ (g2.trans (Gr.lay g2.h hp)) (by
    simp only [Rp]
    exact ⟨p, vs, rfl, upd_same, r2.mono (Ex.new (fresh_back g2.h hp))⟩)⟩
theorem en_lst {t : TA} (h : EvA K t env ds) (hl : ds.length ≤ 100000 := by first | decide | simp) : EvN K (tLst t) env ds := fun σ B s H1 e Q q =>
  h σ B s H1 e _ fun vs B2 H2 g2 r2 => ⟨sz_of (by rw [r2.len]; exact hl), fun p hp => q p vs B2 _ (g2.trans (Gr.put g2.h hp)) (fresh_back g2.k hp) (fresh_back g2.h hp) upd_same r2⟩
/-- built-ins by values -/
theorem ev_cb {r : List V → Hp → VK → Prop} {t : TA} (h : EvA K t env ds) (hr : ∀ B H vs, Ex B H → RpAll K B ds vs → ∀ Q : VK, (∀ u B' H2, Gr B H B' H2 → Rp K B' d u → Q u H2) → r vs H Q) : EvE K (tCB r t) env d := fun σ B s H1 e Q q =>
  h σ B s H1 e _ fun vs B2 H2 g2 r2 => hr B2 H2 vs g2.h r2 Q fun u B3 H3 g3 r3 => q u B3 H3 (g2.trans g3) r3
theorem en_cb {r : List V → Hp → VK → Prop} {t : TA} (h : EvA K t env ds) (hr : ∀ B H vs, Ex B H → RpAll K B ds vs → ∀ Q : VK, (∀ p xs B' H2, Gr B H B' H2 → H p = none → B' p = none → H2 p = some (.lst xs) → RpAll K B' es xs → Q (.ref p) H2) → r vs H Q) : EvN K (tCB r t) env es := fun σ B s H1 e Q q =>
  h σ B s H1 e _ fun vs B2 H2 g2 r2 => hr B2 H2 vs g2.h r2 Q fun p xs B3 H3 g3 h1 h2 h3 r3 => q p xs B3 H3 (g2.trans g3) (fresh_back g2.k h1) h2 h3 r3
theorem one_rp {B : Hp} {vs : List V} (h : RpAll K B [d] vs) : ∃ v, vs = [v] ∧ Rp K B d v := by
  obtain ⟨v, r, rfl, h2, h3⟩ := h.uncons
  have e : r = [] := by simpa only [RpAll] using h3
  subst e
  exact ⟨v, rfl, h2⟩
theorem two_rp {B : Hp} {vs : List V} {d' : Da} (h : RpAll K B [d, d'] vs) : ∃ v w, vs = [v, w] ∧ Rp K B d v ∧ Rp K B d' w := by
  obtain ⟨v, r, rfl, h2, h3⟩ := h.uncons
  obtain ⟨w, rfl, h4⟩ := one_rp h3
  exact ⟨v, w, rfl, h2, h4⟩
theorem ev_max2 (ha : EvE K ta env (.int i)) (hb : EvE K tb env (.int j)) : EvE K (tCB rMax2 (tCons ta (tCons tb tNil))) env (.int (if j > i then j else i)) :=
  ev_cb (ea_cons ha (ea_cons hb ea_nil)) fun B H vs e r Q q => by
    obtain ⟨v, w, rfl, h1, h2⟩ := two_rp r
    simp only [Rp] at h1 h2
    subst h1 h2
    exact ⟨i, j, rfl, q _ B H (Gr.refl e) (by simp only [Rp])⟩
def rMin2 : List V → Hp → VK → Prop := fun xs H Q => ∃ i j, xs = [.int i, .int j] ∧ Q (.int (if j < i then j else i)) H
theorem ev_min2 (ha : EvE K ta env (.int i)) (hb : EvE K tb env (.int j)) : EvE K (tCB rMin2 (tCons ta (tCons tb tNil))) env (.int (if j < i then j else i)) :=
  ev_cb (ea_cons ha (ea_cons hb ea_nil)) fun B H vs e r Q q => by
    obtain ⟨v, w, rfl, h1, h2⟩ := two_rp r
    simp only [Rp] at h1 h2
    subst h1 h2
    exact ⟨i, j, rfl, q _ B H (Gr.refl e) (by simp only [Rp])⟩
def rAbs : List V → Hp → VK → Prop := fun xs H Q => ∃ i, xs = [.int i] ∧ Q (.int (if i < 0 then -i else i)) H
theorem ev_abs (ha : EvE K ta env (.int i)) : EvE K (tCB rAbs (tCons ta tNil)) env (.int (if i < 0 then -i else i)) :=
  ev_cb (ea_cons ha ea_nil) fun B H vs e r Q q => by
    obtain ⟨v, rfl, h1⟩ := one_rp r
    simp only [Rp] at h1
    subst h1
    exact ⟨i, rfl, q _ B H (Gr.refl e) (by simp only [Rp])⟩
theorem ev_lenL (ha : EvE K ta env (.lst ds)) : EvE K (tCB (rLenS K) (tCons ta tNil)) env (.int (ds.length : Int)) :=
  ev_cb (ea_cons ha ea_nil) fun B H vs e r Q q => by
    obtain ⟨v, rfl, h1⟩ := one_rp r
    simp only [Rp] at h1
    obtain ⟨a, xs, rfl, h2, h3⟩ := h1
    exact ⟨a, xs, rfl, .inl (sq_of (e _ _ h2)), q _ B H (Gr.refl e) (by simp only [Rp]; rw [h3.len])⟩
theorem ev_lenQ (ha : EvE K ta env (.sq ds)) : EvE K (tCB (rLenS K) (tCons ta tNil)) env (.int (ds.length : Int)) :=
  ev_cb (ea_cons ha ea_nil) fun B H vs e r Q q => by
    obtain ⟨v, rfl, h1⟩ := one_rp r
    simp only [Rp] at h1
    obtain ⟨a, xs, rfl, h2, h3⟩ := h1
    exact ⟨a, xs, rfl, .inl (ex_l e h2), q _ B H (Gr.refl e) (by simp only [Rp]; rw [h3.len])⟩
theorem ev_lenT (ha : EvE K ta env (.tup ds)) : EvE K (tCB (rLenS K) (tCons ta tNil)) env (.int (ds.length : Int)) :=
  ev_cb (ea_cons ha ea_nil) fun B H vs e r Q q => by
    obtain ⟨v, rfl, h1⟩ := one_rp r
    simp only [Rp] at h1
    obtain ⟨a, xs, rfl, h2, h3⟩ := h1
    exact ⟨a, xs, rfl, .inr (st_of (e _ _ h2)), q _ B H (Gr.refl e) (by simp only [Rp]; rw [h3.len])⟩
theorem en_listL (ha : EvE K ta env (.lst ds)) : EvN K (tCB (rListS K) (tCons ta tNil)) env ds :=
  en_cb (ea_cons ha ea_nil) fun B H vs e r Q q => by
    obtain ⟨v, rfl, h1⟩ := one_rp r
    simp only [Rp] at h1
    obtain ⟨a, xs, rfl, h2, h3⟩ := h1
    exact ⟨a, xs, rfl, .inl (sq_of (e _ _ h2)), fun l hl => q l xs B _ (Gr.put e hl) hl (fresh_back e hl) upd_same h3⟩
theorem en_listT (ha : EvE K ta env (.tup ds)) : EvN K (tCB (rListS K) (tCons ta tNil)) env ds :=
  en_cb (ea_cons ha ea_nil) fun B H vs e r Q q => by
    obtain ⟨v, rfl, h1⟩ := one_rp r
    simp only [Rp] at h1
    obtain ⟨a, xs, rfl, h2, h3⟩ := h1
    exact ⟨a, xs, rfl, .inr (st_of (e _ _ h2)), fun l hl => q l xs B _ (Gr.put e hl) hl (fresh_back e hl) upd_same h3⟩
theorem ev_sumQ {ns : List Int} (ha : EvE K ta env (.sq (ns.map Da.int))) : EvE K (tCB (rSum K) (tCons ta tNil)) env (.int ns.sum) :=
  ev_cb (ea_cons ha ea_nil) fun B H vs e r Q q => by
    obtain ⟨v, rfl, h1⟩ := one_rp r
    simp only [Rp] at h1
    obtain ⟨a, xs, rfl, h2, h3⟩ := h1
    have z := rp_ints h3
    subst z
    exact ⟨a, ns, rfl, ex_l e h2, q _ B H (Gr.refl e) (by simp only [Rp])⟩
theorem ev_sumL {ns : List Int} (ha : EvE K ta env (.lst (ns.map Da.int))) : EvE K (tCB (rSum K) (tCons ta tNil)) env (.int ns.sum) :=
  ev_cb (ea_cons ha ea_nil) fun B H vs e r Q q => by
    obtain ⟨v, rfl, h1⟩ := one_rp r
    simp only [Rp] at h1
    obtain ⟨a, xs, rfl, h2, h3⟩ := h1
    have z := rp_ints h3
    subst z
    exact ⟨a, ns, rfl, sq_of (e _ _ h2), q _ B H (Gr.refl e) (by simp only [Rp])⟩
theorem ev_all {bs : List Bool} (ha : EvE K ta env (.lst (bs.map Da.bl))) : EvE K (tCB (L2.rAll K) (tCons ta tNil)) env (.bl (bs.all id)) :=
  ev_cb (ea_cons ha ea_nil) fun B H vs e r Q q => by
    obtain ⟨v, rfl, h1⟩ := one_rp r
    simp only [Rp] at h1
    obtain ⟨a, xs, rfl, h2, h3⟩ := h1
    have z := rp_bls h3
    subst z
    exact ⟨a, bs, rfl, sq_of (e _ _ h2), q _ B H (Gr.refl e) (by simp only [Rp])⟩
theorem ev_any {bs : List Bool} (ha : EvE K ta env (.lst (bs.map Da.bl))) : EvE K (tCB (L2.rAny K) (tCons ta tNil)) env (.bl (bs.any id)) :=
  ev_cb (ea_cons ha ea_nil) fun B H vs e r Q q => by
    obtain ⟨v, rfl, h1⟩ := one_rp r
    simp only [Rp] at h1
    obtain ⟨a, xs, rfl, h2, h3⟩ := h1
    have z := rp_bls h3
    subst z
    exact ⟨a, bs, rfl, sq_of (e _ _ h2), q _ B H (Gr.refl e) (by simp only [Rp])⟩
/-- isinstance -/
def tyD : Da → Option String
  | .non => some "NoneType"
  | .bl _ => some "bool"
  | .int _ => some "int"
  | .str _ => some "str"
  | .lst _ => some "list"
  | .sq _ => some "list"
  | .tup _ => some "tuple"
  | .emp => some "dict"
  | _ => none
theorem tyx_of {B H : Hp} {v : V} {n : String} (e : Ex B H) (h : Rp K B d v) (hn : tyD d = some n) : TyX K H v (.type n) := by
  cases d with
  | non => simp only [Rp] at h; subst h; cases hn; exact .base .non
  | bl b => simp only [Rp] at h; subst h; cases hn; exact .base (.bl b)
  | int i => simp only [Rp] at h; subst h; cases hn; exact .base (.int i)
  | str s => simp only [Rp] at h; subst h; cases hn; exact .base (.str s)
  | ty n => cases hn
  | cls C => cases hn
  | lst ds =>
    simp only [Rp] at h
    obtain ⟨a, xs, rfl, h2, h3⟩ := h
    cases hn
    exact .base (.lst (e _ _ h2))
  | sq ds =>
    simp only [Rp] at h
    obtain ⟨a, xs, rfl, h2, h3⟩ := h
    cases hn
    rcases ex_l e h2 with (h2 | ⟨o, h2⟩) | ⟨o, its, n, h2, h4, _⟩
    · exact .base (.lst h2)
    · exact .base (.frz h2)
    · exact .kList h2 h4
  | tup ds =>
    simp only [Rp] at h
    obtain ⟨a, xs, rfl, h2, h3⟩ := h
    cases hn
    exact .base (.tup (e _ _ h2))
  | obj C ns ds => cases hn
  | emp =>
    simp only [Rp] at h
    obtain ⟨a, rfl, h2⟩ := h
    cases hn
    exact .base (.dK (e _ _ h2))
theorem ev_isiB {n m : String} {b : Bool} (ha : EvE K ta env d) (hb : EvE K tb env (.ty m)) (hn : tyD d = some n) (hk : kitB n m = some b) : EvE K (tCB (rIsi K) (tCons ta (tCons tb tNil))) env (.bl b) :=
  ev_cb (ea_cons ha (ea_cons hb ea_nil)) fun B H vs e r Q q => by
    obtain ⟨v, w, rfl, h1, h2⟩ := two_rp r
    simp only [Rp] at h2
    subst h2
    exact ⟨v, .ty m, .type n, .type m, b, rfl, .ty m, tyx_of e h1 hn, kit_ty hk, q _ B H (Gr.refl e) (by simp only [Rp])⟩
/-- and, or, not, if by values -/
theorem ev_andV {a b : Bool} (h1 : EvE K ta env (.bl a)) (h2 : a = true → EvE K tb env (.bl b)) : EvE K (tAndV ta tb) env (.bl (a && b)) := fun σ B s H1 e Q q =>
  h1 σ B s H1 e _ fun v B2 H2 g2 r2 => by
    simp only [Rp] at r2
    subst r2
    refine ⟨a, rfl, ?_⟩
    cases a with
    | true =>
      show tb σ H2 Q
      exact h2 rfl σ B2 (s.mono g2.b) H2 g2.h Q fun w B3 H3 g3 r3 => q w B3 H3 (g2.trans g3) r3
    | false =>
      show Q (.bl false) H2
      exact q _ B2 H2 g2 (by simp only [Rp, Bool.false_and])
theorem ev_orV {a b : Bool} (h1 : EvE K ta env (.bl a)) (h2 : a = false → EvE K tb env (.bl b)) : EvE K (tOrV ta tb) env (.bl (a || b)) := fun σ B s H1 e Q q =>
  h1 σ B s H1 e _ fun v B2 H2 g2 r2 => by
    simp only [Rp] at r2
    subst r2
    refine ⟨a, rfl, ?_⟩
    cases a with
    | false =>
      show tb σ H2 Q
      exact h2 rfl σ B2 (s.mono g2.b) H2 g2.h Q fun w B3 H3 g3 r3 => q w B3 H3 (g2.trans g3) r3
    | true =>
      show Q (.bl true) H2
      exact q _ B2 H2 g2 (by simp only [Rp, Bool.true_or])
theorem ev_notV {a : Bool} (h1 : EvE K ta env (.bl a)) : EvE K (tNotV ta) env (.bl (!a)) := fun σ B s H1 e Q q =>
  h1 σ B s H1 e _ fun v B2 H2 g2 r2 => by
    simp only [Rp] at r2
    subst r2
    exact ⟨a, rfl, q _ B2 H2 g2 (by simp only [Rp])⟩
theorem ev_ifE {b : Bool} (h : EvB K tt env b) (h1 : b = true → EvE K ta env d) (h2 : b = false → EvE K tb env d) : EvE K (tIf tt ta tb) env d := fun σ B s H1 e Q q =>
  h σ B s H1 e _ fun H2 e2 => by
    have gt : ∀ v B' H3, Gr B H2 B' H3 → Rp K B' d v → Q v H3 := fun v B' H3 g r => q v B' H3 ((Gr.keep e e2).trans g) r
    cases b with
    | true =>
      show ta σ H2 Q
      exact h1 rfl σ B s H2 (e.trans e2) Q gt
    | false =>
      show tb σ H2 Q
      exact h2 rfl σ B s H2 (e.trans e2) Q gt
/-- a chain of two -/
theorem ev_chain {r r' : R2} {x y z : Da} {k b : Bool} (ha : EvE K ta env x) (hb : EvE K tb env y) (hc : k = true → EvE K tc env z)
    (h1 : ∀ B H v w, Ex B H → Rp K B x v → Rp K B y w → ∀ Q : VK, (∀ u B' H2, Gr B H B' H2 → Rp K B' (.bl k) u → Q u H2) → r v w H Q)
    (h2 : k = true → ∀ B H v w, Ex B H → Rp K B y v → Rp K B z w → ∀ Q : VK, (∀ u B' H2, Gr B H B' H2 → Rp K B' (.bl b) u → Q u H2) → r' v w H Q) : EvE K (tChain r r' ta tb tc) env (.bl (k && b)) := fun σ B s H1 e Q q =>
  ha σ B s H1 e _ fun v B2 H2 g2 r2 => hb σ B2 (s.mono g2.b) H2 g2.h _ fun w B3 H3 g3 r3 =>
    h1 B3 H3 v w g3.h (r2.mono g3.b) r3 _ fun u B4 H4 g4 r4 => by
      simp only [Rp] at r4
      subst r4
      have g := (g2.trans g3).trans g4
      refine ⟨k, rfl, ?_⟩
      cases k with
      | true =>
        show tc σ H4 fun w' H4 => r' w w' H4 Q
        exact hc rfl σ B4 (s.mono g.b) H4 g.h _ fun w' B5 H5 g5 r5 => h2 rfl B5 H5 w w' g5.h ((r3.mono g4.b).mono g5.b) r5 Q fun u B6 H6 g6 r6 => q u B6 H6 ((g.trans g5).trans g6) (by simpa only [Bool.true_and] using r6)
      | false =>
        show Q (.bl false) H4
        exact q _ B4 H4 g (by simp only [Rp, Bool.false_and])
theorem ru_I {g : Int → Int → V} {b : Bool} (hg : g i j = .bl b) (B H : Hp) (v w : V) (e : Ex B H) (r1 : Rp K B (.int i) v) (r2 : Rp K B (.int j) w) (Q : VK) (q : ∀ u B' H2, Gr B H B' H2 → Rp K B' (.bl b) u → Q u H2) : rI0 g v w H Q := by
  simp only [Rp] at r1 r2
  subst r1 r2
  refine ⟨i, j, rfl, rfl, q _ B H (Gr.refl e) ?_⟩
  simp only [Rp]
  exact hg
theorem ev_chainI {g g' : Int → Int → V} {l : Int} {k b : Bool} (hg : g i j = .bl k) (hg' : g' j l = .bl b) (ha : EvE K ta env (.int i)) (hb : EvE K tb env (.int j)) (hc : k = true → EvE K tc env (.int l)) : EvE K (tChain (rI0 g) (rI0 g') ta tb tc) env (.bl (k && b)) :=
  ev_chain ha hb hc (ru_I hg) (fun _ => ru_I hg')

/-! ### tests -/
theorem eb_test {b : Bool} (h : EvE K te env (.bl b)) : EvB K (tTest te) env b := fun σ B s H1 e Q q =>
  h σ B s H1 e _ fun v B2 H2 g2 r2 => by
    simp only [Rp] at r2
    exact ⟨b, r2, q H2 g2.k⟩
theorem eb_B {b : Bool} (h : EvE K te env (.bl b)) : EvB K (tB te) env b := fun σ B s H1 e Q q =>
  h σ B s H1 e _ fun v B2 H2 g2 r2 => by
    simp only [Rp] at r2
    exact ⟨b, r2, q H2 g2.k⟩
theorem eb_not {a : Bool} (h : EvB K tt env a) : EvB K (tNot tt) env (!a) := fun σ B s H1 e Q q => h σ B s H1 e _ fun H2 e2 => q H2 e2
theorem eb_and {a b : Bool} (h1 : EvB K tt env a) (h2 : a = true → EvB K tu env b) : EvB K (tAnd tt tu) env (a && b) := fun σ B s H1 e Q q => h1 σ B s H1 e _ fun H2 e2 => by
  cases a with
  | true =>
    show tu σ H2 Q
    exact h2 rfl σ B s H2 (e.trans e2) Q fun H3 e3 => q H3 (e2.trans e3)
  | false =>
    show Q false H2
    exact q H2 e2
theorem eb_or {a b : Bool} (h1 : EvB K tt env a) (h2 : a = false → EvB K tu env b) : EvB K (tOr tt tu) env (a || b) := fun σ B s H1 e Q q => h1 σ B s H1 e _ fun H2 e2 => by
  cases a with
  | true =>
    show Q true H2
    exact q H2 e2
  | false =>
    show tu σ H2 Q
    exact h2 rfl σ B s H2 (e.trans e2) Q fun H3 e3 => q H3 (e2.trans e3)
theorem eb_yes : EvB K tYes env true := fun σ B s H1 e Q q => q H1 (Ex.refl _)

/-! ### slices -/
def EvO (K : PySem.W.Frag) (to : TO) (env : En) (o : Option Int) : Prop := ∀ σ B, SD K B σ env → ∀ H1, Ex B H1 → ∀ Q : Option Int → Hp → Prop, (∀ H2, Ex H1 H2 → Q o H2) → to σ H1 Q
theorem eo_none : EvO K tNoPart env none := fun σ B s H1 e Q q => q H1 (Ex.refl _)
theorem eo_some (h : EvE K te env (.int i)) : EvO K (tPart te) env (some i) := fun σ B s H1 e Q q => h σ B s H1 e _ fun v B2 H2 g2 r2 => by
  simp only [Rp] at r2
  exact ⟨i, r2, q H2 g2.k⟩
theorem en_slL {tl th : TO} {lo hi : Option Int} (h : EvE K te env (.lst ds)) (h1 : EvO K tl env lo) (h2 : EvO K th env hi) : EvN K (tSl (rSlL K) te tl th) env (cutD ds lo hi) := fun σ B s H1 e Q q =>
  h σ B s H1 e _ fun v B2 H2 g2 r2 => h1 σ B2 (s.mono g2.b) H2 g2.h _ fun H3 e3 => h2 σ B2 (s.mono g2.b) H3 (g2.h.trans e3) _ fun H4 e4 => by
    simp only [Rp] at r2
    obtain ⟨a, xs, rfl, h5, h6⟩ := r2
    exact ⟨a, xs, rfl, sq_of (e4 _ _ (e3 _ _ (g2.h _ _ h5))), fun p hp => q p _ B2 _ ((g2.trans (Gr.keep g2.h (e3.trans e4))).trans (Gr.put (g2.h.trans (e3.trans e4)) hp)) (fresh_back (g2.k.trans (e3.trans e4)) hp) (fresh_back (g2.h.trans (e3.trans e4)) hp) upd_same (rp_cut h6)⟩
theorem en_slQ {tl th : TO} {lo hi : Option Int} (h : EvE K te env (.sq ds)) (h1 : EvO K tl env lo) (h2 : EvO K th env hi) : EvN K (tSl (rSlL K) te tl th) env (cutD ds lo hi) := fun σ B s H1 e Q q =>
  h σ B s H1 e _ fun v B2 H2 g2 r2 => h1 σ B2 (s.mono g2.b) H2 g2.h _ fun H3 e3 => h2 σ B2 (s.mono g2.b) H3 (g2.h.trans e3) _ fun H4 e4 => by
    simp only [Rp] at r2
    obtain ⟨a, xs, rfl, h5, h6⟩ := r2
    exact ⟨a, xs, rfl, ex_l e4 (ex_l e3 (ex_l g2.h h5)), fun p hp => q p _ B2 _ ((g2.trans (Gr.keep g2.h (e3.trans e4))).trans (Gr.put (g2.h.trans (e3.trans e4)) hp)) (fresh_back (g2.k.trans (e3.trans e4)) hp) (fresh_back (g2.h.trans (e3.trans e4)) hp) upd_same (rp_cut h6)⟩
theorem en_rev (h : EvE K te env (.lst ds)) : EvN K (tRevL K te) env ds.reverse := fun σ B s H1 e Q q =>
  h σ B s H1 e _ fun v B2 H2 g2 r2 => by
    simp only [Rp] at r2
    obtain ⟨a, xs, rfl, h5, h6⟩ := r2
    exact ⟨a, xs, rfl, sq_of (g2.h _ _ h5), fun p hp => q p _ B2 _ (g2.trans (Gr.put g2.h hp)) (fresh_back g2.k hp) (fresh_back g2.h hp) upd_same h6.rev⟩
theorem en_cat (ha : EvE K ta env (.lst ds)) (hb : EvE K tb env (.lst es)) (hl : ds.length + es.length ≤ 100000) : EvN K (tOp rCat ta tb) env (ds ++ es) :=
  ev_opN ha hb fun B H v w e r1 r2 Q q => by
    simp only [Rp] at r1 r2
    obtain ⟨a, xs, rfl, h2, h3⟩ := r1
    obtain ⟨b, ys, rfl, h4, h5⟩ := r2
    exact ⟨a, b, xs, ys, rfl, rfl, e _ _ h2, e _ _ h4, sz_of (by rw [h3.len, h5.len]; exact hl), fun p hp => q p _ B _ (Gr.put e hp) hp (fresh_back e hp) upd_same (h3.app h5)⟩
theorem en_listRg (ha : EvE K ta env (.int i)) (hb : EvE K tb env (.int j)) (h : RgOk i j) : EvN K (tLstRg (tRg2 ta tb)) env ((List.range (j - i).toNat).map fun k => Da.int (i + (k : Nat))) := fun σ B s H1 e Q q =>
  ha σ B s H1 e _ fun v B2 H2 g2 r2 => hb σ B2 (s.mono g2.b) H2 g2.h _ fun w B3 H3 g3 r3 => by
    simp only [Rp] at r2 r3
    subst r2 r3
    refine ⟨i, j, rfl, rfl, h, fun p hp => q p _ B3 _ ((g2.trans g3).trans (Gr.put g3.h hp)) (fresh_back (g2.trans g3).k hp) (fresh_back g3.h hp) upd_same ?_⟩
    have z := ints_rp (K := K) (B := B3) ((List.range (j - i).toNat).map fun k => i + ((k : Nat) : Int))
    rw [List.map_map, List.map_map] at z
    exact z
theorem en_listRg1 (hb : EvE K tb env (.int j)) (h : RgOk 0 j) : EvN K (tLstRg (tRg1 tb)) env ((List.range j.toNat).map fun k => Da.int ((k : Nat) : Int)) := fun σ B s H1 e Q q =>
  hb σ B s H1 e _ fun w B3 H3 g3 r3 => by
    simp only [Rp] at r3
    subst r3
    refine ⟨j, rfl, h, fun p hp => q p _ B3 _ (g3.trans (Gr.put g3.h hp)) (fresh_back g3.k hp) (fresh_back g3.h hp) upd_same ?_⟩
    have z := ints_rp (K := K) (B := B3) ((List.range (j - 0).toNat).map fun k => (0 : Int) + ((k : Nat) : Int))
    rw [List.map_map, List.map_map] at z
    have e0 : (j - 0).toNat = j.toNat := by rw [Int.sub_zero]
    rw [e0] at z
    have e1 : rgV 0 j = List.map (V.int ∘ fun k : Nat => 0 + (k : Int)) (List.range j.toNat) := by
      unfold rgV
      rw [e0]
      rfl
    rw [e1]
    have e2 : (List.map (fun k : Nat => Da.int (k : Int)) (List.range j.toNat)) = List.map (Da.int ∘ fun k : Nat => (0 : Int) + (k : Int)) (List.range j.toNat) := by
      apply List.map_congr_left
      intro a _
      simp
    rw [e2]
    exact z
end

/-! ### targets, walks, comprehensions -/
def TgE (K : PySem.W.Frag) (g : TG) (d : Da) (env env' : En) : Prop := ∀ σ B v, SD K B σ env → Rp K B d v → ∀ H, Ex B H → ∀ Q : L2.St → Hp → Prop, (∀ σ', SD K B σ' env' → Q σ' H) → g v σ H Q
section
variable {K : PySem.W.Frag} {env env' env2 : En} {d : Da}
theorem tg_name {i : Nat} : TgE K (gName i) d env (env.set i (.im d)) := fun σ B v s r H e Q q => q _ (s.set r)
theorem tg_tup2 {g1 g2 : TG} {x y : Da} (h1 : TgE K g1 x env env') (h2 : TgE K g2 y env' env2) : TgE K (gTup K 2 (gCons g1 (gCons g2 gNil))) (.tup [x, y]) env env2 := fun σ B v s r H e Q q => by
  simp only [Rp] at r
  obtain ⟨a, xs, rfl, h, hr⟩ := r
  obtain ⟨v, w, rfl, r1, r2⟩ := two_rp hr
  refine ⟨a, [v, w], rfl, st_of (e _ _ h), rfl, v, [w], rfl, h1 σ B v s r1 H e _ fun σ' s' => ⟨w, [], rfl, h2 σ' B w s' r2 H e _ fun σ2 s2 => ⟨rfl, q σ2 s2⟩⟩⟩
theorem tg_tup3 {g1 g2 g3 : TG} {x y z : Da} {env3 : En} (h1 : TgE K g1 x env env') (h2 : TgE K g2 y env' env2) (h3 : TgE K g3 z env2 env3) : TgE K (gTup K 3 (gCons g1 (gCons g2 (gCons g3 gNil)))) (.tup [x, y, z]) env env3 := fun σ B v s r H e Q q => by
  simp only [Rp] at r
  obtain ⟨a, xs, rfl, h, hr⟩ := r
  obtain ⟨v, r', rfl, r1, hr2⟩ := hr.uncons
  obtain ⟨w, u, rfl, r2, r3⟩ := two_rp hr2
  refine ⟨a, [v, w, u], rfl, st_of (e _ _ h), rfl, v, [w, u], rfl, h1 σ B v s r1 H e _ fun σ' s' => ⟨w, [u], rfl, h2 σ' B w s' r2 H e _ fun σ2 s2 => ⟨u, [], rfl, h3 σ2 B u s2 r3 H e _ fun σ3 s3 => ⟨rfl, q σ3 s3⟩⟩⟩⟩
end
end FR

/-! Walks, comprehensions, statements over data. -/
namespace FR
open PySem L2 Evl

/-! ### what is walked -/
def WkE (K : PySem.W.Frag) (wi : TI) (env : En) (ds : List Da) : Prop := ∀ σ B, SD K B σ env → ∀ H1, Ex B H1 → ∀ R : It → Hp → Prop,
  (∀ J B' H2 G Y, Gr B H1 B' H2 → Walk J ds.length G Y → (∀ H, Ex B' H → G H) → (∀ i H x H' Bi, Ex B' Bi → Ex Bi H → Y i H x H' → ∃ d B2, ds[i]? = some d ∧ Gr Bi H B2 H' ∧ Rp K B2 d x) → R J H2) → wi σ H1 R
section
variable {K : PySem.W.Frag} {env : En} {te ta tb : TE} {ds es : List Da} {i j : Int}
theorem wk_list (h : EvE K te env (.lst ds)) : WkE K (iList K te) env ds := fun σ B s H1 e R q =>
  h σ B s H1 e _ fun v B2 H2 g r => by
    simp only [Rp] at r
    obtain ⟨a, xs, rfl, h2, h3⟩ := r
    refine ⟨a, rfl, ⟨xs, sq_of (g.h _ _ h2)⟩, ?_⟩
    have w : Walk (Itl K a) xs.length (fun H => SqL K H a xs) (YAt xs) := walk_list
    rw [h3.len] at w
    refine q _ B2 H2 _ _ g w (fun H e2 => sq_of (e2 _ _ h2)) fun i H x H' Bi eb eh y => ?_
    obtain ⟨rfl, hx⟩ := y
    obtain ⟨d, hd, rd⟩ := h3.getV hx
    exact ⟨d, Bi, hd, Gr.refl eh, rd.mono eb⟩
theorem wk_sq (h : EvE K te env (.sq ds)) : WkE K (iList K te) env ds := fun σ B s H1 e R q =>
  h σ B s H1 e _ fun v B2 H2 g r => by
    simp only [Rp] at r
    obtain ⟨a, xs, rfl, h2, h3⟩ := r
    refine ⟨a, rfl, ⟨xs, ex_l g.h h2⟩, ?_⟩
    have w : Walk (Itl K a) xs.length (fun H => SqL K H a xs) (YAt xs) := walk_list
    rw [h3.len] at w
    refine q _ B2 H2 _ _ g w (fun H e2 => ex_l e2 h2) fun i H x H' Bi eb eh y => ?_
    obtain ⟨rfl, hx⟩ := y
    obtain ⟨d, hd, rd⟩ := h3.getV hx
    exact ⟨d, Bi, hd, Gr.refl eh, rd.mono eb⟩
theorem wk_tup (h : EvE K te env (.tup ds)) : WkE K (iTup K te) env ds := fun σ B s H1 e R q =>
  h σ B s H1 e _ fun v B2 H2 g r => by
    simp only [Rp] at r
    obtain ⟨a, xs, rfl, h2, h3⟩ := r
    refine ⟨a, rfl, ⟨xs, st_of (g.h _ _ h2)⟩, ?_⟩
    have w : Walk (Itt K a) xs.length (fun H => SqT K H a xs) (YAt xs) := walk_tup
    rw [h3.len] at w
    refine q _ B2 H2 _ _ g w (fun H e2 => st_of (e2 _ _ h2)) fun i H x H' Bi eb eh y => ?_
    obtain ⟨rfl, hx⟩ := y
    obtain ⟨d, hd, rd⟩ := h3.getV hx
    exact ⟨d, Bi, hd, Gr.refl eh, rd.mono eb⟩
theorem wk_rev {ta : TE} (h : EvE K te env (.lst ds)) : WkE K (iRev K (tCons te tNil)) env ds.reverse := fun σ B s H1 e R q =>
  h σ B s H1 e _ fun v B2 H2 g r => by
    simp only [Rp] at r
    obtain ⟨a, xs, rfl, h2, h3⟩ := r
    refine ⟨a, xs, rfl, sq_of (g.h _ _ h2), ?_⟩
    have w := walk_rev (K := K) (a := a) (xs := xs)
    have hl : xs.length = ds.reverse.length := by rw [h3.len, List.length_reverse]
    have w' : Walk (Itv K a xs.length) ds.reverse.length (fun H => SqL K H a xs) (fun i H x H' => H' = H ∧ xs[xs.length - 1 - i]? = some x ∧ i < xs.length) := by
      rw [← hl]
      exact w.mono (fun _ h => h) fun i H x H' hi _ y => ⟨y.1, y.2, hi⟩
    refine q _ B2 H2 _ _ g w' (fun H e2 => sq_of (e2 _ _ h2)) fun i H x H' Bi eb eh y => ?_
    obtain ⟨rfl, hx, hi⟩ := y
    have hrev := h3.rev
    have hx' : xs.reverse[i]? = some x := by
      rw [List.getElem?_reverse hi]
      exact hx
    obtain ⟨d, hd, rd⟩ := hrev.getV hx'
    exact ⟨d, Bi, hd, Gr.refl eh, rd.mono eb⟩
def rngD (i j : Int) : List Da := (List.range (j - i).toNat).map fun k => Da.int (i + (k : Nat))
theorem rngD_len (i j : Int) : (rngD i j).length = (j - i).toNat := by
  unfold rngD
  rw [List.length_map, List.length_range]
theorem rngD_get {i j : Int} {k : Nat} (h : k < (j - i).toNat) : (rngD i j)[k]? = some (.int (i + (k : Nat))) := by
  unfold rngD
  rw [List.getElem?_map, List.getElem?_range h]
  rfl
theorem wk_rng2 (ha : EvE K ta env (.int i)) (hb : EvE K tb env (.int j)) (hi : -(2 ^ 62) ≤ i ∧ i < 2 ^ 62 ∧ -(2 ^ 62) ≤ j ∧ j < 2 ^ 62) : WkE K (iRng2 (tCons ta (tCons tb tNil))) env (rngD i j) := fun σ B s H1 e R q =>
  ha σ B s H1 e _ fun v B2 H2 g2 r2 => hb σ B2 (s.mono g2.b) H2 g2.h _ fun w B3 H3 g3 r3 => by
    simp only [Rp] at r2 r3
    subst r2 r3
    refine ⟨i, j, rfl, hi, ?_⟩
    have w : Walk (Itr i (j - i).toNat) (rngD i j).length (fun _ => True) (fun k H x H' => (H' = H ∧ x = .int (i + k)) ∧ k < (j - i).toNat) := by
      rw [rngD_len]
      exact walk_range.mono (fun _ h => h) fun k H x H' hk _ y => ⟨y, hk⟩
    refine q _ B3 H3 _ _ (g2.trans g3) w (fun _ _ => trivial) fun k H x H' Bi eb eh y => ?_
    obtain ⟨⟨rfl, rfl⟩, hk⟩ := y
    exact ⟨_, Bi, rngD_get hk, Gr.refl eh, by simp only [Rp]⟩
theorem wk_rng1 (hb : EvE K tb env (.int j)) (hi : -(2 ^ 62) ≤ j ∧ j < 2 ^ 62) : WkE K (iRng1 (tCons tb tNil)) env (rngD 0 j) := fun σ B s H1 e R q =>
  hb σ B s H1 e _ fun w B3 H3 g3 r3 => by
    simp only [Rp] at r3
    subst r3
    refine ⟨j, rfl, hi.1, hi.2, ?_⟩
    have w : Walk (Itr 0 j.toNat) (rngD 0 j).length (fun _ => True) (fun k H x H' => (H' = H ∧ x = .int (0 + k)) ∧ k < (j - 0).toNat) := by
      rw [rngD_len, Int.sub_zero]
      exact walk_range.mono (fun _ h => h) fun k H x H' hk _ y => ⟨y, hk⟩
    refine q _ B3 H3 _ _ g3 w (fun _ _ => trivial) fun k H x H' Bi eb eh y => ?_
    obtain ⟨⟨rfl, rfl⟩, hk⟩ := y
    exact ⟨_, Bi, rngD_get hk, Gr.refl eh, by simp only [Rp]⟩
theorem wk_zip (ha : EvE K ta env (.lst ds)) (hb : EvE K tb env (.lst es)) : WkE K (iZip K (tCons ta (tCons tb tNil))) env (List.zipWith (fun x y => Da.tup [x, y]) ds es) := fun σ B s H1 e R q =>
  ha σ B s H1 e _ fun v B2 H2 g2 r2 => hb σ B2 (s.mono g2.b) H2 g2.h _ fun w B3 H3 g3 r3 => by
    simp only [Rp] at r2 r3
    obtain ⟨a, xs, rfl, h2, h3⟩ := r2
    obtain ⟨b, ys, rfl, h4, h5⟩ := r3
    refine ⟨a, b, xs, ys, rfl, sq_of (g3.h _ _ (g3.b _ _ h2)), sq_of (g3.h _ _ h4), ?_⟩
    have hl : (List.zipWith (fun x y => Da.tup [x, y]) ds es).length = min xs.length ys.length := by rw [List.length_zipWith, h3.len, h5.len]
    have w := walk_zip (K := K) (a := a) (b := b) hl
    refine q _ B3 H3 _ _ (g2.trans g3) w (fun H e2 => ⟨sq_of (e2 _ _ (g3.b _ _ h2)), sq_of (e2 _ _ h4)⟩) fun k H x H' Bi eb eh y => ?_
    obtain ⟨T, x1, x2, rfl, hT, rfl, e1, e2⟩ := y
    obtain ⟨d1, hd1, r1⟩ := h3.getV e1
    obtain ⟨d2, hd2, r2⟩ := h5.getV e2
    have nb : Ex Bi (upd Bi T (.tup [x1, x2])) := Ex.new (fresh_back eh hT)
    refine ⟨.tup [d1, d2], upd Bi T (.tup [x1, x2]), ?_, Gr.lay eh hT, ?_⟩
    · rw [List.getElem?_zipWith, hd1, hd2]
    · simp only [Rp]
      exact ⟨T, [x1, x2], rfl, upd_same, .cons (((r1.mono g3.b).mono eb).mono nb) (.cons ((r2.mono eb).mono nb) .nil)⟩
end

/-! ### comprehensions -/
def TgC (K : PySem.W.Frag) (g : TG) (d : Da) (env env' : En) (us : List Nat) : Prop := ∀ σ B v, SD K B σ env → Rp K B d v → ∀ H, Ex B H → ∀ Q : L2.St → Hp → Prop,
  (∀ σ', SD K B σ' env' → σ'.length = σ.length → (∀ j, j ∉ us → σ'[j]? = σ[j]?) → Q σ' H) → g v σ H Q
section
variable {K : PySem.W.Frag} {env env' env2 : En}
theorem tc_name {i : Nat} {d : Da} : TgC K (gName i) d env (env.set i (.im d)) [i] := fun σ B v s r H e Q q =>
  q _ (s.set r) (by rw [List.length_set]) fun j hj => by
    rw [List.getElem?_set_ne]
    intro z
    exact hj (by simp [z])
theorem tc_tup2 {g1 g2 : TG} {x y : Da} {u1 u2 : List Nat} (h1 : TgC K g1 x env env' u1) (h2 : TgC K g2 y env' env2 u2) : TgC K (gTup K 2 (gCons g1 (gCons g2 gNil))) (.tup [x, y]) env env2 (u1 ++ u2) := fun σ B v s r H e Q q => by
  simp only [Rp] at r
  obtain ⟨a, xs, rfl, h, hr⟩ := r
  obtain ⟨v, w, rfl, r1, r2⟩ := two_rp hr
  refine ⟨a, [v, w], rfl, st_of (e _ _ h), rfl, v, [w], rfl, h1 σ B v s r1 H e _ fun σ' s' l1 n1 => ⟨w, [], rfl, h2 σ' B w s' r2 H e _ fun σ2 s2 l2 n2 => ⟨rfl, q σ2 s2 (l2.trans l1) fun j hj => ?_⟩⟩⟩
  rw [n2 j fun z => hj (List.mem_append_right _ z), n1 j fun z => hj (List.mem_append_left _ z)]
theorem tc_tup3 {g1 g2 g3 : TG} {x y z : Da} {env3 : En} {u1 u2 u3 : List Nat} (h1 : TgC K g1 x env env' u1) (h2 : TgC K g2 y env' env2 u2) (h3 : TgC K g3 z env2 env3 u3) : TgC K (gTup K 3 (gCons g1 (gCons g2 (gCons g3 gNil)))) (.tup [x, y, z]) env env3 (u1 ++ u2 ++ u3) := fun σ B v s r H e Q q => by
  simp only [Rp] at r
  obtain ⟨a, xs, rfl, h, hr⟩ := r
  obtain ⟨v, r', rfl, r1, hr2⟩ := hr.uncons
  obtain ⟨w, u, rfl, r2, r3⟩ := two_rp hr2
  refine ⟨a, [v, w, u], rfl, st_of (e _ _ h), rfl, v, [w, u], rfl, h1 σ B v s r1 H e _ fun σ' s' l1 n1 => ⟨w, [u], rfl, h2 σ' B w s' r2 H e _ fun σ2 s2 l2 n2 => ⟨u, [], rfl, h3 σ2 B u s2 r3 H e _ fun σ3 s3 l3 n3 => ⟨rfl, q σ3 s3 (l3.trans (l2.trans l1)) fun j hj => ?_⟩⟩⟩⟩
  rw [n3 j fun z => hj (List.mem_append_right _ z), n2 j fun z => hj (List.mem_append_left _ (List.mem_append_right _ z)), n1 j fun z => hj (List.mem_append_left _ (List.mem_append_left _ z))]
theorem wipe_get (σ : L2.St) : ∀ (vs : List Nat) (j : Nat), (L2.wipe σ vs)[j]? = if j ∈ vs then (if j < σ.length then some none else none) else σ[j]?
  | [], j => by simp [L2.wipe]
  | v :: vs, j => by
    show ((L2.wipe σ vs).set v none)[j]? = _
    by_cases e : v = j
    · subst e
      rw [List.getElem?_set_self']
      simp only [List.mem_cons, true_or, if_true]
      by_cases hl : v < σ.length
      · have h2 : v < (L2.wipe σ vs).length := by rw [L2.wipe_length]; exact hl
        rw [List.getElem?_eq_getElem h2, if_pos hl]
        rfl
      · have h2 : ¬ v < (L2.wipe σ vs).length := by rw [L2.wipe_length]; exact hl
        rw [List.getElem?_eq_none (by omega), if_neg hl]
        rfl
    · rw [List.getElem?_set_ne e, wipe_get σ vs j]
      have e2 : (j ∈ v :: vs) = (j ∈ vs) := by
        simp only [List.mem_cons, eq_iff_iff, or_iff_right_iff_imp]
        intro z
        exact absurd z.symm e
      simp only [e2]
theorem wipe_eq {σ σ' : L2.St} {vs us : List Nat} (hl : σ'.length = (L2.wipe σ vs).length) (h : ∀ j, j ∉ us → σ'[j]? = (L2.wipe σ vs)[j]?) (hu : ∀ j ∈ us, j ∈ vs) : L2.wipe σ' vs = L2.wipe σ vs := by
  apply List.ext_getElem?
  intro j
  rw [wipe_get, wipe_get]
  rw [L2.wipe_length] at hl
  by_cases hj : j ∈ vs
  · rw [if_pos hj, if_pos hj, hl]
  · rw [if_neg hj, if_neg hj, h j fun z => hj (hu j z), wipe_get, if_neg hj]
variable {wi : TI} {g : TG} {tt : TT} {te : TE} {vs us : List Nat}
theorem en_lc {α : Type} (δ : α → Da) (p : α → Bool) (f : α → Da) (xs : List α) (hw : WkE K wi env (xs.map δ)) (hu : ∀ j ∈ us, j ∈ vs) (hz : xs.length ≤ 50000)
    (h : ∀ x ∈ xs, ∃ env', TgC K g (δ x) (wipeE env vs) env' us ∧ EvB K tt env' (p x) ∧ (p x = true → EvE K te env' (f x))) : EvN K (tLc wi g tt te vs) env ((xs.filter p).map f) := fun σ B s H1 e Q q =>
  hw σ B s H1 e _ fun J B' H2 G Y g0 w hG hY D hD => by
    rw [List.length_map] at w
    refine lc_it w (fun i H => ∃ Bi acc, Ex B' Bi ∧ Ex Bi H ∧ (∀ a, H2 a ≠ none → Bi a = B' a ∧ H a = H2 a) ∧ Bi D = none ∧ H D = some (.lst acc) ∧ RpAll K Bi (((xs.take i).filter p).map f) acc)
      ⟨B', [], Ex.refl _, g0.h.trans (Ex.new hD), fun a ha => ⟨rfl, upd_ne fun z => ha (by rw [z]; exact hD)⟩, fresh_back g0.h hD, upd_same, .nil⟩
      (fun i H _ hp => by
        obtain ⟨Bi, acc, e1, e2, _⟩ := hp
        exact hG H (e1.trans e2)) ?_ ?_
    · rintro i x H H' hi ⟨Bi, acc, e1, e2, old, bD, hDD, racc⟩ y
      obtain ⟨d, B2, hd, gy, rd⟩ := hY i H x H' Bi e1 e2 y
      rw [List.getElem?_map] at hd
      obtain ⟨x0, hx0, rfl⟩ : ∃ x0, xs[i]? = some x0 ∧ δ x0 = d := by
        cases hq : xs[i]? with
        | none =>
          rw [hq] at hd
          cases hd
        | some x0 =>
          rw [hq] at hd
          exact ⟨x0, rfl, Option.some.inj hd⟩
      obtain ⟨env', tg, tb, tv⟩ := h x0 (List.mem_of_getElem? hx0)
      have sw : SD K B2 (L2.wipe σ vs) (wipeE env vs) := (s.wipe vs).mono (((g0.b).trans e1).trans gy.b)
      refine tg _ B2 x sw rd H' gy.h _ fun σ2 s2 hl hn => ⟨wipe_eq hl hn hu, ?_⟩
      refine tb σ2 B2 s2 H' gy.h _ fun H3 e3 => ?_
      have hDn : H D ≠ none := by rw [hDD]; exact fun z => by cases z
      have b2D : B2 D = none := by rw [gy.n D hDn, bD]
      have h3D : H3 D = some (.lst acc) := e3 _ _ (gy.k _ _ hDD)
      have neD : ∀ a, H2 a ≠ none → a ≠ D := fun a ha z => ha (by rw [z]; exact hD)
      have hHn : ∀ a, H2 a ≠ none → H a ≠ none := fun a ha => by rw [(old a ha).2]; exact ha
      have exn : ∀ {Ha Hb : Hp} {a : Addr}, Ex Ha Hb → Ha a ≠ none → Hb a = Ha a := fun {Ha Hb a} ee ha => by
        cases hq : Ha a with
        | none => exact absurd hq ha
        | some o => exact ee a o hq
      have takeS : xs.take (i + 1) = xs.take i ++ [x0] := by
        rw [List.take_add_one, hx0]
        rfl
      cases hp : p x0 with
      | true =>
        show te σ2 H3 _
        refine tv hp σ2 B2 s2 H3 (gy.h.trans e3) _ fun v B3 H4 g4 r4 => ?_
        have h3n : ∀ a, H a ≠ none → H3 a ≠ none := fun a ha => by rw [exn (gy.k.trans e3) ha]; exact ha
        have b3D : B3 D = none := by rw [g4.n D (by rw [h3D]; exact fun z => by cases z), b2D]
        refine ⟨acc, g4.k _ _ h3D, sz_lt ?_, B3, acc ++ [v], (e1.trans gy.b).trans g4.b, Ex.mut g4.h b3D, fun a ha => ⟨?_, ?_⟩, b3D, upd_same, ?_⟩
        · have l1 := racc.len
          have l2 := List.length_filter_le p (xs.take i)
          rw [List.length_map] at l1
          rw [List.length_take] at l2
          omega
        · rw [g4.n a (h3n a (hHn a ha)), gy.n a (hHn a ha), (old a ha).1]
        · rw [upd_ne (neD a ha), exn g4.k (h3n a (hHn a ha)), exn (gy.k.trans e3) (hHn a ha), (old a ha).2]
        · rw [takeS, List.filter_append, List.map_append, show List.filter p [x0] = [x0] by simp [hp]]
          exact (RpAll.mono (gy.b.trans g4.b) _ _ racc).app (.cons r4 .nil)
      | false =>
        show ∃ Bi acc, _
        refine ⟨B2, acc, e1.trans gy.b, gy.h.trans e3, fun a ha => ⟨?_, ?_⟩, b2D, h3D, ?_⟩
        · rw [gy.n a (hHn a ha), (old a ha).1]
        · rw [exn (gy.k.trans e3) (hHn a ha), (old a ha).2]
        · rw [takeS, List.filter_append, show List.filter p [x0] = [] by simp [hp], List.append_nil]
          exact RpAll.mono gy.b _ _ racc
    · rintro H ⟨Bi, acc, e1, e2, old, bD, hDD, racc⟩
      rw [List.take_length] at racc
      refine q D acc Bi H (g0.trans ⟨e1, e2, fun a o ha => ?_, fun a ha => (old a ha).1⟩) (fresh_back g0.k hD) bD hDD racc
      rw [(old a (by rw [ha]; exact fun z => by cases z)).2]
      exact ha
end

/-! ### states -/
def OwL (K : PySem.W.Frag) (B H : Hp) : List (List Da) → List Addr → Prop
  | [], ls => ls = []
  | ds :: r, ls => ∃ l t xs, ls = l :: t ∧ H l = some (.lst xs) ∧ RpAll K B ds xs ∧ OwL K B H r t
def SlO (K : PySem.W.Frag) (B H : Hp) (o : Option (Option V)) (A : List Addr) : Sl → Prop
  | .no => True
  | .im d => ∃ v, o = some (some v) ∧ Rp K B d v
  | .mu ds => ∃ l xs, o = some (some (.ref l)) ∧ A = [l] ∧ H l = some (.lst xs) ∧ RpAll K B ds xs
  | .md kvs => ∃ l ws, o = some (some (.ref l)) ∧ A = [l] ∧ H l = some (.dK ws) ∧ KvR K B kvs ws
  | .ob C ns dss => ∃ a dx ls, o = some (some (.ref a)) ∧ A = a :: ls ∧ A.Nodup ∧ H a = some (.ins C dx (ns.zip (ls.map V.ref))) ∧ ls.length = ns.length ∧ OwL K B H dss ls
structure Sta (K : PySem.W.Frag) (B0 H0 B H : Hp) (σ : L2.St) (env : En) : Prop where
  eB : Ex B0 B
  eH : Ex B H
  old : ∀ a, H0 a ≠ none → B a = B0 a ∧ H a = H0 a
  len : env.length = σ.length
  own : ∃ ad : Nat → List Addr, (∀ i j x, x ∈ ad i → x ∈ ad j → i = j) ∧ (∀ i x, x ∈ ad i → H0 x = none ∧ B x = none ∧ H x ≠ none) ∧ ∀ i s, env[i]? = some s → SlO K B H (σ[i]?) (ad i) s
structure Ed where
  nx : En → Prop
  rd : Da → Prop
  rl : List Da → Prop
  ro : Addr → List Str → List (List Da) → Prop := fun _ _ _ => False
  bk : En → Prop := fun _ => False
  ct : En → Prop := fun _ => False
  xk : WX := fun _ _ _ _ => True
  rx : En → Addr → Prop := fun _ _ => False
structure EndsOk (K : PySem.W.Frag) (B0 H0 Bs : Hp) (D : Ends) (E : Ed) : Prop where
  nx : ∀ σ B H env, Sta K B0 H0 B H σ env → Ex Bs B → E.nx env → D.nx σ H
  bk : ∀ σ B H env, Sta K B0 H0 B H σ env → Ex Bs B → E.bk env → D.bk σ H
  ct : ∀ σ B H env, Sta K B0 H0 B H σ env → Ex Bs B → E.ct env → D.ct σ H
  rd : ∀ v B H d, Gr B0 H0 B H → Rp K B d v → E.rd d → D.rt v H
  rl : ∀ l xs B H ds, Gr B0 H0 B H → H0 l = none → B l = none → H l = some (.lst xs) → RpAll K B ds xs → E.rl ds → D.rt (.ref l) H
  ro : ∀ a dx ls B H C ns dss, Gr B0 H0 B H → (a :: ls).Nodup → (∀ x ∈ a :: ls, H0 x = none ∧ B x = none) → H a = some (.ins C dx (ns.zip (ls.map V.ref))) → ls.length = ns.length → OwL K B H dss ls → E.ro C ns dss → D.rt (.ref a) H
  rx : ∀ σ B H env C, Sta K B0 H0 B H σ env → Ex Bs B → E.rx env C → E.xk (.ref C) none σ H
def Run (K : PySem.W.Frag) (t : TS) (env : En) (E : Ed) : Prop := ∀ B0 H0 B H σ D Bs, Ex Bs B → Sta K B0 H0 B H σ env → EndsOk K B0 H0 Bs D E → t D σ H
section
variable {K : PySem.W.Frag} {B0 H0 B B' H H' H1 H2 : Hp} {σ : L2.St} {env env' : En}
theorem ex_ne {Ha Hb : Hp} {a : Addr} (ee : Ex Ha Hb) (ha : Ha a ≠ none) : Hb a = Ha a := by
  cases hq : Ha a with
  | none => exact absurd hq ha
  | some o => exact ee a o hq
theorem ex_nn {Ha Hb : Hp} {a : Addr} (ee : Ex Ha Hb) (ha : Ha a ≠ none) : Hb a ≠ none := by
  rw [ex_ne ee ha]
  exact ha
theorem OwL.up (eB : Ex B B') (eH : Ex H H') : ∀ {dss : List (List Da)} {ls : List Addr}, OwL K B H dss ls → OwL K B' H' dss ls
  | [], ls, h => h
  | ds :: r, ls, h => by
    obtain ⟨l, t, xs, h1, h2, h3, h4⟩ := h
    exact ⟨l, t, xs, h1, eH _ _ h2, RpAll.mono eB _ _ h3, h4.up eB eH⟩
theorem SlO.up (eB : Ex B B') (eH : Ex H H') {o : Option (Option V)} {A : List Addr} {s : Sl} (h : SlO K B H o A s) : SlO K B' H' o A s := by
  cases s with
  | no => trivial
  | im d =>
    obtain ⟨v, h1, h2⟩ := h
    exact ⟨v, h1, h2.mono eB⟩
  | mu ds =>
    obtain ⟨l, xs, h1, h2, h3, h4⟩ := h
    exact ⟨l, xs, h1, h2, eH _ _ h3, RpAll.mono eB _ _ h4⟩
  | md kvs =>
    obtain ⟨l, ws, h1, h2, h3, h4⟩ := h
    exact ⟨l, ws, h1, h2, eH _ _ h3, h4.mono eB⟩
  | ob C ns dss =>
    obtain ⟨a, dx, ls, h1, h2, h3, h4, h5, h6⟩ := h
    exact ⟨a, dx, ls, h1, h2, h3, eH _ _ h4, h5, h6.up eB eH⟩
theorem Sta.gr (s : Sta K B0 H0 B H σ env) : Gr B0 H0 B H := ⟨s.eB, s.eH, fun a o h => by rw [(s.old a (by rw [h]; exact fun z => by cases z)).2]; exact h, fun a h => (s.old a h).1⟩
/-- the heap and the base grow -/
theorem Sta.up (s : Sta K B0 H0 B H σ env) (g : Gr B H B' H') : Sta K B0 H0 B' H' σ env := by
  obtain ⟨ad, a1, a2, a3⟩ := s.own
  refine ⟨s.eB.trans g.b, g.h, fun a h => ?_, s.len, ad, a1, fun i x hx => ?_, fun i sl hs => (a3 i sl hs).up g.b g.k⟩
  · have hH : H a ≠ none := by rw [(s.old a h).2]; exact h
    exact ⟨by rw [g.n a hH, (s.old a h).1], by rw [ex_ne g.k hH, (s.old a h).2]⟩
  · obtain ⟨z1, z2, z3⟩ := a2 i x hx
    exact ⟨z1, by rw [g.n x z3, z2], ex_nn g.k z3⟩
theorem Sta.grow (s : Sta K B0 H0 B H σ env) (e : Ex H H') : Sta K B0 H0 B H' σ env := s.up (Gr.keep s.eH e)
/-- a slot bound anew: to data, or to what is new since H -/
theorem Sta.new (s : Sta K B0 H0 B H σ env) (g : Gr B H B' H') {i : Nat} {v : V} {sl : Sl} (A : List Addr) (hA : ∀ x ∈ A, H x = none ∧ B' x = none ∧ H' x ≠ none) (hs : SlO K B' H' (some (some v)) A sl) : Sta K B0 H0 B' H' (σ.set i (some v)) (env.set i sl) := by
  obtain ⟨ad, a1, a2, a3⟩ := s.own
  have h0 : ∀ x, H x = none → H0 x = none := fun x hx => by
    cases hq : H0 x with
    | none => rfl
    | some o =>
      have := (s.old x (by rw [hq]; exact fun z => by cases z)).2
      rw [hx, hq] at this
      cases this
  have s' := s.up g
  have hdis : ∀ k x, x ∈ A → x ∈ ad k → False := fun k x h1 h2 => (a2 k x h2).2.2 (hA x h1).1
  refine ⟨s'.eB, s'.eH, s'.old, by rw [List.length_set, List.length_set, s.len], fun k => if k = i then A else ad k, fun k j x hk hj => ?_, fun k x hk => ?_, fun k t ht => ?_⟩
  · by_cases e1 : k = i
    · by_cases e2 : j = i
      · rw [e1, e2]
      · simp only [if_pos e1] at hk
        simp only [if_neg e2] at hj
        exact (hdis j x hk hj).elim
    · simp only [if_neg e1] at hk
      by_cases e2 : j = i
      · simp only [if_pos e2] at hj
        exact (hdis k x hj hk).elim
      · simp only [if_neg e2] at hj
        exact a1 k j x hk hj
  · by_cases e1 : k = i
    · simp only [if_pos e1] at hk
      obtain ⟨z1, z2, z3⟩ := hA x hk
      exact ⟨h0 x z1, z2, z3⟩
    · simp only [if_neg e1] at hk
      obtain ⟨z1, z2, z3⟩ := a2 k x hk
      exact ⟨z1, by rw [g.n x z3, z2], ex_nn g.k z3⟩
  · by_cases e1 : i = k
    · subst e1
      rw [List.getElem?_set_self'] at ht
      cases hi : env[i]? with
      | none =>
        rw [hi] at ht
        cases ht
      | some t' =>
        rw [hi] at ht
        cases ht
        have hl : i < σ.length := by
          rw [← s.len]
          exact (List.getElem?_eq_some_iff.mp hi).1
        rw [List.getElem?_set_self hl]
        simp only [if_true]
        exact hs
    · rw [List.getElem?_set_ne e1] at ht ⊢
      have e2 : ¬ k = i := fun z => e1 z.symm
      simp only [if_neg e2]
      exact (a3 k t ht).up g.b g.k
theorem Sta.im (s : Sta K B0 H0 B H σ env) (g : Gr B H B' H') {i : Nat} {v : V} {d : Da} (r : Rp K B' d v) : Sta K B0 H0 B' H' (σ.set i (some v)) (env.set i (.im d)) :=
  s.new g [] (fun x h => by cases h) ⟨v, rfl, r⟩
theorem Sta.no (s : Sta K B0 H0 B H σ env) {i : Nat} {v : V} : Sta K B0 H0 B H (σ.set i (some v)) (env.set i .no) :=
  s.new (Gr.refl s.eH) [] (fun x h => by cases h) trivial
theorem Sta.mu (s : Sta K B0 H0 B H σ env) (g : Gr B H B' H') {i : Nat} {p : Addr} {xs : List V} {ds : List Da} (h1 : H p = none) (h2 : B' p = none) (h3 : H' p = some (.lst xs)) (r : RpAll K B' ds xs) : Sta K B0 H0 B' H' (σ.set i (some (.ref p))) (env.set i (.mu ds)) :=
  s.new g [p] (fun x h => by
    rw [List.mem_singleton] at h
    subst h
    exact ⟨h1, h2, by rw [h3]; exact fun z => by cases z⟩) ⟨p, xs, rfl, rfl, h3, r⟩
theorem Sta.md (s : Sta K B0 H0 B H σ env) (g : Gr B H B' H') {i : Nat} {p : Addr} {ws : List (Key × V)} {kvs : List (Int × Da)} (h1 : H p = none) (h2 : B' p = none) (h3 : H' p = some (.dK ws)) (r : KvR K B' kvs ws) : Sta K B0 H0 B' H' (σ.set i (some (.ref p))) (env.set i (.md kvs)) :=
  s.new g [p] (fun x h => by
    rw [List.mem_singleton] at h
    subst h
    exact ⟨h1, h2, by rw [h3]; exact fun z => by cases z⟩) ⟨p, ws, rfl, rfl, h3, r⟩
theorem OwL.same : ∀ {dss : List (List Da)} {ls : List Addr}, (∀ a ∈ ls, H' a = H a) → OwL K B H dss ls → OwL K B H' dss ls
  | [], ls, _, h => h
  | ds :: r, ls, e, h => by
    obtain ⟨l, t, xs, rfl, h2, h3, h4⟩ := h
    exact ⟨l, t, xs, rfl, by rw [e l List.mem_cons_self]; exact h2, h3, h4.same fun a ha => e a (List.mem_cons_of_mem _ ha)⟩
theorem SlO.same {o : Option (Option V)} {A : List Addr} {s : Sl} (e : ∀ a ∈ A, H' a = H a) (h : SlO K B H o A s) : SlO K B H' o A s := by
  cases s with
  | no => trivial
  | im d => exact h
  | mu ds =>
    obtain ⟨l, xs, h1, rfl, h3, h4⟩ := h
    exact ⟨l, xs, h1, rfl, by rw [e l List.mem_cons_self]; exact h3, h4⟩
  | md kvs =>
    obtain ⟨l, ws, h1, rfl, h3, h4⟩ := h
    exact ⟨l, ws, h1, rfl, by rw [e l List.mem_cons_self]; exact h3, h4⟩
  | ob C ns dss =>
    obtain ⟨a, dx, ls, h1, rfl, h3, h4, h5, h6⟩ := h
    exact ⟨a, dx, ls, h1, rfl, h3, by rw [e a List.mem_cons_self]; exact h4, h5, h6.same fun a ha => e a (List.mem_cons_of_mem _ ha)⟩
/-- an own thing written -/
theorem Sta.wr (s : Sta K B0 H0 B H σ env) {ad : Nat → List Addr} (a1 : ∀ i j x, x ∈ ad i → x ∈ ad j → i = j) (a2 : ∀ i x, x ∈ ad i → H0 x = none ∧ B x = none ∧ H x ≠ none) (a3 : ∀ i s, env[i]? = some s → SlO K B H (σ[i]?) (ad i) s)
    {i : Nat} {sl : Sl} (same : ∀ a, a ∉ ad i → H' a = H a) (nn : ∀ a ∈ ad i, H' a ≠ none) (hs : SlO K B H' (σ[i]?) (ad i) sl) : Sta K B0 H0 B H' σ (env.set i sl) := by
  refine ⟨s.eB, fun a o h => ?_, fun a h => ?_, by rw [List.length_set, s.len], ad, a1, fun k x hk => ?_, fun k t ht => ?_⟩
  · rw [same a fun z => by rw [(a2 i a z).2.1] at h; cases h]
    exact s.eH a o h
  · rw [same a fun z => h (a2 i a z).1]
    exact s.old a h
  · obtain ⟨z1, z2, z3⟩ := a2 k x hk
    refine ⟨z1, z2, ?_⟩
    by_cases q : x ∈ ad i
    · exact nn x q
    · rw [same x q]
      exact z3
  · by_cases e1 : i = k
    · subst e1
      rw [List.getElem?_set_self'] at ht
      cases hi : env[i]? with
      | none =>
        rw [hi] at ht
        cases ht
      | some t' =>
        rw [hi] at ht
        cases ht
        exact hs
    · rw [List.getElem?_set_ne e1] at ht
      exact (a3 k t ht).same fun a ha => same a fun z => e1 (a1 i k a z ha)
/-- the views -/
theorem OwL.rp : ∀ {dss : List (List Da)} {ls : List Addr}, Ex B H → OwL K B H dss ls → RpAll K H (dss.map Da.lst) (ls.map V.ref)
  | [], ls, _, h => by
    have e : ls = [] := h
    subst e
    exact .nil
  | ds :: r, ls, e, h => by
    obtain ⟨l, t, xs, rfl, h2, h3, h4⟩ := h
    rw [List.map_cons, List.map_cons]
    refine .cons ?_ (h4.rp e)
    simp only [Rp]
    exact ⟨l, xs, rfl, h2, RpAll.mono e _ _ h3⟩
theorem Sta.frz (s : Sta K B0 H0 B H σ env) : SD K H σ (frz env) := by
  obtain ⟨ad, a1, a2, a3⟩ := s.own
  refine ⟨by rw [List.length_map, s.len], fun i t ht => ?_⟩
  rw [List.getElem?_map] at ht
  cases hi : env[i]? with
  | none =>
    rw [hi] at ht
    cases ht
  | some t' =>
    rw [hi] at ht
    cases ht
    have h := a3 i t' hi
    cases t' with
    | no => trivial
    | im d =>
      obtain ⟨v, h1, h2⟩ := h
      exact ⟨v, h1, h2.mono s.eH⟩
    | mu ds =>
      obtain ⟨l, xs, h1, h2, h3, h4⟩ := h
      exact ⟨_, h1, by simp only [Rp]; exact ⟨l, xs, rfl, h3, RpAll.mono s.eH _ _ h4⟩⟩
    | md kvs =>
      obtain ⟨l, ws, h1, h2, h3, h4⟩ := h
      exact ⟨l, ws, h1, h3, h4.mono s.eH⟩
    | ob C ns dss =>
      obtain ⟨a, dx, ls, h1, h2, h3, h4, h5, h6⟩ := h
      exact ⟨_, h1, by simp only [Rp]; exact ⟨a, dx, ls.map V.ref, rfl, h4, by rw [List.length_map]; exact h5, h6.rp s.eH⟩⟩
theorem Sta.imm (s : Sta K B0 H0 B H σ env) : SD K B σ (imm env) := by
  obtain ⟨ad, a1, a2, a3⟩ := s.own
  refine ⟨by rw [List.length_map, s.len], fun i t ht => ?_⟩
  rw [List.getElem?_map] at ht
  cases hi : env[i]? with
  | none =>
    rw [hi] at ht
    cases ht
  | some t' =>
    rw [hi] at ht
    cases ht
    have h := a3 i t' hi
    cases t' with
    | im d => exact h
    | _ => trivial
end

/-! ### statements -/
section
variable {K : PySem.W.Frag} {env env' : En} {E : Ed} {t u tb : TS} {te ta : TE} {tt : TT} {d : Da} {ds : List Da} {i : Nat}
theorem run_seq (h : Run K t env { E with nx := fun e => Run K u e E }) : Run K (tSeq t u) env E := fun B0 H0 B H σ D Bs eb s k =>
  h B0 H0 B H σ { D with nx := u D } Bs eb s ⟨fun σ' B' H' e' s' eb' r => r B0 H0 B' H' σ' D Bs eb' s' k, k.bk, k.ct, k.rd, k.rl, k.ro, k.rx⟩
theorem run_next (h : E.nx env) : Run K tNext env E := fun B0 H0 B H σ D Bs eb s k => k.nx σ B H env s eb h
theorem run_asg (h : EvE K te (imm env) d) (q : E.nx (env.set i (.im d))) : Run K (tAsg te (gName i)) env E := fun B0 H0 B H σ D Bs eb s k =>
  h σ B s.imm H s.eH _ fun v B' H' g r => k.nx _ B' H' _ (s.im g r) (eb.trans g.b) q
theorem run_asgF (h : EvE K te (frz env) d) (hs : isSc d = true) (q : E.nx (env.set i (.im d))) : Run K (tAsg te (gName i)) env E := fun B0 H0 B H σ D Bs eb s k =>
  h σ H s.frz H (Ex.refl _) _ fun v B' H' g r => k.nx _ B H' _ (s.im (Gr.keep s.eH g.k) (r.sc hs)) eb q
theorem run_asgN (h : EvN K te (imm env) ds) (q : E.nx (env.set i (.mu ds))) : Run K (tAsg te (gName i)) env E := fun B0 H0 B H σ D Bs eb s k =>
  h σ B s.imm H s.eH _ fun p xs B' H' g h1 h2 h3 r => k.nx _ B' H' _ (s.mu g h1 h2 h3 r) (eb.trans g.b) q
theorem run_asgNF (h : EvN K te (frz env) ds) (hs : ds.all isSc = true) (q : E.nx (env.set i (.mu ds))) : Run K (tAsg te (gName i)) env E := fun B0 H0 B H σ D Bs eb s k =>
  h σ H s.frz H (Ex.refl _) _ fun p xs B' H' g h1 h2 h3 r => k.nx _ B H' _ (s.mu (Gr.keep s.eH g.k) h1 (fresh_back s.eH h1) h3 (r.sc hs)) eb q
theorem run_asgD {kvs : List (Int × Da)} (h : EvD K te (imm env) kvs) (q : E.nx (env.set i (.md kvs))) : Run K (tAsg te (gName i)) env E := fun B0 H0 B H σ D Bs eb s k =>
  h σ B s.imm H s.eH _ fun p xs B' H' g h1 h2 h3 r => k.nx _ B' H' _ (s.md g h1 h2 h3 r) (eb.trans g.b) q
theorem run_par {j : Nat} {ta : TA} {d' : Da} (h : EvA K ta (imm env) [d, d']) (q : E.nx ((env.set i (.im d)).set j (.im d'))) : Run K (tPar i j ta) env E := fun B0 H0 B H σ D Bs eb s k =>
  h σ B s.imm H s.eH _ fun vs B' H' g r => by
    obtain ⟨v, w, rfl, r1, r2⟩ := two_rp r
    exact ⟨v, w, rfl, k.nx _ B' H' _ ((s.im g r1).im (Gr.refl g.h) r2) (eb.trans g.b) q⟩
theorem run_parF {j : Nat} {ta : TA} {d' : Da} (h : EvA K ta (frz env) [d, d']) (h1 : isSc d = true) (h2 : isSc d' = true) (q : E.nx ((env.set i (.im d)).set j (.im d'))) : Run K (tPar i j ta) env E := fun B0 H0 B H σ D Bs eb s k =>
  h σ H s.frz H (Ex.refl _) _ fun vs B' H' g r => by
    obtain ⟨v, w, rfl, r1, r2⟩ := two_rp r
    exact ⟨v, w, rfl, k.nx _ B H' _ ((s.im (Gr.keep s.eH g.k) (r1.sc h1)).im (Gr.refl (s.eH.trans g.k)) (r2.sc h2)) eb q⟩
theorem run_if {b : Bool} (h : EvB K tt (frz env) b) (h1 : b = true → Run K t env E) (h2 : b = false → Run K u env E) : Run K (tIfS tt t u) env E := fun B0 H0 B H σ D Bs eb s k =>
  h σ H s.frz H (Ex.refl _) _ fun H' e => by
    cases b with
    | true =>
      show t D σ H'
      exact h1 rfl B0 H0 B H' σ D Bs eb (s.grow e) k
    | false =>
      show u D σ H'
      exact h2 rfl B0 H0 B H' σ D Bs eb (s.grow e) k
theorem run_never (h : False) : Run K tNever env E := h.elim
theorem run_drop (h : EvE K te (frz env) d) (q : E.nx env) : Run K (tDrop te) env E := fun B0 H0 B H σ D Bs eb s k =>
  h σ H s.frz H (Ex.refl _) _ fun v B' H' g r => k.nx σ B H' env (s.grow g.k) eb q
theorem run_ret (h : EvE K te (imm env) d) (q : E.rd d) : Run K (tRet te) env E := fun B0 H0 B H σ D Bs eb s k =>
  h σ B s.imm H s.eH _ fun v B' H' g r => k.rd v B' H' d ((s.up g).gr) r q
theorem run_retF (h : EvE K te (frz env) d) (hs : isSc d = true) (q : E.rd d) : Run K (tRet te) env E := fun B0 H0 B H σ D Bs eb s k =>
  h σ H s.frz H (Ex.refl _) _ fun v B' H' g r => k.rd v B H' d ((s.grow g.k).gr) (r.sc hs) q
theorem h0_none {B0 H0 B H : Hp} {σ : L2.St} {x : Addr} (s : Sta K B0 H0 B H σ env) (hx : H x = none) : H0 x = none := by
  cases hq : H0 x with
  | none => rfl
  | some o =>
    have := (s.old x (by rw [hq]; exact fun z => by cases z)).2
    rw [hx, hq] at this
    cases this
theorem run_retN (h : EvN K te (imm env) ds) (q : E.rl ds) : Run K (tRet te) env E := fun B0 H0 B H σ D Bs eb s k =>
  h σ B s.imm H s.eH _ fun p xs B' H' g h1 h2 h3 r => k.rl p xs B' H' ds ((s.up g).gr) (h0_none s h1) h2 h3 r q
theorem run_retNF (h : EvN K te (frz env) ds) (hs : ds.all isSc = true) (q : E.rl ds) : Run K (tRet te) env E := fun B0 H0 B H σ D Bs eb s k =>
  h σ H s.frz H (Ex.refl _) _ fun p xs B' H' g h1 h2 h3 r => k.rl p xs B H' ds ((s.grow g.k).gr) (h0_none s h1) (fresh_back s.eH h1) h3 (r.sc hs) q
theorem run_retV (h : env[i]? = some (.mu ds)) (q : E.rl ds) : Run K (tRet (tVar i)) env E := fun B0 H0 B H σ D Bs eb s k => by
  obtain ⟨ad, a1, a2, a3⟩ := s.own
  obtain ⟨l, xs, h1, h2, h3, h4⟩ := a3 i _ h
  obtain ⟨z1, z2, z3⟩ := a2 i l (by rw [h2]; exact List.mem_cons_self)
  exact ⟨_, h1, k.rl l xs B H ds s.gr z1 z2 h3 h4 q⟩
theorem run_retNo (q : E.rd .non) : Run K tRetN env E := fun B0 H0 B H σ D Bs eb s k => k.rd .non B H .non s.gr (by simp only [Rp]) q
/-- an own list told as data from here on -/
theorem run_fix (h : env[i]? = some (.mu ds)) (q : Run K t (env.set i (.im (.lst ds))) E) : Run K t env E := fun B0 H0 B H σ D Bs eb s k => by
  obtain ⟨ad, a1, a2, a3⟩ := s.own
  obtain ⟨l, xs, h1, h2, h3, h4⟩ := a3 i _ h
  obtain ⟨z1, z2, z3⟩ := a2 i l (by rw [h2]; exact List.mem_cons_self)
  have eB : Ex B (upd B l (.lst xs)) := Ex.new z2
  refine q B0 H0 (upd B l (.lst xs)) H σ D Bs (eb.trans eB) ⟨s.eB.trans eB, fun a o ho => ?_, fun a ha => ⟨?_, (s.old a ha).2⟩, by rw [List.length_set, s.len], fun j => if j = i then [] else ad j, fun p j x hp hj => ?_, fun p x hp => ?_, fun p t ht => ?_⟩ k
  · by_cases e : a = l
    · subst e
      rw [upd_same] at ho
      rw [h3]
      exact ho
    · rw [upd_ne e] at ho
      exact s.eH a o ho
  · rw [upd_ne fun e => ha (by rw [e]; exact z1)]
    exact (s.old a ha).1
  · by_cases e1 : p = i
    · simp only [if_pos e1] at hp
      cases hp
    · by_cases e2 : j = i
      · simp only [if_pos e2] at hj
        cases hj
      · simp only [if_neg e1] at hp
        simp only [if_neg e2] at hj
        exact a1 p j x hp hj
  · by_cases e1 : p = i
    · simp only [if_pos e1] at hp
      cases hp
    · simp only [if_neg e1] at hp
      obtain ⟨w1, w2, w3⟩ := a2 p x hp
      refine ⟨w1, ?_, w3⟩
      rw [upd_ne fun e => e1 (a1 p i x hp (by rw [h2, e]; exact List.mem_cons_self))]
      exact w2
  · by_cases e1 : i = p
    · subst e1
      rw [List.getElem?_set_self', h] at ht
      cases ht
      exact ⟨_, h1, by simp only [Rp]; exact ⟨l, xs, rfl, upd_same, RpAll.mono eB _ _ h4⟩⟩
    · rw [List.getElem?_set_ne e1] at ht
      have e2 : ¬ p = i := fun z => e1 z.symm
      simp only [if_neg e2]
      exact (a3 p t ht).up eB (Ex.refl _)
/-- less told of a slot -/
theorem run_less (q : Run K t (env.set i .no) E) : Run K t env E := fun B0 H0 B H σ D Bs eb s k => by
  obtain ⟨ad, a1, a2, a3⟩ := s.own
  refine q B0 H0 B H σ D Bs eb ⟨s.eB, s.eH, s.old, by rw [List.length_set, s.len], ad, a1, a2, fun p t ht => ?_⟩ k
  by_cases e1 : i = p
  · subst e1
    rw [List.getElem?_set_self'] at ht
    cases hi : env[i]? with
    | none =>
      rw [hi] at ht
      cases ht
    | some t' =>
      rw [hi] at ht
      cases ht
      trivial
  · rw [List.getElem?_set_ne e1] at ht
    exact a3 p t ht
theorem run_aug {f : Int → Int → Int} {a b : Int} (hx : env[i]? = some (.im (.int a))) (h : EvE K te (frz env) (.int b)) (q : E.nx (env.set i (.im (.int (f a b))))) : Run K (tAug i te (ipI f)) env E := fun B0 H0 B H σ D Bs eb s k => by
  obtain ⟨v, h1, h2⟩ := s.imm.sl i (.im (.int a)) (by rw [List.getElem?_map, hx]; rfl)
  simp only [Rp] at h2
  subst h2
  refine ⟨.int a, h1, h σ H s.frz H (Ex.refl _) _ fun w B' H' g r => ?_⟩
  simp only [Rp] at r
  subst r
  exact ⟨a, b, rfl, rfl, k.nx _ B H' _ (s.im (Gr.keep s.eH g.k) (by simp only [Rp])) eb q⟩
/-- xs.append(e), xs one's own -/
theorem run_app (hx : env[i]? = some (.mu ds)) (h : EvE K te (imm env) d) (hz : ds.length < 100000) (q : E.nx (env.set i (.mu (ds ++ [d])))) : Run K (tDrop (tBM K "list" rAppend (tVar i) (tCons te tNil))) env E := fun B0 H0 B H σ D Bs eb s k => by
  obtain ⟨ad, a1, a2, a3⟩ := s.own
  obtain ⟨l, xs, h1, h2, h3, h4⟩ := a3 i _ hx
  refine ⟨_, h1, .inl ⟨rfl, xs, sq_of h3⟩, h σ B s.imm H s.eH _ fun v B' H' g r => ?_⟩
  have s' := s.up g
  have h3' := g.k _ _ h3
  have hA : ∀ i x, x ∈ ad i → H0 x = none ∧ B' x = none ∧ H' x ≠ none := fun i x hx => by
    obtain ⟨z1, z2, z3⟩ := a2 i x hx
    exact ⟨z1, by rw [g.n x z3, z2], ex_nn g.k z3⟩
  refine ⟨l, xs, v, rfl, rfl, h3', sz_lt (by rw [h4.len]; exact hz), k.nx σ B' _ _ (s'.wr (i := i) (sl := .mu (ds ++ [d])) (H' := upd H' l (.lst (xs ++ [v]))) a1 hA (fun j t ht => (a3 j t ht).up g.b g.k) (fun a ha => upd_ne fun e => ha (by rw [h2, e]; exact List.mem_cons_self)) (fun a ha => ?_) ⟨l, xs ++ [v], h1, h2, upd_same, ?_⟩) (eb.trans g.b) q⟩
  · rw [h2, List.mem_singleton] at ha
    subst ha
    rw [upd_same]
    exact fun z => by cases z
  · exact (RpAll.mono g.b _ _ h4).app (.cons r .nil)
theorem run_appF (hx : env[i]? = some (.mu ds)) (h : EvE K te (frz env) d) (hs : isSc d = true) (hz : ds.length < 100000) (q : E.nx (env.set i (.mu (ds ++ [d])))) : Run K (tDrop (tBM K "list" rAppend (tVar i) (tCons te tNil))) env E := fun B0 H0 B H σ D Bs eb s k => by
  obtain ⟨ad, a1, a2, a3⟩ := s.own
  obtain ⟨l, xs, h1, h2, h3, h4⟩ := a3 i _ hx
  refine ⟨_, h1, .inl ⟨rfl, xs, sq_of h3⟩, h σ H s.frz H (Ex.refl _) _ fun v B' H' g r => ?_⟩
  have s' := s.grow g.k
  have h3' := g.k _ _ h3
  have hA : ∀ i x, x ∈ ad i → H0 x = none ∧ B x = none ∧ H' x ≠ none := fun i x hx => by
    obtain ⟨z1, z2, z3⟩ := a2 i x hx
    exact ⟨z1, z2, ex_nn g.k z3⟩
  refine ⟨l, xs, v, rfl, rfl, h3', sz_lt (by rw [h4.len]; exact hz), k.nx σ B _ _ (s'.wr (i := i) (sl := .mu (ds ++ [d])) (H' := upd H' l (.lst (xs ++ [v]))) a1 hA (fun j t ht => (a3 j t ht).up (Ex.refl _) g.k) (fun a ha => upd_ne fun e => ha (by rw [h2, e]; exact List.mem_cons_self)) (fun a ha => ?_) ⟨l, xs ++ [v], h1, h2, upd_same, ?_⟩) eb q⟩
  · rw [h2, List.mem_singleton] at ha
    subst ha
    rw [upd_same]
    exact fun z => by cases z
  · exact h4.app (.cons (r.sc hs) .nil)
theorem run_while (I : Nat → En → Prop) (m0 : Nat) (h0 : I m0 env)
    (hs : ∀ m e, I m e → ∃ b, EvB K tt (frz e) b ∧ (b = true → Run K tb e { E with nx := fun e' => ∃ m', m' < m ∧ I m' e', ct := fun e' => ∃ m', m' < m ∧ I m' e', bk := E.nx }) ∧ (b = false → E.nx e)) : Run K (tWhile tt tb) env E := fun B0 H0 B H σ D Bs eb s k => by
  refine ⟨fun m σ' H' => ∃ e B', I m e ∧ Sta K B0 H0 B' H' σ' e ∧ Ex Bs B', ⟨m0, env, B, h0, s, eb⟩, ?_⟩
  rintro m σ' H' ⟨e, B', hi, s', eb'⟩
  obtain ⟨b, hb, h1, h2⟩ := hs m e hi
  refine hb σ' H' s'.frz H' (Ex.refl _) _ fun H2 e2 => ?_
  cases b with
  | true =>
    refine iteT ⟨fun σ2 H3 => ∃ m', m' < m ∧ ∃ e B', I m' e ∧ Sta K B0 H0 B' H3 σ2 e ∧ Ex Bs B', fun σ2 H3 h => h, ?_⟩
    have hn : ∀ σ2 B2 H3 e3, Sta K B0 H0 B2 H3 σ2 e3 → Ex Bs B2 → (∃ m', m' < m ∧ I m' e3) → ∃ m', m' < m ∧ ∃ e B', I m' e ∧ Sta K B0 H0 B' H3 σ2 e ∧ Ex Bs B' := fun σ2 B2 H3 e3 s3 eb3 ⟨m', hm, hI⟩ => ⟨m', hm, e3, B2, hI, s3, eb3⟩
    exact h1 rfl B0 H0 B' H2 σ' _ Bs eb' (s'.grow e2) ⟨hn, fun σ2 B2 H3 e3 s3 eb3 q => k.nx σ2 B2 H3 e3 s3 eb3 q, hn, k.rd, k.rl, k.ro, k.rx⟩
  | false => exact iteF (k.nx σ' B' H2 e (s'.grow e2) eb' (h2 rfl))
def TgS (K : PySem.W.Frag) (g : TG) (d : Da) (env env' : En) : Prop := ∀ B0 H0 B H σ v, Sta K B0 H0 B H σ env → Rp K B d v → ∀ Q : L2.St → Hp → Prop, (∀ σ', Sta K B0 H0 B H σ' env' → Q σ' H) → g v σ H Q
theorem ts_name : TgS K (gName i) d env (env.set i (.im d)) := fun B0 H0 B H σ v s r Q q => q _ (s.im (Gr.refl s.eH) r)
theorem ts_tup2 {g1 g2 : TG} {x y : Da} {env2 : En} (h1 : TgS K g1 x env env') (h2 : TgS K g2 y env' env2) : TgS K (gTup K 2 (gCons g1 (gCons g2 gNil))) (.tup [x, y]) env env2 := fun B0 H0 B H σ v s r Q q => by
  simp only [Rp] at r
  obtain ⟨a, xs, rfl, h, hr⟩ := r
  obtain ⟨v, w, rfl, r1, r2⟩ := two_rp hr
  exact ⟨a, [v, w], rfl, st_of (s.eH _ _ h), rfl, v, [w], rfl, h1 B0 H0 B H σ v s r1 _ fun σ' s' => ⟨w, [], rfl, h2 B0 H0 B H σ' w s' r2 _ fun σ2 s2 => ⟨rfl, q σ2 s2⟩⟩⟩
theorem ts_tup3 {g1 g2 g3 : TG} {x y z : Da} {env2 env3 : En} (h1 : TgS K g1 x env env') (h2 : TgS K g2 y env' env2) (h3 : TgS K g3 z env2 env3) : TgS K (gTup K 3 (gCons g1 (gCons g2 (gCons g3 gNil)))) (.tup [x, y, z]) env env3 := fun B0 H0 B H σ v s r Q q => by
  simp only [Rp] at r
  obtain ⟨a, xs, rfl, h, hr⟩ := r
  obtain ⟨v, r', rfl, r1, hr2⟩ := hr.uncons
  obtain ⟨w, u, rfl, r2, r3⟩ := two_rp hr2
  exact ⟨a, [v, w, u], rfl, st_of (s.eH _ _ h), rfl, v, [w, u], rfl, h1 B0 H0 B H σ v s r1 _ fun σ' s' => ⟨w, [u], rfl, h2 B0 H0 B H σ' w s' r2 _ fun σ2 s2 => ⟨u, [], rfl, h3 B0 H0 B H σ2 u s2 r3 _ fun σ3 s3 => ⟨rfl, q σ3 s3⟩⟩⟩⟩
theorem run_asgT {g : TG} (h : EvE K te (imm env) d) (hg : TgS K g d env env') (q : E.nx env') : Run K (tAsg te g) env E := fun B0 H0 B H σ D Bs eb s k =>
  h σ B s.imm H s.eH _ fun v B' H' g' r => hg B0 H0 B' H' σ v (s.up g') r _ fun σ' s' => k.nx σ' B' H' env' s' (eb.trans g'.b) q
/-- a tuple of two scalars, made by a call that reads own lists -/
theorem run_asgTF {j : Nat} {x y : Da} (h : EvE K te (frz env) (.tup [x, y])) (hx : isSc x = true) (hy : isSc y = true) (q : E.nx ((env.set i (.im x)).set j (.im y))) : Run K (tAsg te (gTup K 2 (gCons (gName i) (gCons (gName j) gNil)))) env E := fun B0 H0 B H σ D Bs eb s k =>
  h σ H s.frz H (Ex.refl _) _ fun v B' H' g' r => by
    simp only [Rp] at r
    obtain ⟨a, xs, rfl, h, hr⟩ := r
    obtain ⟨v, w, rfl, r1, r2⟩ := two_rp hr
    exact ⟨a, [v, w], rfl, st_of (g'.h _ _ h), rfl, v, [w], rfl, w, [], rfl, rfl, k.nx _ B H' _ ((s.im (Gr.keep s.eH g'.k) (r1.sc hx)).im (Gr.refl (s.eH.trans g'.k)) (r2.sc hy)) eb q⟩
theorem run_for {wi : TI} {g : TG} (hw : WkE K wi (imm env) ds) (I : Nat → En → Prop) (h0 : I 0 env)
    (hs : ∀ n d e, ds[n]? = some d → I n e → ∃ e', TgS K g d e e' ∧ Run K tb e' { E with nx := I (n + 1), ct := I (n + 1), bk := E.nx }) (hd : ∀ e, I ds.length e → E.nx e) : Run K (tFor wi g tb) env E := fun B0 H0 B H σ D Bs eb s k =>
  hw σ B s.imm H s.eH _ fun J B' H2 G Y g0 w hG hY => by
    refine for_it w (fun n σ' H' => ∃ e Bi, I n e ∧ Sta K B0 H0 Bi H' σ' e ∧ Ex B' Bi) ⟨env, B', h0, s.up g0, Ex.refl _⟩ (fun n σ' H' _ ⟨e, Bi, _, s', eb'⟩ => hG H' (eb'.trans s'.eH)) ?_ ?_
    · rintro n x σ' H' H3 hn ⟨e, Bi, hi, s', eb'⟩ y
      obtain ⟨d, B3, hd', gy, rd⟩ := hY n H' x H3 Bi eb' s'.eH y
      obtain ⟨e', tg, rb⟩ := hs n d e hd' hi
      refine tg B0 H0 B3 H3 σ' x (s'.up gy) rd _ fun σ2 s2 => ?_
      exact rb B0 H0 B3 H3 σ2 _ B' (eb'.trans gy.b) s2 ⟨fun σ4 B4 H4 e4 s4 eb4 q => ⟨e4, B4, q, s4, eb4⟩, fun σ4 B4 H4 e4 s4 eb4 q => k.nx σ4 B4 H4 e4 s4 ((eb.trans g0.b).trans eb4) q, fun σ4 B4 H4 e4 s4 eb4 q => ⟨e4, B4, q, s4, eb4⟩, k.rd, k.rl, k.ro, fun σ4 B4 H4 e4 C s4 eb4 q => k.rx σ4 B4 H4 e4 C s4 ((eb.trans g0.b).trans eb4) q⟩
    · rintro σ' H' ⟨e, Bi, hi, s', eb'⟩
      exact k.nx σ' Bi H' e s' ((eb.trans g0.b).trans eb') (hd e hi)
theorem run_brk (q : E.bk env) : Run K tBreak env E := fun B0 H0 B H σ D Bs eb s k => k.bk σ B H env s eb q
theorem run_ct (q : E.ct env) : Run K tCont env E := fun B0 H0 B H σ D Bs eb s k => k.ct σ B H env s eb q
theorem Run.imp {E' : Ed} (h : Run K t env E') (h1 : ∀ e, E'.nx e → E.nx e) (h2 : ∀ d, E'.rd d → E.rd d) (h3 : ∀ d, E'.rl d → E.rl d) (h4 : ∀ C n d, E'.ro C n d → E.ro C n d) (h5 : ∀ e, E'.bk e → E.bk e) (h6 : ∀ e, E'.ct e → E.ct e) (h7 : ∀ e C, E'.rx e C → False := by intro _ _ h; exact h) : Run K t env E := fun B0 H0 B H σ D Bs eb s k =>
  h B0 H0 B H σ D Bs eb s ⟨fun σ' B' H' e s' eb' q => k.nx σ' B' H' e s' eb' (h1 e q), fun σ' B' H' e s' eb' q => k.bk σ' B' H' e s' eb' (h5 e q), fun σ' B' H' e s' eb' q => k.ct σ' B' H' e s' eb' (h6 e q), fun v B' H' d g r q => k.rd v B' H' d g r (h2 d q), fun l xs B' H' ds g z1 z2 z3 z4 q => k.rl l xs B' H' ds g z1 z2 z3 z4 (h3 ds q), fun a dx ls B' H' C ns dss g z1 z2 z3 z4 z5 q => k.ro a dx ls B' H' C ns dss g z1 z2 z3 z4 z5 (h4 C ns dss q), fun σ' B' H' e C s' eb' q => (h7 e C q).elim⟩
end

/-! ### promises of defs over data -/
def FnP (K : PySem.W.Frag) (P : List Da → Da → Prop) : Sp := fun vs H Q _ => ∃ B ds d, Ex B H ∧ RpAll K B ds vs ∧ P ds d ∧ ∀ v B' H', Gr B H B' H' → Rp K B' d v → Q v H'
def FnL (K : PySem.W.Frag) (P : List Da → List Da → Prop) : Sp := fun vs H Q _ => ∃ B ds es, Ex B H ∧ RpAll K B ds vs ∧ P ds es ∧ ∀ p xs B' H', Gr B H B' H' → H p = none → B' p = none → H' p = some (.lst xs) → RpAll K B' es xs → Q (.ref p) H'
def FnO (K : PySem.W.Frag) (P : List Da → Addr → List Str → List (List Da) → Prop) : Sp := fun vs H Q _ => ∃ B ds C ns dss, Ex B H ∧ RpAll K B ds vs ∧ P ds C ns dss ∧
  ∀ a dx ls B' H', Gr B H B' H' → (a :: ls).Nodup → (∀ x ∈ a :: ls, H x = none ∧ B' x = none) → H' a = some (.ins C dx (ns.zip (ls.map V.ref))) → ls.length = ns.length → OwL K B' H' dss ls → Q (.ref a) H'
section
variable {K : PySem.W.Frag} {env : En} {ta : TA} {ds es : List Da} {d : Da}
theorem ev_call {P : List Da → Da → Prop} {E : XK} (h : EvA K ta env ds) (hp : P ds d) : EvE K (tCall (FnP K P) [] E ta) env d := fun σ B s H1 e Q q =>
  h σ B s H1 e _ fun vs B2 H2 g r => by
    refine ⟨B2, ds, d, g.h, by rw [List.append_nil]; exact r, hp, fun v B' H' g' r' => q v B' H' (g.trans g') r'⟩
theorem en_call {P : List Da → List Da → Prop} {E : XK} (h : EvA K ta env ds) (hp : P ds es) : EvN K (tCall (FnL K P) [] E ta) env es := fun σ B s H1 e Q q =>
  h σ B s H1 e _ fun vs B2 H2 g r => by
    refine ⟨B2, ds, es, g.h, by rw [List.append_nil]; exact r, hp, fun p xs B' H' g' h1 h2 h3 r' => q p xs B' H' (g.trans g') (fresh_back g.k h1) h2 h3 r'⟩
/-- the slots at a def's entry -/
def ent (ds : List Da) (n : Nat) : En := ds.map Sl.im ++ List.replicate n .no
theorem sta_ent {B H : Hp} {vs : List V} {n : Nat} (e : Ex B H) (r : RpAll K B ds vs) : Sta K B H B H (vs.map some ++ List.replicate n none) (ent ds n) := by
  refine ⟨Ex.refl _, e, fun a _ => ⟨rfl, rfl⟩, by unfold ent; simp [r.len], fun _ => [], fun i j x h => (List.not_mem_nil h).elim, fun i x h => (List.not_mem_nil h).elim, fun i s hs => ?_⟩
  unfold ent at hs
  by_cases hi : i < ds.length
  · rw [List.getElem?_append_left (by simpa using hi), List.getElem?_map] at hs
    cases hd : ds[i]? with
    | none =>
      rw [hd] at hs
      cases hs
    | some d =>
      rw [hd] at hs
      cases hs
      obtain ⟨v, hv, rv⟩ := r.get hd
      refine ⟨v, ?_, rv⟩
      rw [List.getElem?_append_left (by rw [List.length_map, r.len]; exact hi), List.getElem?_map, hv]
      rfl
  · rw [List.getElem?_append_right (by simpa using Nat.le_of_not_lt hi)] at hs
    rw [List.getElem?_replicate] at hs
    split at hs
    · cases hs
      trivial
    · cases hs
def retD (d : Da) : Ed := { nx := fun _ => d = .non, rd := fun x => x = d, rl := fun xs => d = .lst xs }
def retL (es : List Da) : Ed := { nx := fun _ => False, rd := fun _ => False, rl := fun xs => xs = es }
theorem start_eq {N : List Str} {vs : List V} : start N vs = vs.map some ++ List.replicate (N.length - vs.length) none := rfl
theorem fnP_of {P : List Da → Da → Prop} {t : TS} {N : List Str} (n : Nat) (hn : ∀ ds d, P ds d → N.length - ds.length = n) (h : ∀ ds d, P ds d → Run K t (ent ds n) (retD d)) {vs : List V} {H : Hp} {Q : VK} {E : XK} (hp : FnP K P vs H Q E) :
    t { nx := fun _ H' => Q .non H', rt := Q } (start N vs) H := by
  obtain ⟨B, ds, d, e, r, p, q⟩ := hp
  have s := sta_ent (n := n) e r
  have hl : N.length - vs.length = n := by rw [r.len]; exact hn ds d p
  rw [start_eq, hl]
  refine h ds d p B H B H _ _ B (Ex.refl _) s ⟨fun σ B' H' env s' _ z => ?_, fun _ _ _ _ _ _ z => z.elim, fun _ _ _ _ _ _ z => z.elim, fun v B' H' d' g r' z => ?_, fun l xs B' H' es g h1 h2 h3 h4 z => ?_, fun _ _ _ _ _ _ _ _ _ _ _ _ _ _ z => z.elim, fun _ _ _ _ _ _ _ z => z.elim⟩
  · have z' : d = .non := z
    subst z'
    exact q .non B' H' s'.gr (by simp only [Rp])
  · have z' : d' = d := z
    subst z'
    exact q v B' H' g r'
  · have z' : d = .lst es := z
    subst z'
    have eB : Ex B' (upd B' l (.lst xs)) := Ex.new h2
    refine q (.ref l) (upd B' l (.lst xs)) H' ⟨g.b.trans eB, fun a o ho => ?_, g.k, fun a ha => ?_⟩ ?_
    · by_cases e : a = l
      · subst e
        rw [upd_same] at ho
        rw [h3]
        exact ho
      · rw [upd_ne e] at ho
        exact g.h a o ho
    · rw [upd_ne fun e => ha (by rw [e]; exact h1)]
      exact g.n a ha
    · simp only [Rp]
      exact ⟨l, xs, rfl, upd_same, RpAll.mono eB _ _ h4⟩
theorem fnL_of {P : List Da → List Da → Prop} {t : TS} {N : List Str} (n : Nat) (hn : ∀ ds d, P ds d → N.length - ds.length = n) (h : ∀ ds d, P ds d → Run K t (ent ds n) (retL d)) {vs : List V} {H : Hp} {Q : VK} {E : XK} (hp : FnL K P vs H Q E) :
    t { nx := fun _ H' => Q .non H', rt := Q } (start N vs) H := by
  obtain ⟨B, ds, d, e, r, p, q⟩ := hp
  have s := sta_ent (n := n) e r
  have hl : N.length - vs.length = n := by rw [r.len]; exact hn ds d p
  rw [start_eq, hl]
  refine h ds d p B H B H _ _ B (Ex.refl _) s ⟨fun σ B' H' env s' _ z => z.elim, fun _ _ _ _ _ _ z => z.elim, fun _ _ _ _ _ _ z => z.elim, fun v B' H' d' g r' z => z.elim, fun l xs B' H' es g h1 h2 h3 h4 z => ?_, fun _ _ _ _ _ _ _ _ _ _ _ _ _ _ z => z.elim, fun _ _ _ _ _ _ _ z => z.elim⟩
  have z' : es = d := z
  subst z'
  exact q l xs B' H' g h1 h2 h3 h4
theorem len_P {P : List Da → Da → Prop} {m : Nat} (hm : ∀ ds d, P ds d → ds.length = m) {vs : List V} {H : Hp} {Q : VK} {E : XK} (hp : FnP K P vs H Q E) : vs.length = m := by
  obtain ⟨B, ds, d, e, r, p, q⟩ := hp
  rw [r.len]
  exact hm ds d p
theorem len_L {P : List Da → List Da → Prop} {m : Nat} (hm : ∀ ds d, P ds d → ds.length = m) {vs : List V} {H : Hp} {Q : VK} {E : XK} (hp : FnL K P vs H Q E) : vs.length = m := by
  obtain ⟨B, ds, d, e, r, p, q⟩ := hp
  rw [r.len]
  exact hm ds d p
end
end FR

/-! Calls in short; equality of data; dicts; sets; chains of three. -/
namespace FR
open PySem L2 Evl
open PySem.Spec PyProof.Rows

/-! ### defs, methods, classes that stand behind the top -/
structure Cal (P : Program) (w : World) (K : PySem.W.Frag) (mg : Str → Option Value) (base : Heap) (CX : CXT) (k : Nat) (x : Str) (ps : List Str) (sp : Sp) : Prop where
  ex : ∃ f fd, FnOk P w K mg base CX k f fd ps sp ∧ mg x = some (.ref f) ∧ PySem.W.keepIn K (.ref f) = true ∧ Binds K fd ps []
structure CalM (P : Program) (w : World) (K : PySem.W.Frag) (mg : Str → Option Value) (base : Heap) (CX : CXT) (k : Nat) (C : Addr) (m : Str) (ps : List Str) (sp : Sp) : Prop where
  ex : ∃ f fd, FnOk P w K mg base CX k f fd ps sp ∧ Meth K C m f ∧ Binds K fd ps []
structure CalI (P : Program) (w : World) (K : PySem.W.Frag) (mg : Str → Option Value) (base : Heap) (CX : CXT) (k : Nat) (C : Addr) (ps : List Str) (sp : Sp) : Prop where
  ex : ∃ f fd, FnOk P w K mg base CX k f fd ps sp ∧ Mk K C f ∧ Binds K fd ps []
section
variable {X : Cx} {k : Nat} {x : Str} {ps : List Str} {sp : Sp} {CX : CXT} {E : XK} {e o : Expr} {es : List Expr} {t : TA} {to : TE} {p pos apos : Pos} {C : Addr} {m : Str}
theorem pe_cal (g : Cal X.prog X.w X.K X.mg X.base CX k x ps sp) (hr : Room k X.A) (hg : Gl X x) (hx : Passes CX X E) (ha : PA X (e :: es) t)
    (hdb : (x == ("__debug__" : Str)) = false := by decide) (he : starEach (e :: es) X.env = (false, eval e X.env) :: starEach es X.env := by rfl) (hpl : (backTo pos (starEach es X.env)).any (·.1) = false := by rfl) :
    PE X (.Call (.Name x p) (e :: es) [] pos) (tCall sp [] E t) := by
  obtain ⟨f, fd, F, hm, hk, hb⟩ := g.ex
  exact pe_call F hr hg hm hk hb .nil hx ha hdb he hpl
theorem pe_cal0 (g : Cal X.prog X.w X.K X.mg X.base CX k x ps sp) (hr : Room k X.A) (hg : Gl X x) (hx : Passes CX X E) (hdb : (x == ("__debug__" : Str)) = false := by decide) :
    PE X (.Call (.Name x p) [] [] pos) (tCall sp [] E tNil) := by
  obtain ⟨f, fd, F, hm, hk, hb⟩ := g.ex
  exact pe_call0 F hr hg hm hk hb .nil hx hdb
theorem pe_met {pl : Sem Bool} (he : PE X o to) (c : Cls X.K C) (g : CalM X.prog X.w X.K X.mg X.base CX k C m ps sp) (hr : Room k X.A) (hx : Passes CX X E) (ha : PA X (e :: es) t)
    (hst : starEach (e :: es) X.env = (false, eval e X.env) :: starEach es X.env := by rfl) (hpl : (backTo pos (starEach es X.env)).any (·.1) = false := by rfl)
    (ht : eval (.Call (.Attribute o m apos) (e :: es) [] pos) X.env = (do
      let ov ← eval o X.env
      standAt apos.atName
      let (f, first) ← holding [ov] (getMethod ov m pl)
      callWith pos f first (backTo pos (starEach (e :: es) X.env)) (backToKw pos (keywordEach [] X.env))) := by rfl) :
    PE X (.Call (.Attribute o m apos) (e :: es) [] pos) (tMeth C m sp [] E to t) := by
  obtain ⟨f, fd, F, hm, hb⟩ := g.ex
  exact pe_meth he c hm F hr hb .nil hx ha hst hpl ht
theorem pe_mak (g : CalI X.prog X.w X.K X.mg X.base CX k C ps sp) (hm : X.mg x = some (.ref C)) (hr : Room (k + 1) X.A) (hg : Gl X x) (hx : Passes CX X E) (ha : PA X (e :: es) t)
    (hdb : (x == ("__debug__" : Str)) = false := by decide) (he : starEach (e :: es) X.env = (false, eval e X.env) :: starEach es X.env := by rfl) (hpl : (backTo pos (starEach es X.env)).any (·.1) = false := by rfl) :
    PE X (.Call (.Name x p) (e :: es) [] pos) (tMake C sp [] E t) := by
  obtain ⟨f, fd, F, M, hb⟩ := g.ex
  exact pe_make M F hr hg hm hb .nil hx ha hdb he hpl
end

/-! ### data as the library's -/
mutual
def py : Da → PyData
  | .bl b => .bool b
  | .int i => .int i
  | .str s => .str s
  | .lst ds => .list (pyAll ds)
  | .sq ds => .list (pyAll ds)
  | .tup ds => .tuple (pyAll ds)
  | _ => .none
def pyAll : List Da → List PyData
  | [] => []
  | d :: ds => py d :: pyAll ds
end
mutual
def isPy : Da → Bool
  | .ty _ | .cls _ | .obj _ _ _ | .emp => false
  | .lst ds => isPyAll ds
  | .sq ds => isPyAll ds
  | .tup ds => isPyAll ds
  | _ => true
def isPyAll : List Da → Bool
  | [] => true
  | d :: ds => isPy d && isPyAll ds
end
section
variable {K : PySem.W.Frag} {B H : Hp}
mutual
theorem dp_of (e : Ex B H) : ∀ (d : Da) (v : V), isPy d = true → Rp K B d v → Dp K H v (py d)
  | .non, v, _, h => by
    simp only [Rp] at h
    subst h
    simp only [py]
    exact .non
  | .bl b, v, _, h => by
    simp only [Rp] at h
    subst h
    simp only [py]
    exact .bl b
  | .int i, v, _, h => by
    simp only [Rp] at h
    subst h
    simp only [py]
    exact .int i
  | .str s, v, _, h => by
    simp only [Rp] at h
    subst h
    simp only [py]
    exact .str s
  | .ty n, v, p, h => by simp [isPy] at p
  | .cls C, v, p, h => by simp [isPy] at p
  | .lst ds, v, p, h => by
    simp only [Rp] at h
    obtain ⟨a, xs, rfl, h2, h3⟩ := h
    simp only [py]
    exact .lst (sq_of (e _ _ h2)) (dpAll_of e ds xs (by simpa only [isPy] using p) h3)
  | .sq ds, v, p, h => by
    simp only [Rp] at h
    obtain ⟨a, xs, rfl, h2, h3⟩ := h
    simp only [py]
    exact .lst (ex_l e h2) (dpAll_of e ds xs (by simpa only [isPy] using p) h3)
  | .tup ds, v, p, h => by
    simp only [Rp] at h
    obtain ⟨a, xs, rfl, h2, h3⟩ := h
    simp only [py]
    exact .tup (st_of (e _ _ h2)) (dpAll_of e ds xs (by simpa only [isPy] using p) h3)
  | .obj C ns ds, v, p, h => by simp [isPy] at p
  | .emp, v, p, h => by simp [isPy] at p
theorem dpAll_of (e : Ex B H) : ∀ (ds : List Da) (vs : List V), isPyAll ds = true → RpAll K B ds vs → DpAll K H vs (pyAll ds)
  | [], vs, _, h => by
    have q : vs = [] := by simpa only [RpAll] using h
    subst q
    simp only [pyAll]
    exact .nil
  | d :: ds, vs, p, h => by
    obtain ⟨v, r, rfl, h2, h3⟩ := h.uncons
    simp only [isPyAll, Bool.and_eq_true] at p
    simp only [pyAll]
    exact .cons (dp_of e d v p.1 h2) (dpAll_of e ds r p.2 h3)
end
variable {env : En} {te ta tb tc td : TE} {d x y : Da} {ds es : List Da} {i j : Int}
theorem ev_eqD {b : Bool} (ha : EvE K ta env x) (hb : EvE K tb env y) (hx : isPy x = true ∧ SeqAt.shaped (py x) = true) (hy : isPy y = true ∧ SeqAt.shaped (py y) = true) (e : PyData.eqv (py x) (py y) = b) : EvE K (tOp (rEqD K) ta tb) env (.bl b) :=
  ev_op ha hb fun B H v w eh r1 r2 Q q => ⟨py x, py y, dp_of eh x v hx.1 r1, dp_of eh y w hy.1 r2, hx.2, hy.2, q _ B H (Gr.refl eh) (by simp only [Rp, e])⟩
theorem ev_neD {b : Bool} (ha : EvE K ta env x) (hb : EvE K tb env y) (hx : isPy x = true ∧ SeqAt.shaped (py x) = true) (hy : isPy y = true ∧ SeqAt.shaped (py y) = true) (e : PyData.eqv (py x) (py y) = b) : EvE K (tOp (rNeD K) ta tb) env (.bl (!b)) :=
  ev_op ha hb fun B H v w eh r1 r2 Q q => ⟨py x, py y, dp_of eh x v hx.1 r1, dp_of eh y w hy.1 r2, hx.2, hy.2, q _ B H (Gr.refl eh) (by simp only [Rp, e])⟩
end
/-! ints, truths, pairs, their lists -/
theorem beqd {α : Type} [DecidableEq α] (a b : α) : (a == b) = decide (a = b) := by
  by_cases h : a = b <;> simp [h]
theorem pyAll_map {α : Type} (f : α → Da) : ∀ xs : List α, pyAll (xs.map f) = xs.map fun x => py (f x)
  | [] => by simp [pyAll]
  | x :: xs => by simp [pyAll, pyAll_map f xs]
theorem isPyAll_map {α : Type} {f : α → Da} : ∀ {xs : List α}, (∀ x ∈ xs, isPy (f x) = true) → isPyAll (xs.map f) = true
  | [], _ => by simp [isPyAll]
  | x :: xs, h => by
    simp only [List.map_cons, isPyAll, Bool.and_eq_true]
    exact ⟨h x List.mem_cons_self, isPyAll_map fun y hy => h y (List.mem_cons_of_mem _ hy)⟩
theorem canAll {α : Type} {f : α → PyData} : ∀ {xs : List α}, (∀ x, (f x).canLay0 = true) → PyData.canLayAll0 (xs.map f) = true
  | [], _ => by simp [PyData.canLayAll0]
  | x :: xs, h => by simp [PyData.canLayAll0, h x, canAll h]
theorem depAll {α : Type} {f : α → PyData} {n : Nat} : ∀ {xs : List α}, (∀ x, (f x).depth ≤ n) → PyData.depthAll (xs.map f) ≤ n
  | [], _ => by simp [PyData.depthAll]
  | x :: xs, h => by
    have h1 := h x
    have h2 := depAll (xs := xs) h
    simp only [List.map_cons, PyData.depthAll]
    omega
theorem eqvAll_map {α : Type} [DecidableEq α] {f : α → PyData} (h : ∀ x y, PyData.eqv (f x) (f y) = decide (x = y)) : ∀ xs ys : List α, PyData.eqvAll (xs.map f) (ys.map f) = decide (xs = ys)
  | [], [] => by simp [PyData.eqvAll]
  | [], y :: ys => by simp [PyData.eqvAll]
  | x :: xs, [] => by simp [PyData.eqvAll]
  | x :: xs, y :: ys => by
    simp only [List.map_cons, PyData.eqvAll, h, eqvAll_map h xs ys]
    by_cases e1 : x = y <;> by_cases e2 : xs = ys <;> simp [e1, e2]
/-- a pair of ints -/
def prD (p : Int × Int) : Da := .tup [.int p.1, .int p.2]
abbrev rowL (row : List (Int × Int)) : List Da := row.map prD
abbrev rowD (row : List (Int × Int)) : Da := .lst (rowL row)
abbrev intL (ns : List Int) : List Da := ns.map Da.int
abbrev intsD (ns : List Int) : Da := .lst (intL ns)
abbrev blL (ns : List Bool) : List Da := ns.map Da.bl
theorem okInts (ns : List Int) : isPy (intsD ns) = true ∧ SeqAt.shaped (py (intsD ns)) = true := by
  refine ⟨?_, ?_⟩
  · simp only [intsD, isPy]
    exact isPyAll_map fun x _ => by simp [isPy]
  · simp only [intsD, py, pyAll_map, SeqAt.shaped, PyData.canLay0, PyData.depth, Bool.and_eq_true, decide_eq_true_eq]
    exact ⟨canAll fun x => by simp [PyData.canLay0], by have := depAll (f := fun i : Int => PyData.int i) (n := 0) (xs := ns) (fun x => by simp [PyData.depth]); omega⟩
theorem okBls (ns : List Bool) : isPy (.lst (blL ns)) = true ∧ SeqAt.shaped (py (.lst (blL ns))) = true := by
  refine ⟨?_, ?_⟩
  · simp only [isPy]
    exact isPyAll_map fun x _ => by simp [isPy]
  · simp only [py, pyAll_map, SeqAt.shaped, PyData.canLay0, PyData.depth, Bool.and_eq_true, decide_eq_true_eq]
    exact ⟨canAll fun x => by simp [PyData.canLay0], by have := depAll (f := fun i : Bool => PyData.bool i) (n := 0) (xs := ns) (fun x => by simp [PyData.depth]); omega⟩
theorem py_prD (p : Int × Int) : py (prD p) = .tuple [.int p.1, .int p.2] := by simp [prD, py, pyAll]
theorem okRow (row : List (Int × Int)) : isPy (rowD row) = true ∧ SeqAt.shaped (py (rowD row)) = true := by
  refine ⟨?_, ?_⟩
  · simp only [rowD, isPy]
    exact isPyAll_map fun x _ => by simp [prD, isPy, isPyAll]
  · simp only [rowD, py, pyAll_map, py_prD, SeqAt.shaped, PyData.canLay0, PyData.depth, Bool.and_eq_true, decide_eq_true_eq]
    exact ⟨canAll fun x => by simp [PyData.canLay0, PyData.canLayAll0], by have := depAll (f := fun p : Int × Int => PyData.tuple [.int p.1, .int p.2]) (n := 1) (xs := row) (fun x => by simp [PyData.depth, PyData.depthAll]); omega⟩
theorem eqv_ints (ns ms : List Int) : PyData.eqv (py (intsD ns)) (py (intsD ms)) = decide (ns = ms) := by
  simp only [intsD, py, pyAll_map, PyData.eqv]
  exact eqvAll_map (fun x y => by simp [PyData.eqv, beqd]) ns ms
theorem eqv_bls (ns ms : List Bool) : PyData.eqv (py (.lst (blL ns))) (py (.lst (blL ms))) = decide (ns = ms) := by
  simp only [py, pyAll_map, PyData.eqv]
  exact eqvAll_map (fun x y => by simp [PyData.eqv, beqd]) ns ms
theorem eqv_row (ns ms : List (Int × Int)) : PyData.eqv (py (rowD ns)) (py (rowD ms)) = decide (ns = ms) := by
  simp only [rowD, py, pyAll_map, py_prD, PyData.eqv]
  refine eqvAll_map (f := fun p : Int × Int => PyData.tuple [.int p.1, .int p.2]) (fun x y => ?_) ns ms
  simp only [PyData.eqv, PyData.eqvAll, Bool.and_true, beqd]
  obtain ⟨a, b⟩ := x
  obtain ⟨c, d⟩ := y
  simp
section
variable {K : PySem.W.Frag} {env : En} {te ta tb tc td : TE} {d x y : Da} {i j : Int}
theorem ev_eqInts {ns ms : List Int} (ha : EvE K ta env (intsD ns)) (hb : EvE K tb env (intsD ms)) : EvE K (tOp (rEqD K) ta tb) env (.bl (decide (ns = ms))) := ev_eqD ha hb (okInts ns) (okInts ms) (eqv_ints ns ms)
theorem ev_neInts {ns ms : List Int} (ha : EvE K ta env (intsD ns)) (hb : EvE K tb env (intsD ms)) : EvE K (tOp (rNeD K) ta tb) env (.bl (!decide (ns = ms))) := ev_neD ha hb (okInts ns) (okInts ms) (eqv_ints ns ms)
theorem ev_eqRow {ns ms : List (Int × Int)} (ha : EvE K ta env (rowD ns)) (hb : EvE K tb env (rowD ms)) : EvE K (tOp (rEqD K) ta tb) env (.bl (decide (ns = ms))) := ev_eqD ha hb (okRow ns) (okRow ms) (eqv_row ns ms)
theorem ev_neRow {ns ms : List (Int × Int)} (ha : EvE K ta env (rowD ns)) (hb : EvE K tb env (rowD ms)) : EvE K (tOp (rNeD K) ta tb) env (.bl (!decide (ns = ms))) := ev_neD ha hb (okRow ns) (okRow ms) (eqv_row ns ms)
end

/-! ### dicts of one's own with int keys -/
section
variable {K : PySem.W.Frag} {B H : Hp} {env : En} {te ta tb tc td tv : TE} {d x y : Da} {i j : Int} {kvs : List (Int × Da)} {ws : List (Key × V)}
theorem KvR.val : ∀ {kvs : List (Int × Da)} {ws : List (Key × V)} (j : Int), KvR K B kvs ws → (match valD kvs j with | none => valV ws (Sum.inl j : Key) = none | some d => ∃ v, valV ws (Sum.inl j : Key) = some v ∧ Rp K B d v)
  | [], ws, j, h => by
    have e : ws = [] := h
    subst e
    simp only [valD]
    exact valV_nil
  | (k, d) :: r, ws, j, h => by
    obtain ⟨v, t, rfl, h2, h3⟩ := h
    simp only [valD]
    by_cases e : k = j
    · rw [if_pos e]
      subst e
      exact ⟨v, valV_pos rfl, h2⟩
    · rw [if_neg e]
      have e2 : ¬ ((Sum.inl k : Key) = Sum.inl j) := fun z => e (Sum.inl.inj z)
      rw [valV_neg (p := ((Sum.inl k : Key), v)) e2]
      exact KvR.val j h3
theorem kvr_any : ∀ {kvs : List (Int × Da)} {ws : List (Key × V)} (j : Int), KvR K B kvs ws → (ws.any fun kv => decide (kv.1 = (Sum.inl j : Key))) = kvs.any fun kv => decide (kv.1 = j)
  | [], ws, j, h => by
    have e : ws = [] := h
    subst e
    rfl
  | (k, d) :: r, ws, j, h => by
    obtain ⟨v, t, rfl, h2, h3⟩ := h
    rw [List.any_cons, List.any_cons, kvr_any j h3]
    congr 1
    by_cases e : k = j
    · subst e
      simp
    · have e2 : ¬ ((Sum.inl k : Key) = Sum.inl j) := fun z => e (Sum.inl.inj z)
      simp [e, e2]
theorem kvr_map : ∀ {kvs : List (Int × Da)} {ws : List (Key × V)} (j : Int) {d : Da} {v : V}, KvR K B kvs ws → Rp K B d v → KvR K B (kvs.map fun kv => if kv.1 = j then (kv.1, d) else kv) (ws.map fun kv => if kv.1 = (Sum.inl j : Key) then (kv.1, v) else kv)
  | [], ws, j, d, v, h, r => by
    have e : ws = [] := h
    subst e
    exact h
  | (k, d') :: r', ws, j, d, v, h, r => by
    obtain ⟨v', t, rfl, h2, h3⟩ := h
    rw [List.map_cons, List.map_cons]
    by_cases e : k = j
    · subst e
      simp only [if_true]
      exact ⟨v, _, rfl, r, kvr_map k h3 r⟩
    · have e2 : ¬ ((Sum.inl k : Key) = Sum.inl j) := fun z => e (Sum.inl.inj z)
      simp only [if_neg e, if_neg e2]
      exact ⟨v', _, rfl, h2, kvr_map j h3 r⟩
theorem kvr_app : ∀ {kvs : List (Int × Da)} {ws : List (Key × V)} {j : Int} {d : Da} {v : V}, KvR K B kvs ws → Rp K B d v → KvR K B (kvs ++ [(j, d)]) (ws ++ [(Sum.inl j, v)])
  | [], ws, j, d, v, h, r => by
    have e : ws = [] := h
    subst e
    exact ⟨v, [], rfl, r, rfl⟩
  | (k, d') :: r', ws, j, d, v, h, r => by
    obtain ⟨v', t, rfl, h2, h3⟩ := h
    exact ⟨v', _, rfl, h2, kvr_app h3 r⟩
theorem KvR.put {v : V} (j : Int) (h : KvR K B kvs ws) (r : Rp K B d v) : KvR K B (putD kvs j d) (putK ws (Sum.inl j) v) := by
  unfold putD putK
  rw [kvr_any j h]
  split
  · exact kvr_map j h r
  · exact kvr_app h r
/-- a slot that holds a dict, in a view -/
theorem ev_din {n : Nat} (hd : env[n]? = some (.md kvs)) (hi : EvE K ta env (.int i)) : EvE K (tDIn ta (tVar n)) env (.bl (valD kvs i).isSome) := fun σ B s H1 e Q q =>
  hi σ B s H1 e _ fun v B2 H2 g r => by
    simp only [Rp] at r
    subst r
    obtain ⟨a, ws, h1, h2, h3⟩ := s.sl n _ hd
    refine ⟨_, h1, a, valV ws (Sum.inl i), rfl, DGet.k (k := Sum.inl i) (g.k _ _ (e _ _ h2)), q _ B2 H2 g ?_⟩
    have z := h3.val i
    simp only [Rp]
    cases hv : valD kvs i with
    | none =>
      rw [hv] at z
      have z' : valV ws (Sum.inl i : Key) = none := z
      rw [z']
      all_goals rfl
    | some d =>
      rw [hv] at z
      obtain ⟨v, z1, z2⟩ := z
      rw [z1]
      all_goals rfl
theorem ev_dnotin {n : Nat} (hd : env[n]? = some (.md kvs)) (hi : EvE K ta env (.int i)) : EvE K (tDNotIn ta (tVar n)) env (.bl (!(valD kvs i).isSome)) := fun σ B s H1 e Q q =>
  hi σ B s H1 e _ fun v B2 H2 g r => by
    simp only [Rp] at r
    subst r
    obtain ⟨a, ws, h1, h2, h3⟩ := s.sl n _ hd
    refine ⟨_, h1, a, valV ws (Sum.inl i), rfl, DGet.k (k := Sum.inl i) (g.k _ _ (e _ _ h2)), q _ B2 H2 g ?_⟩
    have z := h3.val i
    simp only [Rp]
    cases hv : valD kvs i with
    | none =>
      rw [hv] at z
      have z' : valV ws (Sum.inl i : Key) = none := z
      rw [z']
      all_goals rfl
    | some d =>
      rw [hv] at z
      obtain ⟨v, z1, z2⟩ := z
      rw [z1]
      all_goals rfl
theorem ev_dget {n : Nat} (hd : env[n]? = some (.md kvs)) (hi : EvE K ta env (.int i)) (hv : valD kvs i = some d) : EvE K (tDGet (tVar n) ta) env d := fun σ B s H1 e Q q => by
  obtain ⟨a, ws, h1, h2, h3⟩ := s.sl n _ hd
  refine ⟨_, h1, hi σ B s H1 e _ fun v B2 H2 g r => ?_⟩
  simp only [Rp] at r
  subst r
  have z := h3.val i
  rw [hv] at z
  obtain ⟨v, z1, z2⟩ := z
  exact ⟨a, v, rfl, by rw [← z1]; exact DGet.k (k := Sum.inl i) (g.k _ _ (e _ _ h2)), q v B2 H2 g (z2.mono g.b)⟩
def rLenD : List V → Hp → VK → Prop := fun xs H Q => ∃ a kvs, xs = [V.ref a] ∧ H a = some (.dK kvs) ∧ Q (.int kvs.length) H
theorem ev_lenD {n : Nat} (hd : env[n]? = some (.md kvs)) : EvE K (tCB rLenD (tCons (tVar n) tNil)) env (.int (kvs.length : Int)) := fun σ B s H1 e Q q => by
  obtain ⟨a, ws, h1, h2, h3⟩ := s.sl n _ hd
  exact ⟨_, h1, a, ws, rfl, e _ _ h2, q _ B H1 (Gr.refl e) (by simp only [Rp]; rw [h3.len])⟩
theorem ed_new : EvD K tDNewK env [] := fun σ B s H1 e Q q p hp => q p [] B _ (Gr.put e hp) hp (fresh_back e hp) upd_same rfl
/-- d[k] = e -/
theorem run_dput {n : Nat} {E : Ed} (hx : env[n]? = some (.md kvs)) (hv : EvE K tv (imm env) d) (hi : EvE K ta (frz env) (.int i)) (hz : kvs.length < 100000) (q : E.nx (env.set n (.md (putD kvs i d)))) : Run K (sDPut (tVar n) ta tv) env E := fun B0 H0 B H σ D Bs eb s k => by
  refine hv σ B s.imm H s.eH _ fun v B2 H2 g r => ?_
  obtain ⟨ad, a1, a2, a3⟩ := (s.up g).own
  obtain ⟨l, ws, h1, h2, h3, h4⟩ := a3 n _ hx
  refine ⟨_, h1, hi σ H2 (s.up g).frz H2 (Ex.refl _) _ fun u B3 H3 g3 r3 => ?_⟩
  simp only [Rp] at r3
  subst r3
  have s' := (s.up g).grow g3.k
  have h3' := g3.k _ _ h3
  refine ⟨l, _, rfl, DPut.k (k := Sum.inl i) (v := v) h3' (sz_lt (by rw [h4.len]; exact hz)), k.nx σ B2 _ _ (s'.wr (i := n) (sl := .md (putD kvs i d)) (H' := upd H3 l (.dK (putK ws (Sum.inl i) v))) a1 (fun p x hx => ?_) (fun p t ht => (a3 p t ht).up (Ex.refl _) g3.k) (fun a ha => upd_ne fun e => ha (by rw [h2, e]; exact List.mem_cons_self)) (fun a ha => ?_) ⟨l, _, h1, h2, upd_same, h4.put i r⟩) (eb.trans g.b) q⟩
  · obtain ⟨z1, z2, z3⟩ := a2 p x hx
    exact ⟨z1, z2, ex_nn g3.k z3⟩
  · rw [h2, List.mem_singleton] at ha
    subst ha
    rw [upd_same]
    exact fun z => by cases z
/-- sorted(xs), ints -/
theorem en_sortedI {ns ms : List Int} (ha : EvE K ta env (intsD ns)) (hm : ∀ ns' : List Int, ns'.Perm ns → ns'.Pairwise (· ≤ ·) → ns' = ms) : EvN K (tCB (rSortedI K) (tCons ta tNil)) env (intL ms) :=
  en_cb (ea_cons ha ea_nil) fun B H vs e r Q q => by
    obtain ⟨v, rfl, h1⟩ := one_rp r
    simp only [intsD, Rp] at h1
    obtain ⟨a, xs, rfl, h2, h3⟩ := h1
    have z := rp_ints h3
    subst z
    refine ⟨a, ns, rfl, sq_of (e _ _ h2), fun ns' p hp hs hn => ?_⟩
    have z2 := hm ns' hp hs
    subst z2
    exact q p _ B _ (Gr.put e hn) hn (fresh_back e hn) upd_same (ints_rp ns')
end

/-! ### is, in -/
section
variable {K : PySem.W.Frag} {env : En} {te ta tb tc : TE} {d x y : Da} {a b : Bool}
theorem ev_isBl (ha : EvE K ta env (.bl a)) (hb : EvE K tb env (.bl b)) : EvE K (tOp rIsB ta tb) env (.bl (decide (a = b))) :=
  ev_op ha hb fun B H v w e r1 r2 Q q => by
    simp only [Rp] at r1 r2
    subst r1 r2
    exact ⟨a, b, rfl, rfl, q _ B H (Gr.refl e) (by simp only [Rp])⟩
theorem ev_notBl (ha : EvE K ta env (.bl a)) (hb : EvE K tb env (.bl b)) : EvE K (tOp rNotB ta tb) env (.bl (!decide (a = b))) :=
  ev_op ha hb fun B H v w e r1 r2 Q q => by
    simp only [Rp] at r1 r2
    subst r1 r2
    exact ⟨a, b, rfl, rfl, q _ B H (Gr.refl e) (by simp only [Rp])⟩
def isNonD : Da → Bool
  | .non => true
  | _ => false
theorem isN_dec {B : Hp} {v : V} (r : Rp K B d v) : decide (v = .non) = isNonD d := by
  cases d with
  | non =>
    simp only [Rp] at r
    subst r
    rfl
  | bl b =>
    simp only [Rp] at r
    subst r
    rfl
  | int i =>
    simp only [Rp] at r
    subst r
    rfl
  | str s =>
    simp only [Rp] at r
    subst r
    rfl
  | ty n =>
    simp only [Rp] at r
    subst r
    rfl
  | cls C =>
    simp only [Rp] at r
    subst r
    rfl
  | lst ds =>
    simp only [Rp] at r
    obtain ⟨a, xs, rfl, _⟩ := r
    rfl
  | sq ds =>
    simp only [Rp] at r
    obtain ⟨a, xs, rfl, _⟩ := r
    rfl
  | tup ds =>
    simp only [Rp] at r
    obtain ⟨a, xs, rfl, _⟩ := r
    rfl
  | obj C ns ds =>
    simp only [Rp] at r
    obtain ⟨a, dx, xs, rfl, _⟩ := r
    rfl
  | emp =>
    simp only [Rp] at r
    obtain ⟨a, rfl, _⟩ := r
    rfl
theorem ev_isN (ha : EvE K ta env d) : EvE K (tOp rIsN ta (tC .non)) env (.bl (isNonD d)) :=
  ev_op ha ev_non fun B H v w e r1 r2 Q q => by
    simp only [Rp] at r2
    subst r2
    exact ⟨rfl, q _ B H (Gr.refl e) (by simp only [Rp, isN_dec r1])⟩
theorem ev_notN (ha : EvE K ta env d) : EvE K (tOp rNotN ta (tC .non)) env (.bl (!isNonD d)) :=
  ev_op ha ev_non fun B H v w e r1 r2 Q q => by
    simp only [Rp] at r2
    subst r2
    exact ⟨rfl, q _ B H (Gr.refl e) (by simp only [Rp, isN_dec r1])⟩
/-- an int in a tuple of ints -/
theorem inV_ints (i : Int) (ns : List Int) : inV (.int i) (ns.map V.int) = decide (i ∈ ns) := by
  unfold inV
  rw [List.any_map]
  induction ns with
  | nil => simp
  | cons n ns ih =>
    rw [List.any_cons, ih]
    have e : (Function.comp (fun y => eqV y (V.int i)) V.int) n = decide (n = i) := by
      simp [eqV, beqd]
    rw [e]
    by_cases h : n = i
    · simp [h]
    · have h' : ¬ i = n := fun z => h z.symm
      simp [h, h']
theorem ev_inI {i : Int} {ns : List Int} {neg : Bool} (ha : EvE K ta env (.int i)) (hb : EvE K tb env (.tup (intL ns))) : EvE K (tOp (rIn K neg) ta tb) env (.bl (if neg then !decide (i ∈ ns) else decide (i ∈ ns))) :=
  ev_op ha hb fun B H v w e r1 r2 Q q => by
    simp only [Rp] at r1 r2
    obtain ⟨a, xs, rfl, h2, h3⟩ := r2
    subst r1
    have z := rp_ints h3
    subst z
    refine ⟨a, ns.map V.int, rfl, .inr (st_of (e _ _ h2)), rfl, ?_, q _ B H (Gr.refl e) (by simp only [Rp, inV_ints])⟩
    rw [List.all_map]
    exact List.all_eq_true.mpr fun _ _ => rfl
end
end FR

/-! Rows of stones: what falls. -/
namespace FR

/-! ### rows -/
def plc (row : List (Int × Int)) (i : Int) : Int := (row.getD i.toNat (0, 0)).1
def hgt (row : List (Int × Int)) (i : Int) : Int := (row.getD i.toNat (0, 0)).2
def mx (a b : Int) : Int := if b > a then b else a
def mn (a b : Int) : Int := if b < a then b else a
theorem mx_eq (a b : Int) : (if b > a then b else a) = mx a b := rfl
theorem mn_eq (a b : Int) : (if b < a then b else a) = mn a b := rfl
structure Okr (row : List (Int × Int)) : Prop where
  pos : ∀ i : Nat, i < row.length → 0 < hgt row i
  inc : ∀ i j : Nat, i < j → j < row.length → plc row i < plc row j
  few : row.length ≤ 1000
/-- the stones ahead of a pushed one, told from it on: how far, how high -/
def qf (row : List (Int × Int)) (s : Int) (i : Nat) (k : Nat) : Int × Int := (s * plc row (i + s * k), hgt row (i + s * k))
/-- how many lie ahead to that side -/
def ah (row : List (Int × Int)) (s : Int) (i : Nat) : Nat := if s = 1 then row.length - 1 - i else i
def goN (q : Nat → Int × Int) : Nat → Nat → Int → Nat × Int
  | 0, k, far => (k, far)
  | m + 1, k, far => if (q (k + 1)).1 ≤ far then goN q m (k + 1) (mx far ((q (k + 1)).1 + (q (k + 1)).2)) else (k, far)
/-- how many fall behind the pushed one, and how far all reach -/
def fell (row : List (Int × Int)) (s : Int) (i : Nat) : Nat × Int := goN (qf row s i) (ah row s i) 0 ((qf row s i 0).1 + (qf row s i 0).2)
/-- the last one that falls -/
def lastI (row : List (Int × Int)) (s : Int) (i : Nat) : Int := i + s * (fell row s i).1
def farI (row : List (Int × Int)) (s : Int) (i : Nat) : Int := (fell row s i).2
def Sd (s : Int) : Prop := s = 1 ∨ s = -1

structure Chn (q : Nat → Int × Int) (m K : Nat) (F : Int) : Prop where
  le : K ≤ m
  by_ : ∀ j, j < K → ∃ t, t ≤ j ∧ (q (j + 1)).1 ≤ (q t).1 + (q t).2
  stop : K < m → ∀ t, t ≤ K → (q t).1 + (q t).2 < (q (K + 1)).1
  far : ∀ t, t ≤ K → (q t).1 + (q t).2 ≤ F
  att : ∃ t, t ≤ K ∧ F = (q t).1 + (q t).2
theorem goN_chn (q : Nat → Int × Int) (m : Nat) : ∀ (r k : Nat) (far : Int), k + r = m → Chn q k k far → Chn q m (goN q r k far).1 (goN q r k far).2
  | 0, k, far, e, c => by
    subst e
    exact ⟨by simp [goN], c.by_, fun h => by simp [goN] at h, c.far, c.att⟩
  | r + 1, k, far, e, c => by
    unfold goN
    by_cases h : (q (k + 1)).1 ≤ far
    · rw [if_pos h]
      refine goN_chn q m r (k + 1) _ (by omega) ⟨Nat.le_refl _, fun j hj => ?_, fun z => absurd z (by omega), fun t ht => ?_, ?_⟩
      · by_cases e2 : j = k
        · subst e2
          obtain ⟨t, ht, ef⟩ := c.att
          exact ⟨t, ht, by omega⟩
        · exact c.by_ j (by omega)
      · unfold mx
        by_cases e2 : t = k + 1
        · subst e2
          split <;> omega
        · have := c.far t (by omega)
          split <;> omega
      · unfold mx
        split
        · exact ⟨k + 1, Nat.le_refl _, rfl⟩
        · obtain ⟨t, ht, ef⟩ := c.att
          exact ⟨t, by omega, ef⟩
    · rw [if_neg h]
      exact ⟨by omega, c.by_, fun _ t ht => by
        have := c.far t ht
        show _ < (q (k + 1)).1
        omega, c.far, c.att⟩
theorem fell_chn (row : List (Int × Int)) (s : Int) (i : Nat) : Chn (qf row s i) (ah row s i) (fell row s i).1 (fell row s i).2 :=
  goN_chn _ _ _ 0 _ (by omega) ⟨Nat.le_refl _, fun j hj => absurd hj (by omega), fun z => absurd z (by omega), fun t ht => by
    have : t = 0 := by omega
    subst this
    exact Int.le_refl _, ⟨0, Nat.le_refl _, rfl⟩⟩
theorem Chn.uniq {q : Nat → Int × Int} {m K K' : Nat} {F F' : Int} (c : Chn q m K F) (c' : Chn q m K' F') : K = K' := by
  rcases Nat.lt_trichotomy K K' with h | h | h
  · obtain ⟨t, ht, e⟩ := c'.by_ K h
    have := c.stop (by have := c'.le; omega) t ht
    omega
  · exact h
  · obtain ⟨t, ht, e⟩ := c.by_ K' h
    have := c'.stop (by have := c.le; omega) t ht
    omega
end FR

/-! The program's defs about rows: what each computes. -/
namespace FR
open PySem L2 Evl
structure CS where
  w : World
  Answer : Addr
  Chain : Addr
  Stands : Addr
  Fewest : Addr
  Rights : Addr
  Higher : Addr
  FallError : Addr := 0
  BadRow : Addr := 0
  BadStone : Addr := 0
  BadSide : Addr := 0
  BadText : Addr := 0
  fn : List Addr := []

/-! ### rows read -/
theorem getD_atI {α : Type} {xs : List α} {i : Int} {d : α} (h0 : 0 ≤ i) (h1 : i < xs.length) : atI xs i = some (xs.getD i.toNat d) := by
  have e : i = ((i.toNat : Nat) : Int) := by omega
  have hl : i.toNat < xs.length := by omega
  rw [e]
  refine atI_nat ?_
  simp only [Int.toNat_natCast]
  rw [List.getElem?_eq_getElem hl, List.getD_eq_getElem?_getD, List.getElem?_eq_getElem hl]
  rfl
section
variable {K : PySem.W.Frag} {env : En} {te ta tb tc : TE} {row : List (Int × Int)} {i : Int} {ns : List Int}
theorem row_atI (h0 : 0 ≤ i) (h1 : i < row.length) : atI (rowL row) i = some (prD (plc row i, hgt row i)) := by
  have h := getD_atI (xs := row) (d := (0, 0)) h0 h1
  unfold atI at h ⊢
  rw [List.length_map]
  cases e : ixN row.length i with
  | none =>
    rw [e] at h
    cases h
  | some j =>
    rw [e] at h
    have h' : row[j]? = some (row.getD i.toNat (0, 0)) := h
    show (rowL row)[j]? = _
    rw [List.getElem?_map, h']
    rfl
theorem ev_rowI (ha : EvE K ta env (rowD row)) (hb : EvE K tb env (.int i)) (h0 : 0 ≤ i) (h1 : i < row.length) : EvE K (tOp (rIxL K) ta tb) env (prD (plc row i, hgt row i)) :=
  ev_ixL ha hb (row_atI h0 h1)
theorem ev_row0 (ha : EvE K ta env (rowD row)) (hb : EvE K tb env (.int i)) (h0 : 0 ≤ i) (h1 : i < row.length) : EvE K (tOp (rIxT K) (tOp (rIxL K) ta tb) (tC (.int 0))) env (.int (plc row i)) :=
  ev_ixT (ev_rowI ha hb h0 h1) ev_int rfl
theorem ev_row1 (ha : EvE K ta env (rowD row)) (hb : EvE K tb env (.int i)) (h0 : 0 ≤ i) (h1 : i < row.length) : EvE K (tOp (rIxT K) (tOp (rIxL K) ta tb) (tC (.int 1))) env (.int (hgt row i)) :=
  ev_ixT (ev_rowI ha hb h0 h1) ev_int rfl
theorem ev_pr0 {p : Int × Int} (ha : EvE K ta env (prD p)) : EvE K (tOp (rIxT K) ta (tC (.int 0))) env (.int p.1) := ev_ixT ha ev_int rfl
theorem ev_pr1 {p : Int × Int} (ha : EvE K ta env (prD p)) : EvE K (tOp (rIxT K) ta (tC (.int 1))) env (.int p.2) := ev_ixT ha ev_int rfl
theorem ev_lenR (ha : EvE K ta env (rowD row)) : EvE K (tCB (rLenS K) (tCons ta tNil)) env (.int (row.length : Int)) := (ev_lenL ha).is (by rw [List.length_map])
theorem ev_lenI (ha : EvE K ta env (intsD ns)) : EvE K (tCB (rLenS K) (tCons ta tNil)) env (.int (ns.length : Int)) := (ev_lenL ha).is (by rw [List.length_map])
theorem plc_get {j : Nat} {p : Int × Int} (h : row[j]? = some p) : p = (plc row j, hgt row j) := by
  unfold plc hgt
  simp only [Int.toNat_natCast]
  rw [List.getD_eq_getElem?_getD, h]
  rfl
theorem plc_mem {p : Int × Int} (h : p ∈ row) : ∃ j : Nat, j < row.length ∧ p = (plc row j, hgt row j) := by
  obtain ⟨j, hj, e⟩ := List.mem_iff_getElem.mp h
  exact ⟨j, hj, plc_get (by rw [List.getElem?_eq_getElem hj, e])⟩
end
local macro_rules | `(tactic| walk_at "ev") => `(tactic| first
  | (apply ev_pr0; walk_at "ev")
  | (apply ev_pr1; walk_at "ev")
  | (apply ev_lenR; walk_at "ev")
  | (apply ev_lenI; walk_at "ev"))
local macro_rules | `(tactic| walk_at "side") => `(tactic| first | assumption | decide | omega | (exact Or.inl ⟨by decide, by decide⟩) | (exact Or.inr ⟨by decide, by decide⟩))
local macro_rules | `(tactic| walk_at "wk") => `(tactic| first
  | (apply wk_rng1 <;> first | walk_at "ev" | walk_at "side")
  | (apply wk_rng2 <;> first | walk_at "ev" | walk_at "side")
  | (apply wk_list; walk_at "ev")
  | (apply wk_sq; walk_at "ev")
  | (apply wk_tup; walk_at "ev"))
local macro_rules | `(tactic| walk_at "en") => `(tactic| first
  | (apply en_lst <;> first | walk_at "ea" | simp)
  | (apply en_listL; walk_at "ev")
  | (apply en_listT; walk_at "ev")
  | (apply en_rev; walk_at "ev")
  | (apply en_slL <;> first | walk_at "ev" | walk_at "eo")
  | (apply en_slQ <;> first | walk_at "ev" | walk_at "eo"))
local macro_rules | `(tactic| walk_at "eo") => `(tactic| first
  | exact eo_none
  | (apply eo_some; walk_at "ev"))
local macro_rules | `(tactic| walk_at "ea") => `(tactic| first
  | exact ea_nil
  | (apply ea_cons <;> first | walk_at "ev" | walk_at "ea"))
local macro_rules | `(tactic| walk_at "eb") => `(tactic| first
  | exact eb_yes
  | (apply eb_not; walk_at "eb")
  | (apply eb_test; walk_at "ev")
  | (apply eb_B; walk_at "ev"))
local macro_rules | `(tactic| walk_at "ev") => `(tactic| first
  | exact ev_int
  | exact ev_bl
  | exact ev_non
  | exact ev_ty
  | exact ev_str
  | exact ev_cls
  | exact ev_var rfl
  | assumption
  | (apply ev_row0 <;> first | walk_at "ev" | walk_at "side")
  | (apply ev_row1 <;> first | walk_at "ev" | walk_at "side")
  | (apply ev_rowI <;> first | walk_at "ev" | walk_at "side")
  | (apply ev_add <;> walk_at "ev")
  | (apply ev_sub <;> walk_at "ev")
  | (apply ev_mul <;> first | walk_at "ev" | walk_at "side")
  | (apply ev_neg; walk_at "ev")
  | (apply ev_lt <;> walk_at "ev")
  | (apply ev_le <;> walk_at "ev")
  | (apply ev_gt <;> walk_at "ev")
  | (apply ev_ge <;> walk_at "ev")
  | (apply ev_mod <;> first | walk_at "ev" | walk_at "side")
  | (apply ev_div <;> first | walk_at "ev" | exact ⟨by decide, by decide⟩)
  | (apply ev_eqI <;> walk_at "ev")
  | (apply ev_neI <;> walk_at "ev")
  | (apply ev_max2 <;> walk_at "ev")
  | (apply ev_min2 <;> walk_at "ev")
  | (apply ev_abs; walk_at "ev")
  | (apply ev_lenL; walk_at "ev")
  | (apply ev_lenQ; walk_at "ev")
  | (apply ev_lenT; walk_at "ev")
  | (apply ev_isiB <;> first | walk_at "ev" | rfl | decide +kernel)
  | (apply ev_chainI rfl rfl <;> first | walk_at "ev" | (intro _; walk_at "ev"))
  | (apply ev_notV; walk_at "ev")
  | (apply ev_tup <;> first | walk_at "ea" | simp)
  | (apply ev_new; walk_at "en"))


/-! ### what the defs promise -/
def P_is_number (ds : List Da) (d : Da) : Prop := ∃ i : Int, ds = [.int i] ∧ d = .bl true
def P_is_pair (ds : List Da) (d : Da) : Prop := ∃ p : Int × Int, ds = [prD p] ∧ d = .bl true
def P_check_row (ds : List Da) (d : Da) : Prop := ∃ row, ds = [rowD row] ∧ Okr row ∧ d = .non
def P_check_stone (ds : List Da) (d : Da) : Prop := ∃ row, ∃ i : Int, ds = [rowD row, .int i] ∧ (0 ≤ i ∧ i < row.length) ∧ d = .non
def P_check_side (ds : List Da) (d : Da) : Prop := ∃ s : Int, ds = [.int s] ∧ Sd s ∧ d = .non
def P_last_felled (ds : List Da) (d : Da) : Prop := ∃ row, ∃ i : Nat, ∃ s : Int, ds = [rowD row, .int i, .int s] ∧ (i < row.length ∧ row.length ≤ 1000 ∧ Sd s) ∧ d = .tup [.int (lastI row s i), .int (farI row s i)]
/-- the ints lo .. hi -/
def spanL (lo hi : Int) : List Int := (List.range (hi + 1 - lo).toNat).map fun k => lo + (k : Nat)
def fellL (row : List (Int × Int)) (i : Nat) (s : Int) : List Int := spanL (mn i (lastI row s i)) (mx i (lastI row s i))
def P_felled_by (ds : List Da) (es : List Da) : Prop := ∃ row, ∃ i : Nat, ∃ s : Int, ds = [rowD row, .int i, .int s] ∧ (i < row.length ∧ row.length ≤ 1000 ∧ Sd s) ∧ es = intL (fellL row i s)
def mir (row : List (Int × Int)) : List (Int × Int) := row.reverse.map fun p => (-p.1, p.2)
def P_mirrored (ds : List Da) (es : List Da) : Prop := ∃ row, ds = [rowD row] ∧ Okr row ∧ es = rowL (mir row)
def P_felled (ds : List Da) (es : List Da) : Prop := ∃ row, ∃ i : Nat, ∃ s : Int, ds = [rowD row, .int i, .int s] ∧ (i < row.length ∧ Okr row ∧ Sd s) ∧ es = intL (fellL row i s)
abbrev sp_is_number (K : PySem.W.Frag) (C : CS) : Sp := FnP K P_is_number
abbrev sp_is_pair (K : PySem.W.Frag) (C : CS) : Sp := FnP K P_is_pair
abbrev sp_check_row (K : PySem.W.Frag) (C : CS) : Sp := FnP K P_check_row
abbrev sp_check_stone (K : PySem.W.Frag) (C : CS) : Sp := FnP K P_check_stone
abbrev sp_check_side (K : PySem.W.Frag) (C : CS) : Sp := FnP K P_check_side
abbrev sp_last_felled (K : PySem.W.Frag) (C : CS) : Sp := FnP K P_last_felled
abbrev sp_felled_by (K : PySem.W.Frag) (C : CS) : Sp := FnL K P_felled_by
abbrev sp_mirrored (K : PySem.W.Frag) (C : CS) : Sp := FnL K P_mirrored
abbrev sp_felled (K : PySem.W.Frag) (C : CS) : Sp := FnL K P_felled
def t_is_number (K : PySem.W.Frag) (C : CS) : TS :=
  (tRet (tAndV (tCB (rIsi K) (tCons (tVar 0) (tCons (tC (.ty "int")) tNil))) (tNotV (tCB (rIsi K) (tCons (tVar 0) (tCons (tC (.ty "bool")) tNil))))))
def t_is_pair (K : PySem.W.Frag) (C : CS) : TS :=
  (tRet (tAndV (tCB (rIsi K) (tCons (tVar 0) (tCons (tC (.ty "tuple")) tNil))) (tAndV (tOp rEq (tCB (rLenS K) (tCons (tVar 0) tNil)) (tC (.int 2))) (tAndV (tCall (sp_is_number K C) [] E0 (tCons (tOp (rIxT K) (tVar 0) (tC (.int 0))) tNil)) (tCall (sp_is_number K C) [] E0 (tCons (tOp (rIxT K) (tVar 0) (tC (.int 1))) tNil))))))
def t_check_row (K : PySem.W.Frag) (C : CS) : TS :=
  (tSeq (tIfS (tOr (tNot (tB (tCB (rIsi K) (tCons (tVar 0) (tCons (tC (.ty "list")) tNil))))) (tNot (tB (tCB (rAll K) (tCons (tLc (iList K (tVar 0)) (gName 1) tYes (tAndV (tCall (sp_is_pair K C) [] E0 (tCons (tVar 1) tNil)) (tOp rGtI (tOp (rIxT K) (tVar 1) (tC (.int 1))) (tC (.int 0)))) [1]) tNil))))) tNever tNext) (tIfS (tNot (tB (tCB (rAll K) (tCons (tLc (iRng2 (tCons (tC (.int 1)) (tCons (tCB (rLenS K) (tCons (tVar 0) tNil)) tNil))) (gName 2) tYes (tOp rLtI (tOp (rIxT K) (tOp (rIxL K) (tVar 0) (tOp rSubI (tVar 2) (tC (.int 1)))) (tC (.int 0))) (tOp (rIxT K) (tOp (rIxL K) (tVar 0) (tVar 2)) (tC (.int 0)))) [2]) tNil)))) tNever tNext))
def t_check_stone (K : PySem.W.Frag) (C : CS) : TS :=
  (tIfS (tOr (tNot (tB (tCall (sp_is_number K C) [] E0 (tCons (tVar 1) tNil)))) (tNot (tTest (tChain rLeI rLtI (tC (.int 0)) (tVar 1) (tCB (rLenS K) (tCons (tVar 0) tNil)))))) tNever tNext)
def t_check_side (K : PySem.W.Frag) (C : CS) : TS :=
  (tIfS (tOr (tNot (tB (tCall (sp_is_number K C) [] E0 (tCons (tVar 0) tNil)))) (tTest (tOp (rIn K true) (tVar 0) (tTup (tCons (tC (.int 1)) (tCons (tUn (rU fun i => .int (-i)) (tC (.int 1))) tNil)))))) tNever tNext)
def t_last_felled (K : PySem.W.Frag) (C : CS) : TS :=
  (tSeq (tAsg (tOp rAddI (tOp rMulI (tVar 2) (tOp (rIxT K) (tOp (rIxL K) (tVar 0) (tVar 1)) (tC (.int 0)))) (tOp (rIxT K) (tOp (rIxL K) (tVar 0) (tVar 1)) (tC (.int 1)))) (gName 3)) (tSeq (tAsg (tVar 1) (gName 4)) (tSeq (tWhile (tAnd (tTest (tChain rLeI rLtI (tC (.int 0)) (tOp rAddI (tVar 4) (tVar 2)) (tCB (rLenS K) (tCons (tVar 0) tNil)))) (tTest (tOp rLeI (tOp rMulI (tVar 2) (tOp (rIxT K) (tOp (rIxL K) (tVar 0) (tOp rAddI (tVar 4) (tVar 2))) (tC (.int 0)))) (tVar 3)))) (tSeq (tAug 4 (tVar 2) (ipI fun i j => i + j)) (tAsg (tCB rMax2 (tCons (tVar 3) (tCons (tOp rAddI (tOp rMulI (tVar 2) (tOp (rIxT K) (tOp (rIxL K) (tVar 0) (tVar 4)) (tC (.int 0)))) (tOp (rIxT K) (tOp (rIxL K) (tVar 0) (tVar 4)) (tC (.int 1)))) tNil))) (gName 3)))) (tRet (tTup (tCons (tVar 4) (tCons (tVar 3) tNil)))))))
def t_felled_by (K : PySem.W.Frag) (C : CS) : TS :=
  (tSeq (tAsg (tOp (rIxT K) (tCall (sp_last_felled K C) [] E0 (tCons (tVar 0) (tCons (tVar 1) (tCons (tVar 2) tNil)))) (tC (.int 0))) (gName 3)) (tRet (tLstRg (tRg2 (tCB rMin2 (tCons (tVar 1) (tCons (tVar 3) tNil))) (tOp rAddI (tCB rMax2 (tCons (tVar 1) (tCons (tVar 3) tNil))) (tC (.int 1)))))))
def t_mirrored (K : PySem.W.Frag) (C : CS) : TS :=
  (tSeq (tDrop (tCall (sp_check_row K C) [] E0 (tCons (tVar 0) tNil))) (tRet (tLc (iRev K (tCons (tVar 0) tNil)) (gTup K 2 (gCons (gName 1) (gCons (gName 2) gNil))) tYes (tTup (tCons (tUn (rU fun i => .int (-i)) (tVar 1)) (tCons (tVar 2) tNil))) [1, 2])))
def t_felled (K : PySem.W.Frag) (C : CS) : TS :=
  (tSeq (tDrop (tCall (sp_check_row K C) [] E0 (tCons (tVar 0) tNil))) (tSeq (tDrop (tCall (sp_check_stone K C) [] E0 (tCons (tVar 0) (tCons (tVar 1) tNil)))) (tSeq (tDrop (tCall (sp_check_side K C) [] E0 (tCons (tVar 2) tNil))) (tRet (tCall (sp_felled_by K C) [] E0 (tCons (tVar 0) (tCons (tVar 1) (tCons (tVar 2) tNil))))))))

/-! ### what they compute -/
section
variable {K : PySem.W.Frag} {C : CS}
theorem run_is_number {ds : List Da} {d : Da} (h : P_is_number ds d) : Run K (t_is_number K C) (ent ds 0) (retD d) := by
  obtain ⟨i, rfl, rfl⟩ := h
  refine run_ret (d := .bl (true && !false)) (ev_andV (a := true) (b := !false) ?_ fun _ => ?_) rfl
  · walk_at "ev"
  · walk_at "ev"
theorem run_is_pair {ds : List Da} {d : Da} (h : P_is_pair ds d) : Run K (t_is_pair K C) (ent ds 0) (retD d) := by
  obtain ⟨p, rfl, rfl⟩ := h
  refine run_ret (d := .bl (true && (decide ((2 : Int) = 2) && (true && true)))) (ev_andV ?_ fun _ => ev_andV ?_ fun _ => ev_andV ?_ fun _ => ?_) rfl
  · exact ev_isiB (n := "tuple") (ev_var rfl) ev_ty rfl (by decide)
  · exact ev_eqI (ev_lenT (ds := [.int p.1, .int p.2]) (ev_var rfl)) ev_int
  · exact ev_call (ds := [.int p.1]) (ea_cons (ev_pr0 (ev_var rfl)) ea_nil) ⟨p.1, rfl, rfl⟩
  · exact ev_call (ds := [.int p.2]) (ea_cons (ev_pr1 (ev_var rfl)) ea_nil) ⟨p.2, rfl, rfl⟩
theorem run_check_row {ds : List Da} {d : Da} (h : P_check_row ds d) : Run K (t_check_row K C) (ent ds 2) (retD d) := by
  obtain ⟨row, rfl, ok, rfl⟩ := h
  refine run_seq (run_if (b := !true || !true) (eb_or ?_ fun _ => ?_) (fun z => by cases z) fun _ => run_next ?_)
  · refine eb_not (eb_B ?_)
    exact ev_isiB (n := "list") (ev_var rfl) ev_ty rfl (by decide)
  · refine eb_not (eb_B ?_)
    refine (ev_all (bs := (row.filter fun _ => true).map fun p => true && decide (0 < p.2)) ?_).is ?_
    · refine ev_new ?_
      refine (en_lc (us := [1]) prD (fun _ => true) (fun p => Da.bl (true && decide (0 < p.2))) row (wk_list (ev_var rfl)) (by simp) (by have := ok.few; omega) fun p hp => ⟨_, tc_name, eb_yes, fun _ => ?_⟩).is (by rw [List.map_map]; rfl)
      refine ev_andV ?_ fun _ => ?_
      · exact ev_call (ds := [prD p]) (ea_cons (ev_var rfl) ea_nil) ⟨p, rfl, rfl⟩
      · exact ev_gt (ev_pr1 (ev_var rfl)) ev_int
    · congr 1
      rw [List.all_map, List.all_eq_true]
      intro p hp
      obtain ⟨j, hj, rfl⟩ := plc_mem (List.mem_filter.mp hp).1
      have := ok.pos j hj
      simp [this]
  · refine run_if (b := !true) ?_ (fun z => by cases z) fun _ => run_next rfl
    refine eb_not (eb_B ?_)
    refine (ev_all (bs := ((List.range ((row.length : Int) - 1).toNat).filter fun _ => true).map fun k => decide (plc row (1 + (k : Nat) - 1) < plc row (1 + (k : Nat)))) ?_).is ?_
    · refine ev_new ?_
      refine (en_lc (us := [2]) (fun k : Nat => Da.int (1 + (k : Nat))) (fun _ => true) (fun k => Da.bl (decide (plc row (1 + (k : Nat) - 1) < plc row (1 + (k : Nat))))) (List.range ((row.length : Int) - 1).toNat) ?_ (by simp) (by rw [List.length_range]; have := ok.few; omega) fun k hk => ⟨_, tc_name, eb_yes, fun _ => ?_⟩).is (by rw [List.map_map]; rfl)
      · refine wk_rng2 ev_int (ev_lenR (ev_var rfl)) ?_
        have := ok.few
        omega
      · have hk' := List.mem_range.mp hk
        refine ev_lt (ev_row0 (ev_var rfl) (ev_sub (ev_var rfl) ev_int) (by omega) (by omega)) (ev_row0 (ev_var rfl) (ev_var rfl) (by omega) (by omega))
    · congr 1
      rw [List.all_map, List.all_eq_true]
      intro k hk
      have hk' := List.mem_range.mp (List.mem_filter.mp hk).1
      have := ok.inc k (k + 1) (by omega) (by omega)
      simp only [Function.comp, id, decide_eq_true_eq]
      have e1 : (1 : Int) + (k : Nat) - 1 = ((k : Nat) : Int) := by omega
      have e2 : (1 : Int) + (k : Nat) = ((k + 1 : Nat) : Int) := by omega
      rw [e1, e2]
      exact this
theorem run_check_stone {ds : List Da} {d : Da} (h : P_check_stone ds d) : Run K (t_check_stone K C) (ent ds 0) (retD d) := by
  obtain ⟨row, i, rfl, hi, rfl⟩ := h
  refine run_if (b := !true || !(decide (0 ≤ i) && decide (i < (row.length : Int)))) (eb_or ?_ fun _ => ?_) (fun z => ?_) fun _ => run_next rfl
  · exact eb_not (eb_B (ev_call (ds := [.int i]) (ea_cons (ev_var rfl) ea_nil) ⟨i, rfl, rfl⟩))
  · exact eb_not (eb_test (ev_chainI rfl rfl ev_int (ev_var rfl) fun _ => ev_lenR (ev_var rfl)))
  · rw [decide_eq_true hi.1, decide_eq_true hi.2] at z
    cases z
theorem run_check_side {ds : List Da} {d : Da} (h : P_check_side ds d) : Run K (t_check_side K C) (ent ds 0) (retD d) := by
  obtain ⟨s, rfl, hs, rfl⟩ := h
  refine run_if (b := !true || (if true = true then !decide (s ∈ [1, -1]) else decide (s ∈ [1, -1]))) (eb_or ?_ fun _ => ?_) (fun z => ?_) fun _ => run_next rfl
  · exact eb_not (eb_B (ev_call (ds := [.int s]) (ea_cons (ev_var rfl) ea_nil) ⟨s, rfl, rfl⟩))
  · exact eb_test (ev_inI (ns := [1, -1]) (ev_var rfl) (ev_tup (ea_cons ev_int (ea_cons (ev_neg ev_int) ea_nil))))
  · rcases hs with rfl | rfl <;> simp at z
theorem cmul_s {s x : Int} (h : Sd s) : CMul s x := .inl (by rcases h with rfl | rfl <;> decide)
theorem run_last_felled {ds : List Da} {d : Da} (h : P_last_felled ds d) : Run K (t_last_felled K C) (ent ds 2) (retD d) := by
  obtain ⟨row, i, s, rfl, ⟨hi, hn, hs⟩, rfl⟩ := h
  refine run_seq (run_asg (d := .int ((qf row s i 0).1 + (qf row s i 0).2)) ?_ ?_)
  · refine (ev_add (ev_mul (ev_var rfl) (ev_row0 (i := i) (ev_var rfl) (ev_var rfl) (by omega) (by omega)) (cmul_s hs)) (ev_row1 (i := i) (ev_var rfl) (ev_var rfl) (by omega) (by omega))).is ?_
    simp [qf]
  refine run_seq (run_asg (d := .int (i : Nat)) (ev_var rfl) ?_)
  refine run_seq (run_while (fun m e => ∃ k far, e = [.im (rowD row), .im (.int i), .im (.int s), .im (.int far), .im (.int (i + s * (k : Nat)))] ∧ k + m = ah row s i ∧ goN (qf row s i) m k far = fell row s i) (ah row s i) ⟨0, (qf row s i 0).1 + (qf row s i 0).2, ?_, by omega, rfl⟩ ?_)
  · have e0 : (i : Int) + s * ((0 : Nat) : Int) = i := by simp
    rw [e0]
    rfl
  rintro m e ⟨k, far, rfl, hm, hg⟩
  have hk : 0 ≤ (i : Int) + s * k ∧ (i : Int) + s * k < row.length := by
    rcases hs with rfl | rfl
    · have : ah row 1 i = row.length - 1 - i := by unfold ah; simp
      omega
    · have : ah row (-1) i = i := by unfold ah; simp
      omega
  have e1 : (i : Int) + s * (k : Nat) + s = i + s * ((k + 1 : Nat) : Int) := by
    rcases hs with rfl | rfl <;> omega
  refine ⟨(decide (0 ≤ (i : Int) + s * k + s) && decide ((i : Int) + s * k + s < row.length)) && decide (s * plc row (i + s * k + s) ≤ far), eb_and (eb_test ?_) (fun hb => eb_test ?_), fun hb => ?_, fun hb => ?_⟩
  · exact ev_chainI rfl rfl ev_int (ev_add (ev_var rfl) (ev_var rfl)) fun _ => ev_lenR (ev_var rfl)
  · simp only [Bool.and_eq_true, decide_eq_true_eq] at hb
    exact ev_le (ev_mul (ev_var rfl) (ev_row0 (ev_var rfl) (ev_add (ev_var rfl) (ev_var rfl)) hb.1 hb.2) (cmul_s hs)) (ev_var rfl)
  · simp only [Bool.and_eq_true, decide_eq_true_eq] at hb
    have hm1 : m = (m - 1) + 1 := by
      rcases hs with rfl | rfl
      · have : ah row 1 i = row.length - 1 - i := by unfold ah; simp
        omega
      · have : ah row (-1) i = i := by unfold ah; simp
        omega
    refine run_seq (run_aug (a := i + s * (k : Nat)) (b := s) rfl (ev_var rfl) ?_)
    refine run_asg (d := .int (mx far (s * plc row (i + s * k + s) + hgt row (i + s * k + s)))) ?_ ?_
    · exact ev_max2 (ev_var rfl) (ev_add (ev_mul (ev_var rfl) (ev_row0 (ev_var rfl) (ev_var rfl) hb.1.1 hb.1.2) (cmul_s hs)) (ev_row1 (ev_var rfl) (ev_var rfl) hb.1.1 hb.1.2))
    · refine ⟨m - 1, by omega, k + 1, mx far (s * plc row (i + s * k + s) + hgt row (i + s * k + s)), ?_, by omega, ?_⟩
      · rw [← e1]
        rfl
      · rw [← hg, hm1]
        simp only [Nat.add_sub_cancel]
        conv => rhs; unfold goN
        rw [if_pos (by show s * plc row (i + s * ((k + 1 : Nat) : Int)) ≤ far; rw [← e1]; exact hb.2)]
        show _ = goN (qf row s i) (m - 1) (k + 1) (mx far (s * plc row (i + s * ((k + 1 : Nat) : Int)) + hgt row (i + s * ((k + 1 : Nat) : Int))))
        rw [← e1]
  · have hf : fell row s i = (k, far) := by
      rw [← hg]
      cases m with
      | zero => rfl
      | succ m =>
        unfold goN
        rw [if_neg]
        intro hq
        have hq' : s * plc row (i + s * ((k + 1 : Nat) : Int)) ≤ far := hq
        rw [← e1] at hq'
        rw [decide_eq_true hq', Bool.and_true, Bool.and_eq_false_iff, decide_eq_false_iff_not, decide_eq_false_iff_not] at hb
        rcases hs with rfl | rfl
        · have : ah row 1 i = row.length - 1 - i := by unfold ah; simp
          omega
        · have : ah row (-1) i = i := by unfold ah; simp
          omega
    refine run_ret (d := .tup [.int (i + s * (k : Nat)), .int far]) (ev_tup (ea_cons (ev_var rfl) (ea_cons (ev_var rfl) ea_nil))) ?_
    show Da.tup _ = Da.tup _
    unfold lastI farI
    rw [hf]
theorem lastI_in {row : List (Int × Int)} {s : Int} {i : Nat} (hi : i < row.length) (hs : Sd s) : 0 ≤ lastI row s i ∧ lastI row s i < row.length := by
  have h := (fell_chn row s i).le
  unfold lastI
  rcases hs with rfl | rfl
  · have : ah row 1 i = row.length - 1 - i := by unfold ah; simp
    omega
  · have : ah row (-1) i = i := by unfold ah; simp
    omega
theorem run_felled_by {ds : List Da} {es : List Da} (h : P_felled_by ds es) : Run K (t_felled_by K C) (ent ds 1) (retL es) := by
  obtain ⟨row, i, s, rfl, ⟨hi, hn, hs⟩, rfl⟩ := h
  have hl := lastI_in hi hs
  refine run_seq (run_asg (d := .int (lastI row s i)) ?_ ?_)
  · exact ev_ixT (ev_call (ds := [rowD row, .int i, .int s]) (ea_cons (ev_var rfl) (ea_cons (ev_var rfl) (ea_cons (ev_var rfl) ea_nil))) ⟨row, i, s, rfl, ⟨hi, hn, hs⟩, rfl⟩) ev_int rfl
  · refine run_retN (en_listRg (ev_min2 (ev_var rfl) (ev_var rfl)) (ev_add (ev_max2 (ev_var rfl) (ev_var rfl)) ev_int) ?_) ?_
    · refine RgOk.of_le ?_ ?_ ?_ ?_ <;> (repeat' split) <;> omega
    · show _ = intL (fellL row i s)
      unfold fellL spanL intL
      rw [List.map_map]
      rfl
theorem run_mirrored {ds : List Da} {es : List Da} (h : P_mirrored ds es) : Run K (t_mirrored K C) (ent ds 2) (retL es) := by
  obtain ⟨row, rfl, ok, rfl⟩ := h
  refine run_seq (run_drop (d := .non) (ev_call (ds := [rowD row]) (ea_cons (ev_var rfl) ea_nil) ⟨row, rfl, ok, rfl⟩) ?_)
  refine run_retN (en_lc (us := [1, 2]) prD (fun _ => true) (fun p => prD (-p.1, p.2)) row.reverse ?_ (by simp) (by rw [List.length_reverse]; have := ok.few; omega) fun p hp => ⟨_, tc_tup2 tc_name tc_name, eb_yes, fun _ => ?_⟩) ?_
  · have := wk_rev (K := K) (env := imm (ent [rowD row] 2)) (te := tVar 0) (ta := tVar 0) (ds := rowL row) (ev_var rfl)
    rw [List.map_reverse]
    exact this
  · exact ev_tup (ea_cons (ev_neg (ev_var rfl)) (ea_cons (ev_var rfl) ea_nil))
  · show _ = rowL (mir row)
    unfold mir rowL
    rw [List.map_map, List.filter_eq_self.mpr fun _ _ => rfl]
    rfl
theorem run_felled {ds : List Da} {es : List Da} (h : P_felled ds es) : Run K (t_felled K C) (ent ds 0) (retL es) := by
  obtain ⟨row, i, s, rfl, ⟨hi, ok, hs⟩, rfl⟩ := h
  refine run_seq (run_drop (d := .non) (ev_call (ds := [rowD row]) (ea_cons (ev_var rfl) ea_nil) ⟨row, rfl, ok, rfl⟩) ?_)
  refine run_seq (run_drop (d := .non) (ev_call (ds := [rowD row, .int i]) (ea_cons (ev_var rfl) (ea_cons (ev_var rfl) ea_nil)) ⟨row, i, rfl, by omega, rfl⟩) ?_)
  refine run_seq (run_drop (d := .non) (ev_call (ds := [.int s]) (ea_cons (ev_var rfl) ea_nil) ⟨s, rfl, hs, rfl⟩) ?_)
  exact run_retN (en_call (ds := [rowD row, .int i, .int s]) (ea_cons (ev_var rfl) (ea_cons (ev_var rfl) (ea_cons (ev_var rfl) ea_nil))) ⟨row, i, s, rfl, ⟨hi, ok.few, hs⟩, rfl⟩) rfl
end

/-! ### the same, as a def's body asks it -/
section
variable {K : PySem.W.Frag} {C : CS} {vs : List V} {H : Hp} {Q : VK} {E : XK}
theorem len_is_number (h : sp_is_number K C vs H Q E) : vs.length = 1 := len_P (m := 1) (fun ds d ⟨_, e, _⟩ => by rw [e]; rfl) h
theorem pure_is_number (h : sp_is_number K C vs H Q E) : t_is_number K C { nx := fun _ H' => Q .non H', rt := Q } (start ["thing"] vs) H := fnP_of 0 (fun ds d ⟨_, e, _⟩ => by rw [e]; rfl) (fun ds d p => run_is_number p) h
theorem len_is_pair (h : sp_is_pair K C vs H Q E) : vs.length = 1 := len_P (m := 1) (fun ds d ⟨_, e, _⟩ => by rw [e]; rfl) h
theorem pure_is_pair (h : sp_is_pair K C vs H Q E) : t_is_pair K C { nx := fun _ H' => Q .non H', rt := Q } (start ["thing"] vs) H := fnP_of 0 (fun ds d ⟨_, e, _⟩ => by rw [e]; rfl) (fun ds d p => run_is_pair p) h
theorem len_check_row (h : sp_check_row K C vs H Q E) : vs.length = 1 := len_P (m := 1) (fun ds d ⟨_, e, _⟩ => by rw [e]; rfl) h
theorem pure_check_row (h : sp_check_row K C vs H Q E) : t_check_row K C { nx := fun _ H' => Q .non H', rt := Q } (start ["row", "stone", "at"] vs) H := fnP_of 2 (fun ds d ⟨_, e, _⟩ => by rw [e]; rfl) (fun ds d p => run_check_row p) h
theorem len_check_stone (h : sp_check_stone K C vs H Q E) : vs.length = 2 := len_P (m := 2) (fun ds d ⟨_, _, e, _⟩ => by rw [e]; rfl) h
theorem pure_check_stone (h : sp_check_stone K C vs H Q E) : t_check_stone K C { nx := fun _ H' => Q .non H', rt := Q } (start ["row", "stone"] vs) H := fnP_of 0 (fun ds d ⟨_, _, e, _⟩ => by rw [e]; rfl) (fun ds d p => run_check_stone p) h
theorem len_check_side (h : sp_check_side K C vs H Q E) : vs.length = 1 := len_P (m := 1) (fun ds d ⟨_, e, _⟩ => by rw [e]; rfl) h
theorem pure_check_side (h : sp_check_side K C vs H Q E) : t_check_side K C { nx := fun _ H' => Q .non H', rt := Q } (start ["side"] vs) H := fnP_of 0 (fun ds d ⟨_, e, _⟩ => by rw [e]; rfl) (fun ds d p => run_check_side p) h
theorem len_last_felled (h : sp_last_felled K C vs H Q E) : vs.length = 3 := len_P (m := 3) (fun ds d ⟨_, _, _, e, _⟩ => by rw [e]; rfl) h
theorem pure_last_felled (h : sp_last_felled K C vs H Q E) : t_last_felled K C { nx := fun _ H' => Q .non H', rt := Q } (start ["row", "stone", "side", "far", "last"] vs) H := fnP_of 2 (fun ds d ⟨_, _, _, e, _⟩ => by rw [e]; rfl) (fun ds d p => run_last_felled p) h
theorem len_felled_by (h : sp_felled_by K C vs H Q E) : vs.length = 3 := len_L (m := 3) (fun ds d ⟨_, _, _, e, _⟩ => by rw [e]; rfl) h
theorem pure_felled_by (h : sp_felled_by K C vs H Q E) : t_felled_by K C { nx := fun _ H' => Q .non H', rt := Q } (start ["row", "stone", "side", "last"] vs) H := fnL_of 1 (fun ds d ⟨_, _, _, e, _⟩ => by rw [e]; rfl) (fun ds d p => run_felled_by p) h
theorem len_mirrored (h : sp_mirrored K C vs H Q E) : vs.length = 1 := len_L (m := 1) (fun ds d ⟨_, e, _⟩ => by rw [e]; rfl) h
theorem pure_mirrored (h : sp_mirrored K C vs H Q E) : t_mirrored K C { nx := fun _ H' => Q .non H', rt := Q } (start ["row", "place", "height"] vs) H := fnL_of 2 (fun ds d ⟨_, e, _⟩ => by rw [e]; rfl) (fun ds d p => run_mirrored p) h
theorem len_felled (h : sp_felled K C vs H Q E) : vs.length = 3 := len_L (m := 3) (fun ds d ⟨_, _, _, e, _⟩ => by rw [e]; rfl) h
theorem pure_felled (h : sp_felled K C vs H Q E) : t_felled K C { nx := fun _ H' => Q .non H', rt := Q } (start ["row", "stone", "side"] vs) H := fnL_of 0 (fun ds d ⟨_, _, _, e, _⟩ => by rw [e]; rfl) (fun ds d p => run_felled p) h
end
end FR

/-! set(xs) of a list of ints; list(range(a, b, c)); a chain of three. -/
namespace FR
open PySem PyProof.Rows

/-- a set as it is made, without members -/
abbrev bare (w : World) : Obj := { cls := .type "set", dict := none, data := .set #[] 0 (.fresh 0 0 (!w.params.followText "set-order")) }
section
variable {P : Program} {w : World} {A : Around} {E : Value → Shared → Prop} {s : Shared}
/-- what set(l) leaves: all kept, the new set told -/
def Left (w : World) (s : Shared) (ns : List Int) (h' : Heap) (c : Nat) : Prop :=
  L2.SetR w h' s.heap.objs.size (fun j => decide (j ∈ ns)) c ∧ c ≤ ns.length ∧ ∀ b o, s.heap.get? b = some o → h'.get? b = some o
theorem set_of_list {l : Addr} {xs : Array Value} {ns : List Int} {Q : Value → Shared → Prop} (calm : A.handled = none) (isl : s.heap.IsList l xs) (hin : PyProof.Rows.IntsAre xs.toList ns) (room : ns.length + 1 < scanBound)
    (k : ∀ (h' : Heap) (tk c : Nat), Left w s ns h' c → Q (.ref s.heap.objs.size) { s with heap := h', toks := tk }) : wpAny (model P w) A (call (.type "set") [.ref l]) Q E s := by
  have size : xs.size = ns.length := by
    rw [← Array.length_toList]
    exact PyProof.Rows.IntsAre.length hin
  have ⟨_, _, m1⟩ := F.called_set.mro
  have m2 := F.called_set.made
  have m3 := F.called_set.sub
  refine wpAny_call (codeAny_of_tree ?_)
  show wpAny _ _ (callAny (.type "set") ⟨[.ref l], []⟩) _ _ s
  refine wpAny_pure ⟨Code.quiet_builtin _ (by decide +kernel), codeAny_builtin F.entry_type_call ?_⟩
  rw [Around.under_plain (weight_type_call_type "set" [.ref l] []) rfl]
  have m4 := F.called_set.notType
  have m5 := F.called_set.canCreate
  have m6 := F.typeCall_set_1 (.ref l)
  repeat any_goals first | assumption | wp_step
  refine codeAny_mono (L2.code_set_led1 (.ref l) (E := E) (Q₁ := fun z t => z = .ref s.heap.objs.size ∧ t = { s with heap := s.heap.push (bare w) }) ⟨rfl, rfl⟩) fun r t hr => ?_
  match r, hr with
  | .error e, hr => exact hr
  | .ok .next, hr => exact hr.elim
  | .ok .brk, hr => exact hr.elim
  | .ok .cont, hr => exact hr.elim
  | .ok (.ret z), hr =>
    obtain ⟨rfl, rfl⟩ := hr
    have at0 : (s.heap.push (bare w)).get? s.heap.objs.size = some (bare w) := Heap.get?_push_size _ rfl
    have isS : Shared.TypeIs { s with heap := s.heap.push (bare w) } (.ref s.heap.objs.size) "set" := ⟨_, at0, rfl⟩
    have i1 := F.called_set.init.lookup
    have i2 := F.called_set.init.bind (.ref s.heap.objs.size)
    repeat any_goals first | assumption | wp_step
    refine codeAny_mono (codeAny_call_builtin (R := wants (fun r t => r = .none ∧ ∃ h' tk c, t = { s with heap := h', toks := tk } ∧ Left w s ns h' c) E) F.called_set.init.plain F.entry_set_init (check_set_init_1 isS ?_)) fun r t hr => ?_
    · obtain ⟨⟨oc, od, ot, os⟩, ho, hc, hn, hd⟩ := isl
      simp only at hc hd
      subst hc hd
      have ho1 : (s.heap.push (bare w)).get? l = some { cls := .type "list", dict := od, data := .seq xs hn, slots := os } := Heap.get?_push_of_some _ ho
      have u1 := F.sub_list_set
      have u2 := F.sub_list_frozenset
      have u3 : (Value.type "list" == Value.type "dict") = false := by decide
      have isl1 : (s.heap.push (bare w)).IsList l xs := ⟨_, ho1, rfl, hn, rfl⟩
      unfold Builtin.«set.__init__» noKeywords Builtin.Frozenset.updateFrom
      generalize gi : pyIter = it
      wp_walk
      subst gi
      refine wpAny_pyIter_list isl1 (wpAny_bind (wpAny_runValue ?_))
      have lt0 : l < s.heap.objs.size := Heap.lt_size ho
      have big : (s.heap.push (bare w)).objs.size = s.heap.objs.size + 1 := Heap.size_push ..
      have ne0 : l ≠ (s.heap.push (bare w)).objs.size := fun z => by
        rw [big] at z
        exact Nat.lt_irrefl _ (Nat.lt_of_lt_of_le (Nat.lt_succ_of_lt lt0) (Nat.le_of_eq z.symm))
      have out : s.heap.objs.size ∉ [(s.heap.push (bare w)).objs.size, l] := by
        rw [big]
        intro z
        rcases List.mem_cons.mp z with z | z
        · exact Nat.lt_irrefl _ (Nat.lt_of_lt_of_le (Nat.lt_succ_self _) (Nat.le_of_eq z.symm))
        · exact Nat.ne_of_gt lt0 (List.mem_singleton.mp z)
      refine L2.set_update_ints ((Walks.list (show A.in1.in1.in1.handled = none by simp [calm]) _ l ne0 xs).toS) s.heap.objs.size out ns size room (fun i v hv => ?_) (xs.size - 0) 0 _ (by omega) (Nat.zero_le _) ⟨⟨_, Heap.get?_push_size _ rfl, rfl, rfl⟩, isl1.push _⟩ ?_ ?_
      · have hi : i < ns.length := by
          rw [← size]
          exact (Array.getElem?_eq_some_iff.mp hv).1
        obtain ⟨t, e⟩ := PyProof.Rows.IntsAre.int_at hin i v (by rw [Array.getElem?_toList]; exact hv)
        refine ⟨ns[i], t, List.getElem?_eq_getElem hi, ?_⟩
        rw [e, List.getD_eq_getElem?_getD, List.getElem?_eq_getElem hi]
        rfl
      · exact ⟨0, Nat.le_refl 0, L2.setR_new_at (Heap.get?_push_of_some _ at0)⟩
      · intro t c moved hc hS
        obtain ⟨th, tg, td, tt, to⟩ := t
        obtain rfl : tg = s.gens := moved.gens
        obtain rfl : td = s.drawn := moved.drawn
        obtain rfl : to = s.os := moved.os
        show wpAny _ _ _ _ _ _
        refine wpAny_pure ?_
        show wpAny _ _ (ret Value.none) _ _ _
        refine wpAny_pure ⟨rfl, th, tt, c, rfl, hS, by omega, fun b o e => ?_⟩
        have hb : b < s.heap.objs.size := Heap.lt_size e
        refine moved.heap b o (fun z => ?_) (Heap.get?_push_of_some _ (Heap.get?_push_of_some _ e))
        rcases List.mem_cons.mp z with z | z
        · exact Nat.ne_of_lt hb z
        · rw [List.mem_singleton.mp z, big] at hb
          exact Nat.lt_irrefl _ (Nat.lt_of_lt_of_le hb (Nat.le_succ _))
    · match r, hr with
      | .error e, hr => exact hr
      | .ok .next, hr => exact hr.elim
      | .ok .brk, hr => exact hr.elim
      | .ok .cont, hr => exact hr.elim
      | .ok (.ret z), hr =>
        obtain ⟨rfl, h', tk, c, rfl, left⟩ := hr
        repeat any_goals first | assumption | wp_step
        exact k h' tk c left
end
end FR

namespace FR
open PySem L2 Evl
open PySem.Spec PyProof.Rows
/-! ### sorted(set(xs)) -/
def rSetI (K : PySem.W.Frag) (w : World) : List V → Hp → VK → Prop := fun xs H Q => ∃ (a : Addr) (ns : List Int), xs = [.ref a] ∧ SqL K H a (ns.map V.int) ∧ ns.length < 4000 ∧
  ∀ (c : Nat) (p : Addr), c ≤ ns.length → H p = none → Q (.ref p) (upd H p (SetO w p (fun j => decide (j ∈ ns)) c))
theorem cr_setI {X : Cx} (hc : X.calm = true) : CallR X (.type "set") (rSetI X.K X.w) := by
  intro pins s σ H xs us Q I r h
  obtain ⟨a, ns, rfl, hS, hn, q⟩ := h
  rw [Vals.ref1 r]
  obtain ⟨its, rv, pl, hz⟩ := I.list hS
  have hi : PyProof.Rows.IntsAre its.toArray.toList ns := by
    have z := ints_of_vals rv
    simpa using z
  refine set_of_list (I.ok.hd hc) pl.isList hi (by unfold scanBound; omega) fun h' tk c left => ?_
  have new : H s.heap.objs.size = none := I.hok.fresh (Nat.le_refl _)
  exact ⟨.ref s.heap.objs.size, upd H s.heap.objs.size (SetO X.w s.heap.objs.size (fun j => decide (j ∈ ns)) c), I.laid (t' := tk) left.2.2 (Nat.le_refl _) (setO_new left.1), rfl, q c _ left.2.1 new⟩
section
variable {K : PySem.W.Frag} {w : World} {env : En} {te ta tb tc td : TE} {ns ms : List Int} {i j c : Int}
theorem en_sortedSet (ha : EvE K te env (intsD ns)) (hn : ns.length < 64) (hm : ∀ ns' : List Int, ns'.Pairwise (· < ·) → (∀ k : Int, k ∈ ns' ↔ k ∈ ns) → ns' = ms) : EvN K (tCB (rSortedSet w) (tCons (tCB (rSetI K w) (tCons te tNil)) tNil)) env (intL ms) := fun σ B s H1 e Q q =>
  ha σ B s H1 e _ fun v B2 H2 g r => by
    simp only [intsD, Rp] at r
    obtain ⟨a, xs, rfl, h2, h3⟩ := r
    have z := rp_ints h3
    subst z
    refine ⟨a, ns, rfl, sq_of (g.h _ _ h2), by omega, fun cc p hc hp => ⟨p, fun j => decide (j ∈ ns), cc, rfl, upd_same, by omega, fun ns' l h1 h4 _ hl => ?_⟩⟩
    have z2 := hm ns' h1 fun k => by rw [h4 k]; simp
    subst z2
    have e2 : Ex H2 (upd H2 p (SetO w p (fun j => decide (j ∈ ns)) cc)) := Ex.new hp
    have g2 := g.trans (Gr.keep g.h e2)
    exact q l _ B2 _ (g2.trans (Gr.put g2.h hl)) (fresh_back g2.k hl) (fresh_back g2.h hl) upd_same (ints_rp ns')

/-! ### list(range(a, b, c)) -/
def stepV (i c : Int) (n : Nat) : List V := (List.range n).map fun k => V.int (i + (k : Nat) * c)
theorem vals_step {i c : Int} {n : Nat} {acc : Array Value} (h : ItemsOf (fun k v => ∃ t, v = .int (i + k * c) t) acc n) : Vals (stepV i c n) acc.toList := by
  have e : acc.toList.length = n := by
    rw [Array.length_toList]
    exact h.1
  unfold stepV
  rw [← e]
  refine vals_of_get acc.toList _ fun k u hk => ?_
  obtain ⟨t, rfl⟩ := h.2 k u (by rw [← hk, Array.getElem?_toList])
  exact ⟨t, rfl⟩
/-- bounds of a stepped range -/
def RgS (i j c : Int) (n : Nat) : Prop := c ≠ 0 ∧ c.natAbs < 1073741824 ∧ Builtin.Range.small i j c = true ∧ Builtin.Range.rangeSize i j c = n ∧ n ≤ 2 ^ 24
def tLstRg3 (ta tb tc : TE) : TE := fun σ H Q => ta σ H fun x H1 => tb σ H1 fun y H2 => tc σ H2 fun z H3 => ∃ (i j c : Int) (n : Nat), [x, y, z] = [.int i, .int j, .int c] ∧ RgS i j c n ∧ ∀ q, H3 q = none → Q (.ref q) (upd H3 q (.lst (stepV i c n)))
theorem pe_listRg3 {X : Cx} {a b c : Expr} {ta tb tc : TE} {p pos p' pos' : Pos} (hc : X.calm = true) (hg : Gl X "list") (hm : X.mg "list" = none) (hg' : Gl X "range") (hm' : X.mg "range" = none) (ha : PE X a ta) (hb : PE X b tb) (hd : PE X c tc)
    (n1 : starEach [.Call (.Name "range" p') [a, b, c] [] pos'] X.env = (false, eval (.Call (.Name "range" p') [a, b, c] [] pos') X.env) :: starEach [] X.env := by rfl)
    (n2 : starEach [a, b, c] X.env = (false, eval a X.env) :: starEach [b, c] X.env := by rfl) (n3 : (backTo pos' (starEach [b, c] X.env)).any (·.1) = false := by rfl) (n4 : starEach [b, c] X.env = (false, eval b X.env) :: starEach [c] X.env := by rfl) (n5 : starEach [c] X.env = (false, eval c X.env) :: starEach [] X.env := by rfl) :
    PE X (.Call (.Name "list" p) [.Call (.Name "range" p') [a, b, c] [] pos'] [] pos) (tLstRg3 ta tb tc) := by
  refine ⟨fun pins s σ H Q I h => ?_⟩
  have args : PA X [a, b, c] (tCons ta (tCons tb (tCons tc tNil))) := pa_cons ha (pa_cons hb (pa_cons hd pa_nil n5) n4) n2
  have h3 : tCons ta (tCons tb (tCons tc tNil)) σ H fun vs H3 => ∃ (i j k : Int) (n : Nat), vs = [.int i, .int j, .int k] ∧ RgS i j k n ∧ ∀ q, H3 q = none → Q (.ref q) (upd H3 q (.lst (stepV i k n))) := h
  have inner : wpAny (model X.prog X.w) X.A (eval (.Call (.Name "range" p') [a, b, c] [] pos') X.env) (fun x s' => ∃ (r : Addr) (i j k : Int) (n : Nat) (t u v : Tok) (H' : Hp), x = .ref r ∧ IsRange s'.heap r i j k t u v ∧ Inv X pins σ H' s' ∧ RgS i j k n ∧ ∀ q, H' q = none → Q (.ref q) (upd H' q (.lst (stepV i k n)))) X.xe s := by
    refine Call_ (ld_blt I hg' hm' boot_range (PyProof.Rows.callWith_type1 (thn (args.run pos' pins s σ H (fun vs H3 => ∃ (i j k : Int) (n : Nat), vs = [.int i, .int j, .int k] ∧ RgS i j k n ∧ ∀ q, H3 q = none → Q (.ref q) (upd H3 q (.lst (stepV i k n)))) I ?_) fun us s1 ⟨vs, H1, I1, r1, q1⟩ => ?_) n2 n3))
    · exact h3
    · obtain ⟨i, j, k, n, rfl, ok, q⟩ := q1
      cases r1 with
      | cons r rr =>
        cases rr with
        | cons r' rr =>
          cases rr with
          | cons r'' rr =>
            cases rr
            obtain ⟨t, rfl⟩ := r
            obtain ⟨t', rfl⟩ := r'
            obtain ⟨t'', rfl⟩ := r''
            exact call_range_3 ok.1 ⟨_, i, j, k, n, _, _, _, H1, rfl, IsRange.new .., I1.kept fun b o e => Heap.get?_push_of_some _ e, ok, q⟩ (.inl (PyProof.noPylong_small ok.2.1))
  refine Call_ (ld_blt I hg hm boot_list (PyProof.Rows.callWith_type1 (args_cons (thn inner fun x s1 ⟨r, i, j, k, n, t, u, v, H1, ex, hr, I1, ok, q⟩ => args_nil ?_) n1) n1))
  subst ex
  refine call_list_range (n := n) (I1.ok.hd hc) hr ok.2.2.1 ok.2.2.2.1 ok.2.2.2.2 fun h' tk acc c' hk e' hi => ?_
  refine ⟨.ref s1.heap.objs.size, upd H1 s1.heap.objs.size (.lst (stepV i k n)), I1.laid hk (Nat.le_refl _) (show ObjOk X.prog X.w _ _ _ (.lst (stepV i k n)) from ⟨?_, acc.toList, c', vals_step hi, ?_⟩), rfl, q _ (I1.hok.fresh (Nat.le_refl _))⟩
  · unfold stepV
    rw [List.length_map, List.length_range, sizeLine_eq]
    exact ok.2.2.2.2
  · rw [Array.toArray_toList]
    exact e'
theorem en_listRg3 {n : Nat} (ha : EvE K ta env (.int i)) (hb : EvE K tb env (.int j)) (hc : EvE K tc env (.int c)) (h : RgS i j c n) : EvN K (tLstRg3 ta tb tc) env (intL ((List.range n).map fun k => i + ((k : Nat) : Int) * c)) := fun σ B s H1 e Q q =>
  ha σ B s H1 e _ fun v B2 H2 g2 r2 => hb σ B2 (s.mono g2.b) H2 g2.h _ fun w B3 H3 g3 r3 => hc σ B3 ((s.mono g2.b).mono g3.b) H3 g3.h _ fun u B4 H4 g4 r4 => by
    simp only [Rp] at r2 r3 r4
    subst r2 r3 r4
    have g := (g2.trans g3).trans g4
    refine ⟨i, j, c, n, rfl, h, fun p hp => q p _ B4 _ (g.trans (Gr.put g.h hp)) (fresh_back g.k hp) (fresh_back g.h hp) upd_same ?_⟩
    have z := ints_rp (K := K) (B := B4) ((List.range n).map fun k => i + ((k : Nat) : Int) * c)
    have ez : stepV i c n = List.map V.int ((List.range n).map fun k => i + ((k : Nat) : Int) * c) := by
      unfold stepV
      rw [List.map_map]
      rfl
    rw [ez]
    exact z
theorem rgS_neg {a b : Int} (h0 : -1000000 ≤ a) (h1 : a ≤ 1000000) (h2 : -1000000 ≤ b) (h3 : b ≤ 1000000) : RgS a b (-1) (a - b).toNat := by
  have z := RgC.neg (i := a) (j := b) (by omega) (by omega) (by omega) (by omega)
  exact ⟨z.1, z.2.1, z.2.2.1, z.2.2.2, by omega⟩
theorem rgS_pos {a b c : Int} (hc : 0 < c) (hc1 : c ≤ 1000000) (h0 : 0 ≤ a) (h1 : a ≤ 1000000) (h2 : 0 ≤ b) (h3 : b ≤ 1000000) : RgS a b c (Builtin.Range.rangeSize a b c).toNat := by
  have e : Builtin.Range.rangeSize a b c = if a < b then (b - a - 1) / c + 1 else 0 := by
    unfold Builtin.Range.rangeSize
    rw [if_pos hc]
  have hq : (b - a - 1) / c ≤ b - a - 1 ∨ b - a - 1 < 0 := by
    by_cases z : b - a - 1 < 0
    · exact .inr z
    · exact .inl (Int.ediv_le_self _ (by omega))
  have hq0 : a < b → 0 ≤ (b - a - 1) / c := fun z => Int.ediv_nonneg (by omega) (by omega)
  refine ⟨by omega, by omega, ?_, ?_, ?_⟩
  · unfold Builtin.Range.small
    rw [e]
    simp only [Builtin.Range.rangeFitsLong, Bool.and_eq_true, Bool.or_eq_true, decide_eq_true_eq, beq_iff_eq, if_pos hc]
    split <;> omega
  · rw [e]
    split <;> omega
  · rw [e]
    split <;> omega
end
/-! ### a chain of three -/
def tChain3 (r r' r'' : R2) (ta tb tc td : TE) : TE := fun σ H Q => ta σ H fun x H1 => tb σ H1 fun y H2 => r x y H2 fun z H3 => ∃ k, z = .bl k ∧
  (if k = true then tc σ H3 fun w' H4 => r' y w' H4 fun z' H5 => ∃ k', z' = .bl k' ∧ (if k' = true then td σ H5 fun u H6 => r'' w' u H6 Q else Q (.bl false) H5) else Q (.bl false) H3)
section
variable {X : Cx} {a b c d : Expr} {ta tb tc td : TE} {pos : Pos}
theorem pe_chain3 {op op' op'' : CmpOp} {r r' r'' : R2} (ho : OpR X (compareOp op) r) (ho' : OpR X (compareOp op') r') (ho'' : OpR X (compareOp op'') r'') (ha : PE X a ta) (hb : PE X b tb) (hc : PE X c tc) (hd : PE X d td)
    (hm : lastMarks [op, op', op''] [b, c, d] = false := by with_unfolding_all rfl) : PE X (.Compare a [op, op', op''] [b, c, d] pos) (tChain3 r r' r'' ta tb tc td) := by
  refine ⟨fun pins s σ H Q I h => Compare_chain (thn (ha.run pins s σ H _ I h) fun v s1 ⟨x, H1, I1, r1, q1⟩ => chain_link (thn (hb.run pins s1 σ H1 _ I1 q1) fun u s2 ⟨y, H2, I2, r2, q2⟩ =>
    thn (ho pins s2 σ H2 x y v u _ I2 r1 r2 q2) fun z s3 ⟨z', H3, I3, r3, k, e, q3⟩ => ?_)) hm⟩
  subst e
  cases r3
  refine wpAny_truthy_bool ?_
  cases k with
  | false => exact ite_ff ⟨.bl false, H3, I3, rfl, q3⟩
  | true =>
    refine ite_tt (chain_link (thn (hc.run pins s3 σ H3 _ I3 q3) fun w' s4 ⟨c', H4, I4, r4, q4⟩ => thn (ho' pins s4 σ H4 y c' u w' _ I4 r2 r4 q4) fun z s5 ⟨z', H5, I5, r5, k', e', q5⟩ => ?_))
    subst e'
    cases r5
    refine wpAny_truthy_bool ?_
    cases k' with
    | false => exact ite_ff ⟨.bl false, H5, I5, rfl, q5⟩
    | true => exact ite_tt (chain_last (thn (hd.run pins s5 σ H5 _ I5 q5) fun u' s6 ⟨d', H6, I6, r6, q6⟩ => ho'' pins s6 σ H6 c' d' w' u' Q I6 r4 r6 q6))
end
section
variable {K : PySem.W.Frag} {env : En} {ta tb tc td : TE} {i j l m : Int}
theorem ev_chain3I {g g' g'' : Int → Int → V} {k b b' : Bool} (hg : g i j = .bl k) (hg' : g' j l = .bl b) (hg'' : g'' l m = .bl b') (ha : EvE K ta env (.int i)) (hb : EvE K tb env (.int j)) (hc : EvE K tc env (.int l)) (hd : EvE K td env (.int m)) :
    EvE K (tChain3 (rI0 g) (rI0 g') (rI0 g'') ta tb tc td) env (.bl (k && (b && b'))) := fun σ B s H1 e Q q =>
  ha σ B s H1 e _ fun v B2 H2 g2 r2 => hb σ B2 (s.mono g2.b) H2 g2.h _ fun w B3 H3 g3 r3 => by
    simp only [Rp] at r2 r3
    subst r2 r3
    have ga := g2.trans g3
    refine ⟨i, j, rfl, rfl, k, hg, ?_⟩
    cases k with
    | false => exact iteF (q _ B3 H3 ga (by simp only [Rp, Bool.false_and]))
    | true =>
      refine iteT (hc σ B3 (s.mono ga.b) H3 ga.h _ fun u B4 H4 g4 r4 => ?_)
      simp only [Rp] at r4
      subst r4
      refine ⟨j, l, rfl, rfl, b, hg', ?_⟩
      cases b with
      | false => exact iteF (q _ B4 H4 (ga.trans g4) (by simp only [Rp, Bool.false_and, Bool.true_and]))
      | true =>
        refine iteT (hd σ B4 (s.mono (ga.trans g4).b) H4 (ga.trans g4).h _ fun u B5 H5 g5 r5 => ?_)
        simp only [Rp] at r5
        subst r5
        exact ⟨l, m, rfl, rfl, q _ B5 H5 ((ga.trans g4).trans g5) (by simp only [Rp, Bool.true_and]; exact hg'')⟩
end
end FR

/-! The laws' own row and their look at numbers. -/
namespace FR
open PySem L2 Evl
local macro_rules | `(tactic| walk_at "ev") => `(tactic| first
  | (apply ev_pr0; walk_at "ev")
  | (apply ev_pr1; walk_at "ev")
  | (apply ev_lenR; walk_at "ev")
  | (apply ev_lenI; walk_at "ev"))
local macro_rules | `(tactic| walk_at "side") => `(tactic| first | assumption | decide | omega | (exact Or.inl ⟨by decide, by decide⟩) | (exact Or.inr ⟨by decide, by decide⟩))
local macro_rules | `(tactic| walk_at "wk") => `(tactic| first
  | (apply wk_rng1 <;> first | walk_at "ev" | walk_at "side")
  | (apply wk_rng2 <;> first | walk_at "ev" | walk_at "side")
  | (apply wk_list; walk_at "ev")
  | (apply wk_sq; walk_at "ev")
  | (apply wk_tup; walk_at "ev"))
local macro_rules | `(tactic| walk_at "en") => `(tactic| first
  | (apply en_lst <;> first | walk_at "ea" | simp)
  | (apply en_listL; walk_at "ev")
  | (apply en_listT; walk_at "ev")
  | (apply en_rev; walk_at "ev")
  | (apply en_slL <;> first | walk_at "ev" | walk_at "eo")
  | (apply en_slQ <;> first | walk_at "ev" | walk_at "eo"))
local macro_rules | `(tactic| walk_at "eo") => `(tactic| first
  | exact eo_none
  | (apply eo_some; walk_at "ev"))
local macro_rules | `(tactic| walk_at "ea") => `(tactic| first
  | exact ea_nil
  | (apply ea_cons <;> first | walk_at "ev" | walk_at "ea"))
local macro_rules | `(tactic| walk_at "eb") => `(tactic| first
  | exact eb_yes
  | (apply eb_not; walk_at "eb")
  | (apply eb_test; walk_at "ev")
  | (apply eb_B; walk_at "ev"))
local macro_rules | `(tactic| walk_at "ev") => `(tactic| first
  | exact ev_int
  | exact ev_bl
  | exact ev_non
  | exact ev_ty
  | exact ev_str
  | exact ev_cls
  | exact ev_var rfl
  | assumption
  | (apply ev_row0 <;> first | walk_at "ev" | walk_at "side")
  | (apply ev_row1 <;> first | walk_at "ev" | walk_at "side")
  | (apply ev_rowI <;> first | walk_at "ev" | walk_at "side")
  | (apply ev_add <;> walk_at "ev")
  | (apply ev_sub <;> walk_at "ev")
  | (apply ev_mul <;> first | walk_at "ev" | walk_at "side")
  | (apply ev_neg; walk_at "ev")
  | (apply ev_lt <;> walk_at "ev")
  | (apply ev_le <;> walk_at "ev")
  | (apply ev_gt <;> walk_at "ev")
  | (apply ev_ge <;> walk_at "ev")
  | (apply ev_mod <;> first | walk_at "ev" | walk_at "side")
  | (apply ev_div <;> first | walk_at "ev" | exact ⟨by decide, by decide⟩)
  | (apply ev_eqI <;> walk_at "ev")
  | (apply ev_neI <;> walk_at "ev")
  | (apply ev_max2 <;> walk_at "ev")
  | (apply ev_min2 <;> walk_at "ev")
  | (apply ev_abs; walk_at "ev")
  | (apply ev_lenL; walk_at "ev")
  | (apply ev_lenQ; walk_at "ev")
  | (apply ev_lenT; walk_at "ev")
  | (apply ev_isiB <;> first | walk_at "ev" | rfl | decide +kernel)
  | (apply ev_chainI rfl rfl <;> first | walk_at "ev" | (intro _; walk_at "ev"))
  | (apply ev_notV; walk_at "ev")
  | (apply ev_tup <;> first | walk_at "ea" | simp)
  | (apply ev_new; walk_at "en"))


/-! ### the row of a script -/
def apH (c : Int) : Int × Int := if c % 4 = 0 then (3, 4) else if c % 4 = 1 then (9, 12) else if c % 4 = 2 then (10 ^ 20, 10 ^ 20) else (6, 4)
def stepP (ap p c : Int) : Int := p + 1 + c % ap
def stepH (ap hi c : Int) : Int := 1 + (c / ap + c / 11) % hi
def endP (ap : Int) : Int → List Int → Int
  | p, [] => p
  | p, c :: r => endP ap (stepP ap p c) r
def goR (ap hi : Int) : Int → List Int → List (Int × Int)
  | _, [] => []
  | p, c :: r => (stepP ap p c, stepH ap hi c) :: goR ap hi (stepP ap p c) r
def lrow (ns : List Int) : List (Int × Int) := goR (apH ns.sum).1 (apH ns.sum).2 (-(ns.sum / 4 % 90)) ns
theorem endP_snoc (ap c : Int) : ∀ (l : List Int) (p : Int), endP ap p (l ++ [c]) = stepP ap (endP ap p l) c
  | [], p => rfl
  | x :: l, p => endP_snoc ap c l (stepP ap p x)
theorem goR_snoc (ap hi c : Int) : ∀ (l : List Int) (p : Int), goR ap hi p (l ++ [c]) = goR ap hi p l ++ [(stepP ap (endP ap p l) c, stepH ap hi c)]
  | [], p => rfl
  | x :: l, p => by
    show _ :: goR ap hi (stepP ap p x) (l ++ [c]) = _
    rw [goR_snoc ap hi c l (stepP ap p x)]
    rfl
theorem goR_len (ap hi : Int) : ∀ (l : List Int) (p : Int), (goR ap hi p l).length = l.length
  | [], p => rfl
  | x :: l, p => by
    show (goR ap hi (stepP ap p x) l).length + 1 = _
    rw [goR_len ap hi l]
    rfl
theorem apH_pos (c : Int) : (0 < (apH c).1 ∧ (apH c).1 ≤ 10 ^ 20) ∧ 0 < (apH c).2 := by
  unfold apH
  repeat' split
  all_goals decide
theorem apH_W (c x : Int) : CDivW x (apH c).1 := by
  unfold apH
  repeat' split
  all_goals exact ⟨by decide, by decide +kernel⟩
theorem goR_pos {ap hi : Int} (hh : 0 < hi) : ∀ (l : List Int) (p : Int) (i : Nat), i < l.length → 0 < ((goR ap hi p l).getD i (0, 0)).2
  | [], p, i, h => by simp at h
  | x :: l, p, 0, h => by
    show 0 < 1 + (x / ap + x / 11) % hi
    have := Int.emod_nonneg (x / ap + x / 11) (by omega : hi ≠ 0)
    omega
  | x :: l, p, i + 1, h => goR_pos hh l (stepP ap p x) i (by simpa using h)
theorem goR_inc {ap hi : Int} (ha : 0 < ap) : ∀ (l : List Int) (p : Int) (j : Nat), j < l.length → p < ((goR ap hi p l).getD j (0, 0)).1 ∧ ∀ i, i < j → ((goR ap hi p l).getD i (0, 0)).1 < ((goR ap hi p l).getD j (0, 0)).1
  | [], p, j, h => by simp at h
  | x :: l, p, 0, h => by
    refine ⟨?_, fun i hi => absurd hi (by omega)⟩
    show p < p + 1 + x % ap
    have := Int.emod_nonneg x (by omega : ap ≠ 0)
    omega
  | x :: l, p, j + 1, h => by
    have hx : p < stepP ap p x := by
      show p < p + 1 + x % ap
      have := Int.emod_nonneg x (by omega : ap ≠ 0)
      omega
    obtain ⟨h1, h2⟩ := goR_inc (hi := hi) ha l (stepP ap p x) j (by simpa using h)
    refine ⟨?_, fun i hi => ?_⟩
    · show p < ((goR ap hi (stepP ap p x) l).getD j (0, 0)).1
      omega
    · cases i with
      | zero => exact h1
      | succ i => exact h2 i (by omega)
theorem lrow_len (ns : List Int) : (lrow ns).length = ns.length := goR_len _ _ _ _
theorem lrow_ok {ns : List Int} (h : ns.length ≤ 63) : Okr (lrow ns) := by
  refine ⟨fun i hi => ?_, fun i j hij hj => ?_, by rw [lrow_len]; omega⟩
  · rw [lrow_len] at hi
    unfold hgt
    simp only [Int.toNat_natCast]
    exact goR_pos (apH_pos _).2 ns _ i hi
  · rw [lrow_len] at hj
    unfold plc
    simp only [Int.toNat_natCast]
    exact (goR_inc (apH_pos _).1.1 ns _ j hj).2 i hij
def P_law_row (ds : List Da) (es : List Da) : Prop := ∃ ns, ds = [.sq (intL ns)] ∧ ns.length ≤ 63 ∧ es = rowL (lrow ns)
def P_law_numbers (ds : List Da) (d : Da) : Prop := ∃ ns, ds = [intsD ns] ∧ ns.length ≤ 5000 ∧ d = .bl true
abbrev sp_law_row (K : PySem.W.Frag) (C : CS) : Sp := FnL K P_law_row
abbrev sp_law_numbers (K : PySem.W.Frag) (C : CS) : Sp := FnP K P_law_numbers
def t_law_row (K : PySem.W.Frag) (C : CS) : TS :=
  (tSeq (tAsg (tCB (rSum K) (tCons (tVar 0) tNil)) (gName 1)) (tSeq (tAsg (tOp (rIxT K) (tTup (tCons (tTup (tCons (tC (.int 3)) (tCons (tC (.int 4)) tNil))) (tCons (tTup (tCons (tC (.int 9)) (tCons (tC (.int 12)) tNil))) (tCons (tTup (tCons (tOp rPowI (tC (.int 10)) (tC (.int 20))) (tCons (tOp rPowI (tC (.int 10)) (tC (.int 20))) tNil))) (tCons (tTup (tCons (tC (.int 6)) (tCons (tC (.int 4)) tNil))) tNil))))) (tOp rModI (tVar 1) (tC (.int 4)))) (gTup K 2 (gCons (gName 2) (gCons (gName 3) gNil)))) (tSeq (tAsg (tUn (rU fun i => .int (-i)) (tOp rModI (tOp rDivI (tVar 1) (tC (.int 4))) (tC (.int 90)))) (gName 4)) (tSeq (tAsg (tLst tNil) (gName 5)) (tSeq (tFor (iList K (tVar 0)) (gName 6) (tSeq (tAsg (tOp rAddI (tOp rAddI (tVar 4) (tC (.int 1))) (tOp rModI (tVar 6) (tVar 2))) (gName 4)) (tDrop (tBM K "list" rAppend (tVar 5) (tCons (tTup (tCons (tVar 4) (tCons (tOp rAddI (tC (.int 1)) (tOp rModI (tOp rAddI (tOp rDivW (tVar 6) (tVar 2)) (tOp rDivI (tVar 6) (tC (.int 11)))) (tVar 3))) tNil))) tNil))))) (tRet (tVar 5)))))))
def t_law_numbers (K : PySem.W.Frag) (C : CS) : TS :=
  (tSeq (tIfS (tNot (tB (tCB (rIsi K) (tCons (tVar 0) (tCons (tC (.ty "list")) tNil))))) (tRet (tC (.bl false))) tNext) (tRet (tCB (rAll K) (tCons (tLc (iList K (tVar 0)) (gName 1) tYes (tAndV (tCB (rIsi K) (tCons (tVar 1) (tCons (tC (.ty "int")) tNil))) (tNotV (tCB (rIsi K) (tCons (tVar 1) (tCons (tC (.ty "bool")) tNil))))) [1]) tNil))))
section
variable {K : PySem.W.Frag} {C : CS}
theorem get_row {ns : List Int} {n : Nat} {x : Int} (h : ns[n]? = some x) : ns.take (n + 1) = ns.take n ++ [x] := by
  rw [List.take_add_one, h]
  rfl
theorem intL_get {ns : List Int} {n : Nat} {d : Da} (h : (intL ns)[n]? = some d) : ∃ x, ns[n]? = some x ∧ d = .int x := by
  rw [List.getElem?_map] at h
  cases e : ns[n]? with
  | none =>
    rw [e] at h
    cases h
  | some x =>
    rw [e] at h
    cases h
    exact ⟨x, rfl, rfl⟩
theorem map_get {α : Type} {f : α → Da} {xs : List α} {n : Nat} {d : Da} (h : (xs.map f)[n]? = some d) : ∃ x, xs[n]? = some x ∧ d = f x := by
  rw [List.getElem?_map] at h
  cases e : xs[n]? with
  | none =>
    rw [e] at h
    cases h
  | some x =>
    rw [e] at h
    cases h
    exact ⟨x, rfl, rfl⟩
theorem rowL_snoc (r : List (Int × Int)) (p : Int × Int) : rowL (r ++ [p]) = rowL r ++ [prD p] := List.map_append
theorem intL_snoc (r : List Int) (p : Int) : intL (r ++ [p]) = intL r ++ [.int p] := List.map_append
theorem run_law_row {ds es : List Da} (h : P_law_row ds es) : Run K (t_law_row K C) (ent ds 6) (retL es) := by
  obtain ⟨ns, rfl, hn, rfl⟩ := h
  refine run_seq (run_asg (ev_sumQ (ev_var rfl)) ?_)
  refine run_seq (run_asgT (d := .tup [.int (apH ns.sum).1, .int (apH ns.sum).2]) ?_ (ts_tup2 ts_name ts_name) ?_)
  · refine ev_ixT (ds := [.tup [.int 3, .int 4], .tup [.int 9, .int 12], .tup [.int (10 ^ 20), .int (10 ^ 20)], .tup [.int 6, .int 4]]) (i := ns.sum % 4) (ev_tup (ea_cons (ev_tup (ea_cons ev_int (ea_cons ev_int ea_nil))) (ea_cons (ev_tup (ea_cons ev_int (ea_cons ev_int ea_nil))) (ea_cons (ev_tup (ea_cons ?_ (ea_cons ?_ ea_nil))) (ea_cons (ev_tup (ea_cons ev_int (ea_cons ev_int ea_nil))) ea_nil))))) (ev_mod (ev_var rfl) ev_int (by decide)) ?_
    · exact (ev_pow ev_int ev_int ⟨by decide, by decide, by decide⟩).is rfl
    · exact (ev_pow ev_int ev_int ⟨by decide, by decide, by decide⟩).is rfl
    · have h0 := Int.emod_nonneg ns.sum (by decide : (4 : Int) ≠ 0)
      have h1 := Int.emod_lt_of_pos ns.sum (by decide : (0 : Int) < 4)
      unfold apH
      by_cases e0 : ns.sum % 4 = 0
      · rw [if_pos e0, e0]
        rfl
      · rw [if_neg e0]
        by_cases e1 : ns.sum % 4 = 1
        · rw [if_pos e1, e1]
          rfl
        · rw [if_neg e1]
          by_cases e2 : ns.sum % 4 = 2
          · rw [if_pos e2, e2]
            rfl
          · rw [if_neg e2, show ns.sum % 4 = 3 by omega]
            rfl
  refine run_seq (run_asg (d := .int (-(ns.sum / 4 % 90))) (ev_neg (ev_mod (ev_div (ev_var rfl) ev_int ⟨by decide, by decide⟩) ev_int (by decide))) ?_)
  refine run_seq (run_asgN (en_lst ea_nil) ?_)
  refine run_seq (run_for (wk_sq (ev_var rfl)) (fun n e => ∃ y, e = [.im (.sq (intL ns)), .im (.int ns.sum), .im (.int (apH ns.sum).1), .im (.int (apH ns.sum).2), .im (.int (endP (apH ns.sum).1 (-(ns.sum / 4 % 90)) (ns.take n))), .mu (rowL (goR (apH ns.sum).1 (apH ns.sum).2 (-(ns.sum / 4 % 90)) (ns.take n))), y]) ⟨.no, rfl⟩ ?_ ?_)
  · rintro n d e hd ⟨y, rfl⟩
    obtain ⟨x, hx, rfl⟩ := intL_get hd
    have hl : n < ns.length := (List.getElem?_eq_some_iff.mp hx).1
    refine ⟨_, ts_name, ?_⟩
    refine run_seq (run_asg (d := .int (stepP (apH ns.sum).1 (endP (apH ns.sum).1 (-(ns.sum / 4 % 90)) (ns.take n)) x)) (ev_add (ev_add (ev_var rfl) ev_int) (ev_mod (ev_var rfl) (ev_var rfl) (apH_pos _).1.1)) ?_)
    refine run_app (d := prD (stepP (apH ns.sum).1 (endP (apH ns.sum).1 (-(ns.sum / 4 % 90)) (ns.take n)) x, stepH (apH ns.sum).1 (apH ns.sum).2 x)) (ds := rowL (goR (apH ns.sum).1 (apH ns.sum).2 (-(ns.sum / 4 % 90)) (ns.take n))) rfl ?_ ?_ ⟨.im (.int x), ?_⟩
    · exact ev_tup (ea_cons (ev_var rfl) (ea_cons (ev_add ev_int (ev_mod (ev_add (ev_divW (ev_var rfl) (ev_var rfl) (apH_W _ _)) (ev_div (ev_var rfl) ev_int ⟨by decide, by decide⟩)) (ev_var rfl) (apH_pos _).2)) ea_nil))
    · rw [List.length_map, goR_len, List.length_take]
      omega
    · rw [get_row hx, endP_snoc, goR_snoc, rowL_snoc]
      rfl
  · rintro e ⟨y, rfl⟩
    rw [List.length_map, List.take_length]
    exact run_retV (i := 5) rfl rfl
theorem run_law_numbers {ds : List Da} {d : Da} (h : P_law_numbers ds d) : Run K (t_law_numbers K C) (ent ds 1) (retD d) := by
  obtain ⟨ns, rfl, hn, rfl⟩ := h
  refine run_seq (run_if (b := !true) (eb_not (eb_B ?_)) (fun z => by cases z) fun _ => run_next ?_)
  · exact ev_isiB (n := "list") (ev_var rfl) ev_ty rfl (by decide)
  · refine run_ret (d := .bl (((ns.filter fun _ => true).map fun _ => true).all id)) (ev_all (ev_new ?_)) ?_
    · refine (en_lc (us := [1]) Da.int (fun _ => true) (fun _ => Da.bl (true && !false)) ns (wk_list (ev_var rfl)) (by simp) (by omega) fun p hp => ⟨_, tc_name, eb_yes, fun _ => ?_⟩).is (by rw [List.map_map]; rfl)
      refine ev_andV ?_ fun _ => ?_
      · walk_at "ev"
      · walk_at "ev"
    · show Da.bl _ = Da.bl _
      congr 1
      rw [List.all_map, List.all_eq_true]
      intro _ _
      rfl
end
section
variable {K : PySem.W.Frag} {C : CS} {vs : List V} {H : Hp} {Q : VK} {E : XK}
theorem len_law_row (h : sp_law_row K C vs H Q E) : vs.length = 1 := len_L (m := 1) (fun ds d ⟨_, e, _⟩ => by rw [e]; rfl) h
theorem pure_law_row (h : sp_law_row K C vs H Q E) : t_law_row K C { nx := fun _ H' => Q .non H', rt := Q } (start ["_law_script", "_law_code", "_law_apart", "_law_high", "_law_place", "_law_found", "_law_cell"] vs) H := fnL_of 6 (fun ds d ⟨_, e, _⟩ => by rw [e]; rfl) (fun ds d p => run_law_row p) h
theorem len_law_numbers (h : sp_law_numbers K C vs H Q E) : vs.length = 1 := len_P (m := 1) (fun ds d ⟨_, e, _⟩ => by rw [e]; rfl) h
theorem pure_law_numbers (h : sp_law_numbers K C vs H Q E) : t_law_numbers K C { nx := fun _ H' => Q .non H', rt := Q } (start ["_law_found", "_law_one"] vs) H := fnP_of 1 (fun ds d ⟨_, e, _⟩ => by rw [e]; rfl) (fun ds d p => run_law_numbers p) h
end
end FR

/-! xs[j::c] of a list of ints. -/
namespace FR
open PySem L2 Evl
open PySem.Spec PyProof.Rows
/-! ### xs[j::c] -/
theorem vals_get {xs : List V} {us : List Value} (h : Vals xs us) : ∀ {i : Nat} {u : Value}, us[i]? = some u → ∃ y, xs[i]? = some y ∧ RelV y u := by
  induction h with
  | nil => intro i u h; simp at h
  | cons r t ih =>
    intro i u h
    cases i with
    | zero => exact ⟨_, rfl, by
        have : _ = u := Option.some.inj h
        rw [← this]
        exact r⟩
    | succ i =>
      obtain ⟨y, e, r'⟩ := ih (i := i) (by simpa using h)
      exact ⟨y, by simpa using e, r'⟩
def pickA {α : Type} (xs : List α) (j c : Nat) : List α := (sliceRange (sliceBounds (some (j : Int)) none (some (c : Int)) xs.length).1 (sliceBounds (some (j : Int)) none (some (c : Int)) xs.length).2.1 (sliceBounds (some (j : Int)) none (some (c : Int)) xs.length).2.2).filterMap (xs[·]?)
def tSlStep (K : PySem.W.Frag) (te : TE) (tl tc : TO) : TE := fun σ H Q => te σ H fun x H1 => tl σ H1 fun l H2 => tc σ H2 fun o H3 => ∃ (a : Addr) (xs : List V), ∃ j c : Nat, x = .ref a ∧ SqL K H3 a xs ∧ l = some (j : Int) ∧ o = some (c : Int) ∧ 0 < c ∧ ∀ p, H3 p = none → Q (.ref p) (upd H3 p (.lst (pickA xs j c)))
theorem vals_none {xs : List V} {us : List Value} (h : Vals xs us) (i : Nat) : (xs[i]? = none ∧ us[i]? = none) ∨ ∃ x u, xs[i]? = some x ∧ us[i]? = some u ∧ RelV x u := by
  have hl := h.length
  by_cases hi : i < us.length
  · obtain ⟨y, e, r⟩ := vals_get h (i := i) (u := us[i]) (List.getElem?_eq_getElem hi)
    exact .inr ⟨y, us[i], e, List.getElem?_eq_getElem hi, r⟩
  · exact .inl ⟨List.getElem?_eq_none (by omega), List.getElem?_eq_none (by omega)⟩
theorem vals_pick {xs : List V} {us : List Value} (h : Vals xs us) : ∀ ix : List Nat, Vals (ix.filterMap (xs[·]?)) (ix.filterMap (us[·]?))
  | [] => .nil
  | i :: ix => by
    rcases vals_none h i with ⟨e1, e2⟩ | ⟨x, u, e1, e2, r⟩
    · rw [List.filterMap_cons_none e1, List.filterMap_cons_none e2]
      exact vals_pick h ix
    · rw [List.filterMap_cons_some e1, List.filterMap_cons_some e2]
      exact .cons r (vals_pick h ix)
theorem pe_sliceStep {X : Cx} {e st : Expr} {lo : Option Expr} {te : TE} {tl tc : TO} {p3 pos : Pos} (he : PE X e te) (hl : PO X lo tl) (hc : PO X (some st) tc) : PE X (.Subscript e (.Slice lo none (some st) p3) pos) (tSlStep X.K te tl tc) := by
  refine ⟨fun pins s σ H Q I h => ?_⟩
  refine Subscript_ (thn (he.run pins s σ H _ I h) fun v s1 ⟨x, H1, I1, r1, q1⟩ => ?_)
  refine wpAny_Slice (thn (hl.run pins s1 σ H1 _ I1 q1) fun vl s2 ⟨l, H2, I2, pl, q2⟩ => ?_)
  rw [evalPart_none]
  refine wpAny_pure ?_
  refine thn (hc.run pins s2 σ H2 _ I2 q2) fun vs s4 ⟨o, H4, I4, ps, q3⟩ => ?_
  obtain ⟨a, xs, j, c, ex, hx, ej, eo, hc0, q⟩ := q3
  subst ex ej eo
  cases r1
  have I5 : Inv X pins σ H4 { s4 with heap := s4.heap.push { cls := .type "slice", data := .fields #[vl, .none, vs] } } := I4.kept (t' := s4.toks) fun b ob q => Heap.get?_push_of_some _ q
  obtain ⟨its, r, ht, hz⟩ := I5.list hx
  have hlen := r.length
  show wpAny (model X.prog X.w) X.A (subscriptTail e (.Slice lo none (some st) p3) (.ref a) (.ref s4.heap.objs.size)) (EP X pins σ Q) X.xe { s4 with heap := s4.heap.push { cls := .type "slice", data := .fields #[vl, .none, vs] } }
  refine tail_any (ops := [.ref a, .ref s4.heap.objs.size]) ht.isList.typeIs (PySem.slot_list_getitem.lookup) ?_ (by with_unfolding_all rfl)
  refine wpAny_getItem_list_slice ht.isList (Heap.IsSliceOf.new _ vl .none vs) pl .none ps (fun z => by have := Option.some.inj z; omega) ?_ (by rw [List.size_toArray]; omega)
  have epk : slicePick its.toArray (some (j : Int)) none (some (c : Int)) = (pickA its j c).toArray := by
    unfold slicePick pickA
    simp
  have hsz := PySem.slicePick_size_le its.toArray (some (j : Int)) none (some (c : Int))
  rw [epk] at hsz ⊢
  have hv : Vals (pickA xs j c) (pickA its j c) := by
    unfold pickA
    rw [hlen]
    exact vals_pick r _
  refine ⟨.ref _, _, I5.laid (t' := s4.toks) (o := .lst (pickA xs j c)) (fun b ob q => Heap.get?_push_of_some _ q) (Nat.le_refl _) ?_, rfl, q _ (I5.hok.fresh (Nat.le_refl _))⟩
  refine ⟨?_, _, 0, hv, Heap.get?_push_size _ rfl⟩
  rw [hv.length]
  rw [List.size_toArray, List.size_toArray] at hsz
  omega
section
variable {K : PySem.W.Frag} {env : En} {te : TE} {ds : List Da}
theorem rp_pick {B : Hp} {ds : List Da} {xs : List V} (h : RpAll K B ds xs) : ∀ ix : List Nat, RpAll K B (ix.filterMap (ds[·]?)) (ix.filterMap (xs[·]?))
  | [] => .nil
  | i :: ix => by
    cases hx : xs[i]? with
    | none =>
      have hd : ds[i]? = none := by
        rw [List.getElem?_eq_none_iff] at hx ⊢
        rw [← h.len]
        exact hx
      rw [List.filterMap_cons_none hx, List.filterMap_cons_none hd]
      exact rp_pick h ix
    | some v =>
      obtain ⟨d, hd, rd⟩ := h.getV hx
      rw [List.filterMap_cons_some hx, List.filterMap_cons_some hd]
      exact .cons rd (rp_pick h ix)
theorem en_step {tl tc : TO} {j c : Nat} (h : EvE K te env (.sq ds)) (h1 : EvO K tl env (some (j : Int))) (h2 : EvO K tc env (some (c : Int))) (hc : 0 < c) : EvN K (tSlStep K te tl tc) env (pickA ds j c) := fun σ B s H1 e Q q =>
  h σ B s H1 e _ fun v B2 H2 g2 r2 => h1 σ B2 (s.mono g2.b) H2 g2.h _ fun H3 e3 => h2 σ B2 (s.mono g2.b) H3 (g2.h.trans e3) _ fun H4 e4 => by
    simp only [Rp] at r2
    obtain ⟨a, xs, rfl, h5, h6⟩ := r2
    have hp : RpAll K B2 (pickA ds j c) (pickA xs j c) := by
      unfold pickA
      rw [h6.len]
      exact rp_pick h6 _
    exact ⟨a, xs, j, c, rfl, ex_l e4 (ex_l e3 (ex_l g2.h h5)), rfl, rfl, hc, fun p hp' => q p _ B2 _ ((g2.trans (Gr.keep g2.h (e3.trans e4))).trans (Gr.put (g2.h.trans (e3.trans e4)) hp')) (fresh_back (g2.k.trans (e3.trans e4)) hp') (fresh_back (g2.h.trans (e3.trans e4)) hp') upd_same hp⟩
theorem pick_ints (ns : List Int) (j c : Nat) : pickA (intL ns) j c = intL (pickA ns j c) := by
  unfold pickA intL
  rw [List.length_map, List.map_filterMap]
  congr 1
  funext i
  rw [List.getElem?_map]
end
end FR

/-! Defs that raise (exceptions without a context), a comprehension over a range within an except suite. -/
namespace FX
open PySem PySem.Spec PyProof.Rows L2
abbrev WofE (E : XK) : WX := fun cls d _ H => E cls d H
theorem passN {X : Cx} : Passes (L2N.CX X.prog X.w) X E0 := fun _ _ _ _ _ _ _ h => by
  obtain ⟨_, _, _, _, _, _, _, _, _, _, _, _, z⟩ := h
  exact z.elim
theorem passNS {X : Cx} {σ : L2.St} : PassesAt (L2N.CX X.prog X.w) X σ E0 := fun _ _ _ _ _ _ h => by
  obtain ⟨_, _, _, _, _, _, _, _, _, _, _, _, z⟩ := h
  exact z.elim
theorem pass0S {X : Cx} {σ : L2.St} : PassesAt CX0 X σ E0 := fun _ _ _ _ _ _ h => h.elim
theorem takesN0 {X : Cx} : L2N.Takes X (fun _ _ _ _ => False) := fun _ _ x => by
  obtain ⟨_, _, _, _, _, _, _, _, _, _, _, _, _, _, _, _, z⟩ := x
  exact z.elim
theorem okN {P : Program} {w : World} {K : PySem.W.Frag} {mg : Str → Option Value} {base : Heap} {x qual : Str} {st : Stmt} {f : Addr} {fd : FuncData} {N ps : List Str} {k : Nat} {sp : Sp} (F : Fun K x qual st f fd) (S : FnScope N ps (defScope st)) (len : ∀ vs H Q E, sp vs H Q E → vs.length = ps.length)
    (hbody : ∀ (cdv : Value) (A : Around) (outer : List Env) (s : Shared) (H : Hp) (vs : List V) (Q : VK) (E : XK), Room k (A.deeper (envOfC qual (defScope st) s.heap.objs.size f cdv)) → sp vs H Q E →
      ∃ t, PSs (cxOf (L2N.CX P w) P w K mg base N qual (defScope st) f cdv A outer s H E) (defBody st) t ∧ t { nx := fun _ H' => Q .non H', rt := Q } (start N vs) H) : FnOk P w K mg base (L2N.CX P w) (k + 1) f fd ps sp := by
  obtain ⟨oc, od, kV, doc, pm, an, cdv, ct, osl, rfl, lk, hcd⟩ := F.ex
  exact fn_of lk hcd S len fun A outer s H vs Q E hr hsp => hbody cdv A outer s H vs Q E hr hsp
/-- an exception without a context is an exception -/
theorem cx_NL {P : Program} {w : World} {outer : List Env} {H : Hp} {s s' : Shared} {E : XK} {u : Value} (h : L2N.CX P w outer H s E u s') : L2.CX P w outer H s E u s' := by
  obtain ⟨a, B, H', cls, d, e, fl, r⟩ := h
  exact ⟨a, B, H', cls, d, e, L2H.flyingZ_imp (fun o z => L2N.Zn.zc z) fl, r⟩
theorem fn_NL {P : Program} {w : World} {K : PySem.W.Frag} {mg : Str → Option Value} {base : Heap} {k : Nat} {f : Addr} {fd : FuncData} {ps : List Str} {sp : Sp} (F : FnOk P w K mg base (L2N.CX P w) k f fd ps sp) : FnOk P w K mg base (L2.CX P w) k f fd ps sp :=
  ⟨F.len, fun A outer s H args us vs Q E h1 h2 h3 h4 h5 => codeAny_mono (F.run A outer s H args us vs Q E h1 h2 h3 h4 h5) fun r s' h => by
    cases r with
    | ok fl => cases fl <;> exact h
    | error e => exact cx_NL h⟩
theorem cal_NL {P : Program} {w : World} {K : PySem.W.Frag} {mg : Str → Option Value} {base : Heap} {k : Nat} {x : Str} {ps : List Str} {sp : Sp} (g : FR.Cal P w K mg base (L2N.CX P w) k x ps sp) : FR.Cal P w K mg base (L2.CX P w) k x ps sp := by
  obtain ⟨f, fd, F, r⟩ := g.ex
  exact ⟨f, fd, fn_NL F, r⟩
theorem zcL {De : Addr} {cls : Value} {d : Option Addr} {oe : Obj} (hz : Zc cls d oe) (e1 : cls = .ref De) (e2 : d = none) : Zc (.ref De) none oe := by
  subst e1 e2
  exact hz
/-- the facts of an exception class of the text -/
structure ExcCls (K : PySem.W.Frag) (mg : Str → Option Value) (x : Str) (C : Addr) : Prop where
  ec : PySem.W.excIn K C [.type "ValueError", .type "Exception", .type "BaseException", .type "object"] "ValueError.__new__" = true
  g : mg x = some (.ref C)
  k : PySem.W.keepIn K (.ref C) = true
  b : PySem.W.subIn K (.ref C) (.type "BaseException") = some true
  t : PySem.W.typeIn K (.ref C) = some (.type "type")
def tRaise (W : WX) (C : Addr) : TS := fun _ σ H => W (.ref C) none σ H
section
variable {X : Cx} {k : Nat} {x m : Str} {ps : List Str} {sp : Sp} {W : WX} {e fe : Expr} {es : List Expr} {t : TA} {tf : TE} {p p2 pos pos2 : Pos} {C : Addr} {j : Nat}
theorem pe_calS (g : FR.Cal X.prog X.w X.K X.mg X.base (L2N.CX X.prog X.w) k x ps sp) (hr : Room k X.A) (hg : Gl X x) (tk : L2N.Takes X W) (ha : PA X (e :: es) t)
    (hdb : (x == ("__debug__" : Str)) = false := by decide) (he : starEach (e :: es) X.env = (false, eval e X.env) :: starEach es X.env := by rfl) (hpl : (backTo pos (starEach es X.env)).any (·.1) = false := by rfl) :
    PE X (.Call (.Name x p) (e :: es) [] pos) (tCallS sp (WE W) t) := by
  obtain ⟨f, fd, F, hm, hk, hb⟩ := g.ex
  exact pe_callS F hr hg hm hk hb (fun σ => L2N.passAt tk σ) ha hdb he hpl
theorem ps_raiseO (hc : X.calm = true) (tk : L2N.Takes X W) (c : ExcCls X.K X.mg x C) (hg : Gl X x) (hdb : (x == ("__debug__" : Str)) = false := by decide) :
    PS X (.Raise (some (.Call (.Name x p) [.Constant (.str m) j p2] [] pos)) none pos2) (tRaise W C) :=
  L2N.ps_raise hc tk (L2N.pmk_own PySem.F.excBase_ValueError c.ec c.g c.k (raises_own c.b c.t) hg hdb)
theorem ps_raiseL (hc : X.calm = true) (tk : L2.Takes X W) (c : ExcCls X.K X.mg x C) (hg : Gl X x) (hdb : (x == ("__debug__" : Str)) = false := by decide) :
    PS X (.Raise (some (.Call (.Name x p) [.Constant (.str m) j p2] [] pos)) none pos2) (tRaise W C) :=
  L2.ps_raise hc tk (L2.pmk_own PySem.F.excBase_ValueError c.ec c.g c.k (raises_own c.b c.t) hg hdb)
theorem ps_raiseHot (hc : L2H.HotC X) (tk : L2.Takes X W) (c : ExcCls X.K X.mg x C) (hg : Gl X x) (hdb : (x == ("__debug__" : Str)) = false := by decide) :
    PS X (.Raise (some (.Call (.Name x p) [.Constant (.str m) j p2] [] pos)) none pos2) (tRaise W C) :=
  L2H.ps_raiseH hc tk (L2N.pmk_own PySem.F.excBase_ValueError c.ec c.g c.k (raises_own c.b c.t) hg hdb)
theorem pe_calL (g : FR.Cal X.prog X.w X.K X.mg X.base (L2.CX X.prog X.w) k x ps sp) (hr : Room k X.A) (hg : Gl X x) (tk : L2.Takes X W) (ha : PA X (e :: es) t)
    (hdb : (x == ("__debug__" : Str)) = false := by decide) (he : starEach (e :: es) X.env = (false, eval e X.env) :: starEach es X.env := by rfl) (hpl : (backTo pos (starEach es X.env)).any (·.1) = false := by rfl) :
    PE X (.Call (.Name x p) (e :: es) [] pos) (tCallS sp (WE W) t) := by
  obtain ⟨f, fd, F, hm, hk, hb⟩ := g.ex
  exact pe_callS F hr hg hm hk hb (fun σ => L2.passAt tk σ) ha hdb he hpl
/-- f(..), f one of several defs, each with its promise -/
structure HeldS (P : Program) (w : World) (K : PySem.W.Frag) (mg : Str → Option Value) (base : Heap) (CX : CXT) (k : Nat) (f : Addr) (sp : Sp) : Prop where
  ex : ∃ (fd : FuncData) (ps : List Str), FnOk P w K mg base CX k f fd ps sp ∧ PySem.W.keepIn K (.ref f) = true ∧ Binds K fd ps []
def tCallF (S : Addr → Sp → Prop) (E : L2.St → XK) (tf : TE) (t : TA) : TE := fun σ H Q => tf σ H fun y H1 => ∃ f sp, y = .ref f ∧ S f sp ∧ t σ H1 fun vs H2 => sp vs H2 Q (E σ)
theorem pe_callF {CX : CXT} {E : L2.St → XK} {S : Addr → Sp → Prop} (hf : PE X fe tf) (A : ∀ f sp, S f sp → HeldS X.prog X.w X.K X.mg X.base CX k f sp) (hr : Room k X.A) (hx : ∀ σ, PassesAt CX X σ (E σ)) (ha : PA X (e :: es) t)
    (ht : eval (.Call fe (e :: es) [] pos) X.env = (do callWith pos (← eval fe X.env) [] (backTo pos (starEach (e :: es) X.env)) (backToKw pos (keywordEach [] X.env))) := by rfl)
    (he : starEach (e :: es) X.env = (false, eval e X.env) :: starEach es X.env := by rfl) (hpl : (backTo pos (starEach es X.env)).any (·.1) = false := by rfl) : PE X (.Call fe (e :: es) [] pos) (tCallF S E tf t) := by
  refine ⟨fun pins s σ H Q I h => ?_⟩
  refine Call_ (thn (hf.run pins s σ H _ I h) fun u s1 ⟨y, H1, I1, ry, f, sp, ey, hS, q⟩ => ?_) ht
  subst ey
  obtain rfl : u = Value.ref f := ry
  obtain ⟨fd, ps, F, hk, hb⟩ := (A f sp hS).ex
  refine PySem.W.callWith_K (h₀ := X.base) I1.ok.mod.kin hk (thn (ha.run pos pins s1 σ H1 _ I1 q) fun us s2 ⟨vs, H2, I2, r, q2⟩ => ⟨I2.kIn, ?_⟩) he hpl
  exact run_fnS F hr hb (hx σ) I2 r q2
theorem pe_callFN {CX : CXT} {E : L2.St → XK} {S : Addr → Sp → Prop} {i : Nat} (hN : X.N[i]? = some x) (hv : Vis X.env.scope x) (A : ∀ f sp, S f sp → HeldS X.prog X.w X.K X.mg X.base CX k f sp) (hr : Room k X.A) (hx : ∀ σ, PassesAt CX X σ (E σ)) (ha : PA X (e :: es) t)
    (hdb : (x == ("__debug__" : Str)) = false := by decide) (hcd : (x == ("__classdict__" : Str)) = false := by decide)
    (he : starEach (e :: es) X.env = (false, eval e X.env) :: starEach es X.env := by rfl) (hpl : (backTo pos (starEach es X.env)).any (·.1) = false := by rfl) : PE X (.Call (.Name x p) (e :: es) [] pos) (tCallF S E (tVar i) t) := by
  refine ⟨fun pins s σ H Q I h => ?_⟩
  refine wpAny_Call_Name_kw (thn ((pe_var (pos := p) hN hv hdb hcd).run pins s σ H _ I h) fun u s1 ⟨y, H1, I1, ry, f, sp, ey, hS, q⟩ => ?_)
  subst ey
  obtain rfl : u = Value.ref f := ry
  obtain ⟨fd, ps, F, hk, hb⟩ := (A f sp hS).ex
  refine PySem.W.callWith_K (h₀ := X.base) I1.ok.mod.kin hk (thn (ha.run pos pins s1 σ H1 _ I1 q) fun us s2 ⟨vs, H2, I2, r, q2⟩ => ⟨I2.kIn, ?_⟩) he hpl
  exact run_fnS F hr hb (hx σ) I2 r q2
end
/-- a suite for which exception it ever is -/
def tSuite (F : Addr → Prop) (inner : Addr → TS) (cls : Value) (d : Option Addr) : TS := fun D σ H => ∃ De, cls = .ref De ∧ d = none ∧ F De ∧ inner De D σ H
theorem pss_suite {X : Cx} {F : Addr → Prop} {inner : Addr → TS} {cls : Value} {d : Option Addr} {body : List Stmt} (h : ∀ De, cls = .ref De → d = none → F De → PSs X body (inner De)) : PSs X body (tSuite F inner cls d) := by
  refine ⟨fun pins s σ H D I q => ?_⟩
  obtain ⟨De, e1, e2, hF, q⟩ := q
  exact (h De e1 e2 hF).run pins s σ H D I q
theorem hot_suite {X : Cx} {a : Addr} {oe : Obj} {pn : List (Addr × Obj)} {cls : Value} {d : Option Addr} (hz : L2N.Zn cls d oe) (hf : ∃ vs, oe.data = .fields vs) : L2H.HotC (X.suite a ((a, oe) :: pn)) := by
  obtain ⟨vs, hd⟩ := hf
  exact ⟨(a, oe), ⟨rfl, vs, hd, hz.2.2 vs hd⟩, List.mem_cons_self⟩
theorem zc_of {De : Addr} {cls : Value} {d : Option Addr} {oe : Obj} (hz : L2N.Zn cls d oe) (e1 : cls = .ref De) (e2 : d = none) : Zc (.ref De) none oe := by
  subst e1 e2
  exact hz.zc
end FX

/-! [e for x in range(n)] where an exception is handled (my own; over the library's TurnH and its block). -/
namespace FX
open PySem PySem.Spec PyProof.Rows L2
abbrev blkE (X : Cx) (sc : Scope) (s : Shared) : Env :=
  compEnvC sc (cellsFrom (s.heap.objs.size + 1) sc.names (cloFrom X.env.cells sc.names [])) s.heap.objs.size X.env
abbrev blkS (sc : Scope) (s : Shared) : Shared :=
  { s with heap := pushCells (s.heap.push { cls := .type "dict", data := .dict #[] }) sc.names }
abbrev blkX (X : Cx) (sc : Scope) (s : Shared) (H : Hp) (fp : List Addr) : Cx := X.blk s H sc (blkE X sc s) fp
abbrev blkT (X : Cx) (sc : Scope) (s : Shared) (H : Hp) (fp : List Addr) (p : Addr × Obj) : Cx :=
  (blkX X sc s H fp).tr [p] fun _ _ => False
section
variable {X : Cx} {pins : List (Addr × Obj)} {σ τ : L2.St} {H G : Hp} {s r : Shared} {sc : Scope} {own : List (Str × Nat)} {fp : List Addr} {p : Addr × Obj}
/-- the block's start, the handled exception among its pins -/
theorem blk_in (I : Inv X pins σ H s) (ok : BlkOk X.N X.env.scope sc own) (nd : X.N.Nodup) (hp : p ∈ X.pn) (hf : ∀ b ∈ fp, FpOk X pins H b ∧ b < s.heap.objs.size) :
    Inv (blkX X sc s H fp) [p] (wipe σ (own.map (·.2))) H (blkS sc s) := by
  obtain ⟨p1, p2, p3, p4, p5⟩ := I.pin p (List.mem_append_left _ hp)
  refine (block_start I ok nd hf).pins_of fun q hq => ?_
  rw [List.mem_singleton] at hq
  rw [hq]
  refine ⟨pushCells_keeps _ _ _ _ (Heap.get?_push_of_some _ p1), p2, ?_, ?_, p5⟩
  · exact Nat.ne_of_lt (Heap.lt_size p1)
  · intro hm
    exact (List.mem_cons.mp (I.stkSub p.1 hm)).elim p3 p4
theorem blk_tr (I : Inv (blkX X sc s H fp) [p] τ G r) : Inv (blkT X sc s H fp p) [] τ G r := I.toTry _
theorem blk_rt (ok : (blkX X sc s H fp).Ok) (I : Inv (blkT X sc s H fp p) [] τ G r) : Inv (blkX X sc s H fp) [p] τ G r :=
  Inv.ofTry (X := blkX X sc s H fp) (pins := [p]) (pn' := []) I ok
/-- the iterator's objects keep apart in the block -/
theorem blk_fp (I : Inv (blkX X sc s H fp) [p] τ G r) (hn : ∀ b ∈ fp, G b = none) (np : ∀ b ∈ fp, p.1 ≠ b) : ∀ b ∈ fp, FpOk (blkX X sc s H fp) [p] G b := by
  intro b hb
  refine ⟨hn b hb, (I.ok.exf b hb).1, I.ok.exfs b hb, Or.inl hb, (I.ok.exf b hb).2, fun q hq => ?_⟩
  rw [List.nil_append, List.mem_singleton] at hq
  rw [hq]
  exact np b hb
end
section
variable {X : Cx} {tg elt iter : Expr} {sc : Scope} {own : List (Str × Nat)} {pos : Pos} {wi : TI} {g : TG} {te : TE}
theorem pe_lcHot (hot : L2H.HotC X) (nd : X.N.Nodup) (hi : L2H.PIH X tg iter wi) (ok : BlkOk X.N X.env.scope sc own)
    (hg : ∀ (s : Shared) (H : Hp) (C : Addr) (cl : List (Str × Addr)) (fp : List Addr), PG (X.blk s H sc (compEnvC sc cl C X.env) fp) tg g)
    (he : ∀ (s : Shared) (H : Hp) (C : Addr) (cl : List (Str × Addr)) (fp : List Addr), PE (X.blk s H sc (compEnvC sc cl C X.env) fp) elt te)
    (hs : ∀ x, foldedSetIterable iter X.env x = pure x := by intro _; rfl) : PE X (.ListComp elt [⟨tg, iter, [], 0⟩] sc pos) (tLc wi g tYes te (own.map (·.2))) := by
  obtain ⟨p, ⟨ph, v1, ve, vc⟩, pm⟩ := hot
  constructor
  intro pins s0 σ H0 Q I0 h
  rw [eval_ListComp]
  have free : ∀ y ∈ sc.names, y.2 = .free → ∃ c, X.env.cells.lookup y.1 = some c := by
    intro y hy e
    exact I0.ok.has _ (ok.free y hy e)
  have uq : ∀ y ∈ sc.names, y.2 = NameKind.local → sc.names.lookup y.1 = some .local := by
    intro y hy e
    rw [ok.uniq y hy, e]
  refine wpAny_comprehension_free (use := none) rfl hs (closure_ok free) ok.kind uq ?_
  refine thn (hi.run pins s0 σ H0 _ I0 h) fun _ _ w1 => thn w1 fun itv s2 w2 => ?_
  obtain ⟨it, fp, tn, J, H2, rfl, I2, T, t2, f2, q⟩ := w2
  refine wpAny_newObj_type (newEnv_comp ?_) (by show 0 ≤ sizeLine; decide)
  -- the list that grows
  obtain ⟨D, hD⟩ : ∃ D, s2.heap.objs.size = D := ⟨_, rfl⟩
  obtain ⟨s3, e3⟩ : ∃ s3 : Shared, s3 = { s2 with heap := s2.heap.push { cls := .type "list", data := .seq ([] : List Value).toArray } } := ⟨_, rfl⟩
  obtain ⟨H3, e4⟩ : ∃ H3 : Hp, H3 = upd H2 D (.lst []) := ⟨_, rfl⟩
  rw [hD, ← e3]
  have up3 : ∀ b o, s2.heap.get? b = some o → s3.heap.get? b = some o := by
    rw [e3]
    exact fun b o e => Heap.get?_push_of_some _ e
  have I3 : Inv X pins σ H3 s3 := by
    rw [e3, e4]
    refine I2.laid (t' := s2.toks) (fun b o e => Heap.get?_push_of_some _ e) (Nat.le_of_eq hD) ⟨Nat.zero_le _, [], 0, .nil, ?_⟩
    rw [← hD]
    exact Heap.get?_push_size _ rfl
  have lt3 : ∀ b ∈ fp, b < s2.heap.objs.size := by
    intro b hb
    obtain ⟨o, e, _⟩ := T.obj 0 s2.heap t2 b hb
    exact Heap.lt_size e
  have f3 : ∀ b ∈ fp, FpOk X pins H3 b ∧ b < s3.heap.objs.size := by
    intro b hb
    have l := lt3 b hb
    constructor
    · refine ⟨?_, (f2 b hb).2⟩
      rw [e4, upd_ne (fun z => Nat.ne_of_lt l (z.trans hD.symm))]
      exact (f2 b hb).1
    · rw [e3]
      show b < (s2.heap.push _).objs.size
      rw [Heap.size_push]
      exact Nat.lt_succ_of_lt l
  have pf : ∀ b ∈ fp, p.1 ≠ b := fun b hb => (f3 b hb).1.2.2.2.2.2 p (List.mem_append_left _ pm)
  have I4 := blk_in I3 ok nd pm f3
  have okB := I4.ok
  have t4 : tn 0 (blkS sc s3).heap := by
    refine T.keep 0 s2.heap _ t2 ?_
    intro b _ o e
    exact pushCells_keeps _ _ _ _ (Heap.get?_push_of_some _ (up3 b o e))
  obtain ⟨W, ⟨m0, w0⟩, turn⟩ := q D (I2.hok.fresh (Nat.le_of_eq hD))
  rw [← e4] at w0
  have hotT : L2H.HotC (blkT X sc s3 H3 fp p) := ⟨p, ⟨ph, v1, ve, vc⟩, List.mem_singleton.mpr rfl⟩
  -- the turns
  have all : codeAny (model X.prog X.w) X.A (.compLoop (.ListComp elt [⟨tg, iter, [], 0⟩] sc pos) 0 (.ref it) (.ref D) (blkE X sc s3)) (compPost (model X.prog X.w) X.A X.xe none (EP X pins σ Q) (.ref D) s3.heap.objs.size) (blkS sc s3) := by
    let V : Nat → Shared → Prop := fun m r => ∃ i G, Inv (blkX X sc s3 H3 fp) [p] (wipe σ (own.map (·.2))) G r ∧ tn i r.heap ∧ (∀ b ∈ fp, G b = none) ∧ W i m G
    refine compLoop_any V ?_ m0 ⟨0, H3, I4, t4, fun b hb => (f3 b hb).1.1, w0⟩
    rintro m r ⟨i, G, J5, t5, n5, w5⟩
    have k5 := blk_fp J5 n5 pf
    rcases turn i m G w5 with ⟨stop, fin⟩ | ⟨go, Nx, next, step⟩
    · refine thnF (T.done (blkT X sc s3 H3 fp p) rfl rfl rfl hotT i [] r _ G _ (blk_tr J5) k5 t5 stop) ?_
      rintro _ r' ⟨rfl, J6⟩
      have J7 : Inv X pins σ G r' := by
        refine I3.call' (ch := fp) J6.os J6.base J6.hok J6.bare ?_
        intro b hb
        obtain ⟨_, a2, _, a4, a5, a6⟩ := (f3 b hb).1
        exact ⟨a4, a2, a5, a6⟩
      obtain ⟨mm, ns, _⟩ := J6.loc
      have free' : G s3.heap.objs.size = none := J6.free
      obtain ⟨c0, c1, c2, c3, c4, c5⟩ := I3.fpOk (Nat.le_refl _) free'
      refine ⟨mm, ns, fun h'' sb => ?_⟩
      refine ⟨.ref D, G, ?_, rfl, fin⟩
      exact J7.turned (t' := r'.toks) (fun b o hb e => (sb.2 b hb).trans e) c0 c1 c3 c4 c5
    · refine thnF (T.item (blkT X sc s3 H3 fp p) rfl rfl rfl hotT i [] r _ G _ (blk_tr J5) k5 t5 go) ?_
      rintro _ r1 ⟨u, rfl, w6⟩
      refine thnF w6 ?_
      rintro _ r2 ⟨x, G2, J7, rx, yx, t7, n7⟩
      have J8 := blk_rt okB J7
      have J9 := J8.pinned (blk_fp J8 n7 pf) (T.obj _ _ t7)
      refine thnF ((hg _ _ _ _ _).run _ r2 _ G2 x u _ J9 rx (step x G2 yx)) ?_
      rintro _ r3 ⟨σ3, G3, J10, wq, b3⟩
      refine wpAny_tests_nil ?_
      have b3' : te σ3 G3 fun y H4 => ∃ acc, H4 D = some (.lst acc) ∧ acc.length < sizeLine ∧ Nx (upd H4 D (.lst (acc ++ [y]))) := b3
      show wpAny _ _ _ _ _ _
      refine thnF ((he _ _ _ _ _).run _ r3 σ3 G3 _ J10 b3') ?_
      rintro z r4 ⟨y, G4, J11, ry, acc, aD, az, nx⟩
      refine app_ok (X := blkX X sc s3 H3 fp) J11 aD az ry ?_
      intro r5 J12
      obtain ⟨m', lt, w'⟩ := next _ nx
      have held : ∀ b ∈ fp, ∀ o, r2.heap.get? b = some o → r5.heap.get? b = some o ∧ upd G4 D (.lst (acc ++ [y])) b = none := by
        intro b hb o e
        have z := J12.pin (b, o) (List.mem_append_right _ (List.mem_append_right _ (mem_pinsAt hb e)))
        exact ⟨z.1, z.2.1⟩
      refine ⟨m', lt, i + 1, _, ?_, T.keep _ _ _ t7 fun b hb o e => (held b hb o e).1, ?_, w'⟩
      · refine (J12.unpinned (pins := [p])).weak (by rw [← wq, wipe_length]) ?_
        intro j v e
        rw [← wq] at e
        exact (wipe_some e).1
      · intro b hb
        obtain ⟨o, e, _⟩ := T.obj _ _ t7 b hb
        exact (held b hb o e).2
  exact codeAny_compStart_list all (T.self X.A 0 _ _ _ t4 all)
end
end FX

/-! Refusals over data. -/
namespace FX
open PySem L2 Evl FR
open PySem.Spec PyProof.Rows
/-- what a def gives: data, a list of its own, a refusal -/
inductive Out where
  | rt (d : Da) | ls (es : List Da) | ex (C : Addr)
def OutOk (K : PySem.W.Frag) (B H : Hp) (Q : VK) (E : XK) : Out → Prop
  | .rt d => ∀ v B' H', Gr B H B' H' → Rp K B' d v → Q v H'
  | .ls es => ∀ p xs B' H', Gr B H B' H' → H p = none → B' p = none → H' p = some (.lst xs) → RpAll K B' es xs → Q (.ref p) H'
  | .ex C => ∀ B' H', Gr B H B' H' → E (.ref C) none H'
def FnR (K : PySem.W.Frag) (P : List Da → Out → Prop) : Sp := fun vs H Q E => ∃ B ds o, Ex B H ∧ RpAll K B ds vs ∧ P ds o ∧ OutOk K B H Q E o
/-- an expression that refuses -/
def EvX (K : PySem.W.Frag) (W : WX) (te : TE) (env : En) (C : Addr) : Prop := ∀ σ B, SD K B σ env → ∀ H1, Ex B H1 → ∀ Q : VK, (∀ B' H2, Gr B H1 B' H2 → W (.ref C) none σ H2) → te σ H1 Q
def EvAX (K : PySem.W.Frag) (W : WX) (ta : TA) (env : En) (C : Addr) : Prop := ∀ σ B, SD K B σ env → ∀ H1, Ex B H1 → ∀ Q : List V → Hp → Prop, (∀ B' H2, Gr B H1 B' H2 → W (.ref C) none σ H2) → ta σ H1 Q
section
variable {K : PySem.W.Frag} {env : En} {te tb : TE} {ta tr : TA} {tt : TT} {ds es : List Da} {d : Da} {P : List Da → Out → Prop} {W : WX} {C : Addr} {E : XK}
theorem ev_callS (h : EvA K ta env ds) (hp : P ds (.rt d)) : EvE K (tCallS (FnR K P) (WE W) ta) env d := fun σ B s H1 e Q q =>
  h σ B s H1 e _ fun vs B2 H2 g r => ⟨B2, ds, .rt d, g.h, r, hp, fun v B' H' g' r' => q v B' H' (g.trans g') r'⟩
theorem en_callS (h : EvA K ta env ds) (hp : P ds (.ls es)) : EvN K (tCallS (FnR K P) (WE W) ta) env es := fun σ B s H1 e Q q =>
  h σ B s H1 e _ fun vs B2 H2 g r => ⟨B2, ds, .ls es, g.h, r, hp, fun p xs B' H' g' h1 h2 h3 r' => q p xs B' H' (g.trans g') (fresh_back g.k h1) h2 h3 r'⟩
theorem ev_callR (h : EvA K ta env ds) (hp : P ds (.rt d)) : EvE K (tCall (FnR K P) [] E ta) env d := fun σ B s H1 e Q q =>
  h σ B s H1 e _ fun vs B2 H2 g r => ⟨B2, ds, .rt d, g.h, by rw [List.append_nil]; exact r, hp, fun v B' H' g' r' => q v B' H' (g.trans g') r'⟩
theorem en_callR (h : EvA K ta env ds) (hp : P ds (.ls es)) : EvN K (tCall (FnR K P) [] E ta) env es := fun σ B s H1 e Q q =>
  h σ B s H1 e _ fun vs B2 H2 g r => ⟨B2, ds, .ls es, g.h, by rw [List.append_nil]; exact r, hp, fun p xs B' H' g' h1 h2 h3 r' => q p xs B' H' (g.trans g') (fresh_back g.k h1) h2 h3 r'⟩
/-- the promises of non-raising defs, asked where one may raise -/
theorem ev_callSP {P : List Da → Da → Prop} {E : L2.St → XK} (h : EvA K ta env ds) (hp : P ds d) : EvE K (tCallS (FnP K P) E ta) env d := fun σ B s H1 e Q q =>
  h σ B s H1 e _ fun vs B2 H2 g r => ⟨B2, ds, d, g.h, r, hp, fun v B' H' g' r' => q v B' H' (g.trans g') r'⟩
theorem ex_call (h : EvA K ta env ds) (hp : P ds (.ex C)) : EvX K W (tCallS (FnR K P) (WE W) ta) env C := fun σ B s H1 e Q q =>
  h σ B s H1 e _ fun vs B2 H2 g r => ⟨B2, ds, .ex C, g.h, r, hp, fun B' H' g' => q B' H' (g.trans g')⟩
theorem exa_hd (h : EvX K W te env C) : EvAX K W (tCons te tr) env C := fun σ B s H1 e Q q => h σ B s H1 e _ q
theorem exa_tl (h : EvE K te env d) (h2 : EvAX K W tr env C) : EvAX K W (tCons te tr) env C := fun σ B s H1 e Q q =>
  h σ B s H1 e _ fun v B2 H2 g r => h2 σ B2 (s.mono g.b) H2 g.h _ fun B' H' g' => q B' H' (g.trans g')
theorem ex_tup (h : EvAX K W ta env C) : EvX K W (tTup ta) env C := fun σ B s H1 e Q q => h σ B s H1 e _ q
theorem ex_if {b : Bool} (h : EvB K tt env b) (h1 : b = true → EvX K W te env C) (h2 : b = false → EvX K W tb env C) : EvX K W (tIf tt te tb) env C := fun σ B s H1 e Q q =>
  h σ B s H1 e _ fun H2 e2 => by
    cases b with
    | true =>
      show te σ H2 Q
      exact h1 rfl σ B s H2 (e.trans e2) Q fun B' H' g => q B' H' ((Gr.keep e e2).trans g)
    | false =>
      show tb σ H2 Q
      exact h2 rfl σ B s H2 (e.trans e2) Q fun B' H' g => q B' H' ((Gr.keep e e2).trans g)
/-- f(..), f one of several -/
theorem ev_callF {f : Addr} {S : Addr → Sp → Prop} {E : L2.St → XK} (hf : EvE K te env (.cls f)) (hS : S f (FnR K P)) (h : EvA K ta env ds) (hp : P ds (.rt d)) : EvE K (tCallF S E te ta) env d := fun σ B s H1 e Q q =>
  hf σ B s H1 e _ fun v B2 H2 g r => by
    simp only [Rp] at r
    subst r
    exact ⟨f, _, rfl, hS, h σ B2 (s.mono g.b) H2 g.h _ fun vs B3 H3 g3 r3 => ⟨B3, ds, .rt d, g3.h, r3, hp, fun v B' H' g' r' => q v B' H' ((g.trans g3).trans g') r'⟩⟩
theorem en_callFL {f : Addr} {S : Addr → Sp → Prop} {P : List Da → List Da → Prop} {E : L2.St → XK} (hf : EvE K te env (.cls f)) (hS : S f (FnL K P)) (h : EvA K ta env ds) (hp : P ds es) : EvN K (tCallF S E te ta) env es := fun σ B s H1 e Q q =>
  hf σ B s H1 e _ fun v B2 H2 g r => by
    simp only [Rp] at r
    subst r
    exact ⟨f, _, rfl, hS, h σ B2 (s.mono g.b) H2 g.h _ fun vs B3 H3 g3 r3 => ⟨B3, ds, es, g3.h, r3, hp, fun p xs B' H' g' h1 h2 h3 r' => q p xs B' H' ((g.trans g3).trans g') (fresh_back (g.k.trans g3.k) h1) h2 h3 r'⟩⟩
theorem ex_callF {f : Addr} {S : Addr → Sp → Prop} (hf : EvE K te env (.cls f)) (hS : S f (FnR K P)) (h : EvA K ta env ds) (hp : P ds (.ex C)) : EvX K W (tCallF S (WE W) te ta) env C := fun σ B s H1 e Q q =>
  hf σ B s H1 e _ fun v B2 H2 g r => by
    simp only [Rp] at r
    subst r
    exact ⟨f, _, rfl, hS, h σ B2 (s.mono g.b) H2 g.h _ fun vs B3 H3 g3 r3 => ⟨B3, ds, .ex C, g3.h, r3, hp, fun B' H' g' => q B' H' ((g.trans g3).trans g')⟩⟩
end
/-! ### statements -/
section
variable {K : PySem.W.Frag} {env : En} {E : Ed} {te : TE} {tb : TS} {C : Addr} {i : Nat} {g : TG}
theorem run_raise (q : E.rx env C) : Run K (tRaise E.xk C) env E := fun B0 H0 B H σ D Bs eb s k => k.rx σ B H env C s eb q
theorem run_dropX (h : EvX K E.xk te (frz env) C) (q : E.rx env C) : Run K (tDrop te) env E := fun B0 H0 B H σ D Bs eb s k =>
  h σ H s.frz H (Ex.refl _) _ fun B' H' g => k.rx σ B H' env C (s.grow g.k) eb q
theorem run_retX (h : EvX K E.xk te (frz env) C) (q : E.rx env C) : Run K (tRet te) env E := fun B0 H0 B H σ D Bs eb s k =>
  h σ H s.frz H (Ex.refl _) _ fun B' H' g => k.rx σ B H' env C (s.grow g.k) eb q
theorem run_asgX (h : EvX K E.xk te (frz env) C) (q : E.rx env C) : Run K (tAsg te g) env E := fun B0 H0 B H σ D Bs eb s k =>
  h σ H s.frz H (Ex.refl _) _ fun B' H' g => k.rx σ B H' env C (s.grow g.k) eb q
theorem run_appX {ds : List Da} (hx : env[i]? = some (.mu ds)) (h : EvX K E.xk te (frz env) C) (q : E.rx env C) : Run K (tDrop (tBM K "list" rAppend (tVar i) (tCons te tNil))) env E := fun B0 H0 B H σ D Bs eb s k => by
  obtain ⟨ad, a1, a2, a3⟩ := s.own
  obtain ⟨l, xs, h1, h2, h3, h4⟩ := a3 i _ hx
  exact ⟨_, h1, .inl ⟨rfl, xs, sq_of h3⟩, h σ H s.frz H (Ex.refl _) _ fun B' H' g => k.rx σ B H' env C (s.grow g.k) eb q⟩
/-- try: .. except x as n -/
def tTryAs (K : PySem.W.Frag) (c : Value) (i : Nat) (tb : WX → TS) (ts : Addr → Value → Option Addr → TS) (Wout : WX) : TS := fun D σ H => tb (wAs K c i ts Wout D) D σ H
theorem run_tryAs {c : Value} {tb : WX → TS} {ts : Addr → Value → Option Addr → TS} {Wout : WX}
    (hb : ∀ W, Run K (tb W) env { E with xk := W, rx := fun e C => PySem.W.exmOne K (.ref C) c = some true ∧ ∀ a, Run K (ts a (.ref C) none) (e.set i (.im (.cls a))) { nx := fun _ => False, rd := E.rd, rl := E.rl, ro := E.ro } }) :
    Run K (tTryAs K c i tb ts Wout) env E := fun B0 H0 B H σ D Bs eb s k =>
  hb _ B0 H0 B H σ D Bs eb s ⟨k.nx, k.bk, k.ct, k.rd, k.rl, k.ro, fun σ2 B2 H2 e2 C s2 eb2 ⟨q1, q2⟩ => ⟨true, q1, fun _ a _ =>
    q2 a B0 H0 B2 H2 (σ2.set i (some (.ref a))) _ Bs eb2 (s2.im (Gr.refl s2.eH) (by simp only [Rp])) ⟨fun _ _ _ _ _ _ z => z.elim, fun _ _ _ _ _ _ z => z.elim, fun _ _ _ _ _ _ z => z.elim, k.rd, k.rl, k.ro, fun _ _ _ _ _ _ _ z => z.elim⟩, fun z => nomatch z⟩⟩
/-- try: .. except x, the suite raises -/
def tTryOnly (K : PySem.W.Frag) (c : Value) (tb : WX → TS) (ts : Addr → Value → Option Addr → TS) (Wout : WX) : TS := fun D σ H => tb (wOnly K c ts Wout D) D σ H
theorem run_tryOnly {c : Value} {tb : WX → TS} {ts : Addr → Value → Option Addr → TS} {Wout : WX}
    (hb : ∀ W, Run K (tb W) env { E with xk := W, rx := fun e C => PySem.W.exmOne K (.ref C) c = some true ∧ ∀ a, Run K (ts a (.ref C) none) e E }) :
    Run K (tTryOnly K c tb ts Wout) env E := fun B0 H0 B H σ D Bs eb s k =>
  hb _ B0 H0 B H σ D Bs eb s ⟨k.nx, k.bk, k.ct, k.rd, k.rl, k.ro, fun σ2 B2 H2 e2 C s2 eb2 ⟨q1, q2⟩ => ⟨true, q1, fun _ a _ =>
    q2 a B0 H0 B2 H2 σ2 _ Bs eb2 s2 k, fun z => nomatch z⟩⟩
theorem run_suite {F : Addr → Prop} {inner : Addr → TS} {De : Addr} (hF : F De) (h : Run K (inner De) env E) : Run K (tSuite F inner (.ref De) none) env E := fun B0 H0 B H σ D Bs eb s k =>
  ⟨De, rfl, rfl, hF, h B0 H0 B H σ D Bs eb s k⟩
end
/-! ### what an error is -/
section
variable {K : PySem.W.Frag} {env : En} {ta tb : TE} {a De Cx : Addr} {b : Bool} {n : String}
theorem ev_isE (ha : EvE K ta env (.cls a)) (hb : EvE K tb env (.cls Cx)) (hk : PySem.W.kitOne K (.ref De) (.ref Cx) = some b) : EvE K (tCB (rIsE K De a) (tCons ta (tCons tb tNil))) env (.bl b) :=
  ev_cb (ea_cons ha (ea_cons hb ea_nil)) fun B H vs e r Q q => by
    obtain ⟨v, w, rfl, h1, h2⟩ := two_rp r
    simp only [Rp] at h1 h2
    subst h1 h2
    exact ⟨.ref Cx, .ref Cx, b, rfl, fun u r => r, hk, q _ B H (Gr.refl e) (by simp only [Rp])⟩
theorem ev_isET (ha : EvE K ta env (.cls a)) (hb : EvE K tb env (.ty n)) (hk : PySem.W.kitOne K (.ref De) (.type n) = some b) : EvE K (tCB (rIsE K De a) (tCons ta (tCons tb tNil))) env (.bl b) :=
  ev_cb (ea_cons ha (ea_cons hb ea_nil)) fun B H vs e r Q q => by
    obtain ⟨v, w, rfl, h1, h2⟩ := two_rp r
    simp only [Rp] at h1 h2
    subst h1 h2
    exact ⟨.ty n, .type n, b, rfl, fun u r => r, hk, q _ B H (Gr.refl e) (by simp only [Rp])⟩
theorem ev_emp : EvE K tDNewK env .emp := fun σ B s H1 e Q q p hp => by
  refine q (.ref p) (upd B p (.dK [])) _ (Gr.lay e hp) ?_
  simp only [Rp]
  exact ⟨p, rfl, upd_same⟩
end
theorem kit_x {K : PySem.W.Frag} {A D : Addr} {b : Bool} (h1 : PySem.W.isClsIn K D = true) (h2 : PySem.W.typeIn K (.ref D) = some (.type "type")) (h3 : PySem.W.subIn K (.ref A) (.ref D) = some b) (h4 : PySem.W.subIn K (.ref A) (.ref A) = some true) : PySem.W.kitOne K (.ref A) (.ref D) = some b := by
  unfold PySem.W.kitOne
  by_cases e : A = D
  · subst e
    rw [h3] at h4
    rw [if_pos (beq_self_eq_true _), h4]
  · have e1 : (Value.ref A == Value.ref D) = false := by simpa using e
    rw [e1, if_neg Bool.false_ne_true]
    have h1' : (PySem.W.clsIn K D).isSome = true := h1
    show (if ((PySem.W.clsIn K D).isSome && PySem.W.typeIn K (.ref D) == some (.type "type")) = true then PySem.W.subIn K (.ref A) (.ref D) else none) = some b
    rw [h1', h2, if_pos (by rw [Bool.true_and]; exact beq_self_eq_true _)]
    exact h3
theorem kit_v {K : PySem.W.Frag} {A : Addr} {b : Bool} (h : PySem.W.subIn K (.ref A) (.type "ValueError") = some b) : PySem.W.kitOne K (.ref A) (.type "ValueError") = some b := by
  unfold PySem.W.kitOne
  have e1 : (Value.ref A == Value.type "ValueError") = false := by simp
  rw [e1, if_neg Bool.false_ne_true]
  show (if PySem.W.kitMeta "ValueError" = true then PySem.W.subIn K (.ref A) (.type "ValueError") else none) = some b
  rw [if_pos (by decide +kernel)]
  exact h
/-- what an error of the class at De is -/
structure ExcF (K : PySem.W.Frag) (C : CS) (De : Addr) (bR bS bD bT : Bool) : Prop where
  is : ExcC K De
  ex : PySem.W.exmOne K (.ref De) (.ref C.FallError) = some true
  kR : PySem.W.kitOne K (.ref De) (.ref C.BadRow) = some bR
  kS : PySem.W.kitOne K (.ref De) (.ref C.BadStone) = some bS
  kD : PySem.W.kitOne K (.ref De) (.ref C.BadSide) = some bD
  kT : PySem.W.kitOne K (.ref De) (.ref C.BadText) = some bT
  kV : PySem.W.kitOne K (.ref De) (.type "ValueError") = some true
structure ExcFs (K : PySem.W.Frag) (C : CS) : Prop where
  r : ExcF K C C.BadRow true false false false
  s : ExcF K C C.BadStone false true false false
  d : ExcF K C C.BadSide false false true false
  t : ExcF K C C.BadText false false false true
  rr : PySem.W.exmOne K (.ref C.BadRow) (.ref C.BadRow) = some true
/-- a def's address, by its place in the law's list -/
def fa (C : CS) (i : Nat) : Addr := C.fn.getD i 0
/-! ### a def's body -/
def retR (X : XK) (o : Out) : Ed := { nx := fun _ => o = .rt .non, rd := fun d => o = .rt d, rl := fun xs => o = .ls xs ∨ o = .rt (.lst xs), xk := WofE X, rx := fun _ C => o = .ex C }
section
variable {K : PySem.W.Frag}
theorem fnR_of {P : List Da → Out → Prop} {t : XK → TS} {N : List Str} (n : Nat) (hn : ∀ ds o, P ds o → N.length - ds.length = n) (h : ∀ X ds o, P ds o → Run K (t X) (ent ds n) (retR X o)) {vs : List V} {H : Hp} {Q : VK} {E : XK} (hp : FnR K P vs H Q E) :
    t E { nx := fun _ H' => Q .non H', rt := Q } (start N vs) H := by
  obtain ⟨B, ds, o, e, r, p, q⟩ := hp
  have s := sta_ent (n := n) e r
  have hl : N.length - vs.length = n := by rw [r.len]; exact hn ds o p
  rw [start_eq, hl]
  refine h E ds o p B H B H _ _ B (Ex.refl _) s ⟨fun σ B' H' env s' _ z => ?_, fun _ _ _ _ _ _ z => z.elim, fun _ _ _ _ _ _ z => z.elim, fun v B' H' d' g r' z => ?_, fun l xs B' H' es g h1 h2 h3 h4 z => ?_, fun _ _ _ _ _ _ _ _ _ _ _ _ _ _ z => z.elim, fun σ B' H' env C s' _ z => ?_⟩
  · have z' : o = .rt .non := z
    subst z'
    exact q .non B' H' s'.gr (by simp only [Rp])
  · have z' : o = .rt d' := z
    subst z'
    exact q v B' H' g r'
  · have z' : o = .ls es ∨ o = .rt (.lst es) := z
    rcases z' with z' | z'
    · subst z'
      exact q l xs B' H' g h1 h2 h3 h4
    · subst z'
      have eB : Ex B' (upd B' l (.lst xs)) := Ex.new h2
      refine q (.ref l) (upd B' l (.lst xs)) H' ⟨g.b.trans eB, fun a u ho => ?_, g.k, fun a ha => ?_⟩ ?_
      · by_cases ea : a = l
        · subst ea
          rw [upd_same] at ho
          rw [h3]
          exact ho
        · rw [upd_ne ea] at ho
          exact g.h a u ho
      · rw [upd_ne fun ea => ha (by rw [ea]; exact h1)]
        exact g.n a ha
      · simp only [Rp]
        exact ⟨l, xs, rfl, upd_same, RpAll.mono eB _ _ h4⟩
  · have z' : o = .ex C := z
    subst z'
    exact q B' H' s'.gr
theorem len_R {P : List Da → Out → Prop} {m : Nat} (hm : ∀ ds o, P ds o → ds.length = m) {vs : List V} {H : Hp} {Q : VK} {E : XK} (hp : FnR K P vs H Q E) : vs.length = m := by
  obtain ⟨B, ds, o, e, r, p, q⟩ := hp
  rw [r.len]
  exact hm ds o p
end
end FX

/-! The program's defs about rows, asked with whatever is handed in. -/
namespace FX
open PySem L2 Evl FR
open PySem.Spec PyProof.Rows
/-! ### kinds of things -/
def kn1 (d : Da) : Bool := (tyD d).isSome
def kn2 : Da → Bool
  | .tup es => es.all kn1
  | d => kn1 d
def kn3 : Da → Bool
  | .lst ds => decide (ds.length ≤ 1000) && ds.all kn2
  | .sq _ => false
  | d => kn2 d
def isNum : Da → Bool
  | .int _ => true
  | _ => false
def intOr : Da → Bool
  | .int _ => true
  | .bl _ => true
  | _ => false
def isBol : Da → Bool
  | .bl _ => true
  | _ => false
def isLst : Da → Bool
  | .lst _ => true
  | .sq _ => true
  | _ => false
def isTup : Da → Bool
  | .tup _ => true
  | _ => false
def isStrD : Da → Bool
  | .str _ => true
  | _ => false
section
variable {K : PySem.W.Frag} {env : En} {ta : TE} {d : Da}
theorem ev_isInt (ha : EvE K ta env d) (hk : kn1 d = true) : EvE K (tCB (rIsi K) (tCons ta (tCons (tC (.ty "int")) tNil))) env (.bl (intOr d)) := by
  cases d with
  | non => exact ev_isiB (n := "NoneType") (b := false) ha ev_ty rfl (by decide +kernel)
  | bl b => exact ev_isiB (n := "bool") (b := true) ha ev_ty rfl (by decide +kernel)
  | int i => exact ev_isiB (n := "int") (b := true) ha ev_ty rfl (by decide +kernel)
  | str x => exact ev_isiB (n := "str") (b := false) ha ev_ty rfl (by decide +kernel)
  | lst ds => exact ev_isiB (n := "list") (b := false) ha ev_ty rfl (by decide +kernel)
  | sq ds => exact ev_isiB (n := "list") (b := false) ha ev_ty rfl (by decide +kernel)
  | tup ds => exact ev_isiB (n := "tuple") (b := false) ha ev_ty rfl (by decide +kernel)
  | emp => exact ev_isiB (n := "dict") (b := false) ha ev_ty rfl (by decide +kernel)
  | ty n => cases hk
  | cls C => cases hk
  | obj C ns ds => cases hk
theorem ev_isBol (ha : EvE K ta env d) (hk : kn1 d = true) : EvE K (tCB (rIsi K) (tCons ta (tCons (tC (.ty "bool")) tNil))) env (.bl (isBol d)) := by
  cases d with
  | non => exact ev_isiB (n := "NoneType") (b := false) ha ev_ty rfl (by decide +kernel)
  | bl b => exact ev_isiB (n := "bool") (b := true) ha ev_ty rfl (by decide +kernel)
  | int i => exact ev_isiB (n := "int") (b := false) ha ev_ty rfl (by decide +kernel)
  | str x => exact ev_isiB (n := "str") (b := false) ha ev_ty rfl (by decide +kernel)
  | lst ds => exact ev_isiB (n := "list") (b := false) ha ev_ty rfl (by decide +kernel)
  | sq ds => exact ev_isiB (n := "list") (b := false) ha ev_ty rfl (by decide +kernel)
  | tup ds => exact ev_isiB (n := "tuple") (b := false) ha ev_ty rfl (by decide +kernel)
  | emp => exact ev_isiB (n := "dict") (b := false) ha ev_ty rfl (by decide +kernel)
  | ty n => cases hk
  | cls C => cases hk
  | obj C ns ds => cases hk
theorem ev_isLst (ha : EvE K ta env d) (hk : kn1 d = true) : EvE K (tCB (rIsi K) (tCons ta (tCons (tC (.ty "list")) tNil))) env (.bl (isLst d)) := by
  cases d with
  | non => exact ev_isiB (n := "NoneType") (b := false) ha ev_ty rfl (by decide +kernel)
  | bl b => exact ev_isiB (n := "bool") (b := false) ha ev_ty rfl (by decide +kernel)
  | int i => exact ev_isiB (n := "int") (b := false) ha ev_ty rfl (by decide +kernel)
  | str x => exact ev_isiB (n := "str") (b := false) ha ev_ty rfl (by decide +kernel)
  | lst ds => exact ev_isiB (n := "list") (b := true) ha ev_ty rfl (by decide +kernel)
  | sq ds => exact ev_isiB (n := "list") (b := true) ha ev_ty rfl (by decide +kernel)
  | tup ds => exact ev_isiB (n := "tuple") (b := false) ha ev_ty rfl (by decide +kernel)
  | emp => exact ev_isiB (n := "dict") (b := false) ha ev_ty rfl (by decide +kernel)
  | ty n => cases hk
  | cls C => cases hk
  | obj C ns ds => cases hk
theorem ev_isTup (ha : EvE K ta env d) (hk : kn1 d = true) : EvE K (tCB (rIsi K) (tCons ta (tCons (tC (.ty "tuple")) tNil))) env (.bl (isTup d)) := by
  cases d with
  | non => exact ev_isiB (n := "NoneType") (b := false) ha ev_ty rfl (by decide +kernel)
  | bl b => exact ev_isiB (n := "bool") (b := false) ha ev_ty rfl (by decide +kernel)
  | int i => exact ev_isiB (n := "int") (b := false) ha ev_ty rfl (by decide +kernel)
  | str x => exact ev_isiB (n := "str") (b := false) ha ev_ty rfl (by decide +kernel)
  | lst ds => exact ev_isiB (n := "list") (b := false) ha ev_ty rfl (by decide +kernel)
  | sq ds => exact ev_isiB (n := "list") (b := false) ha ev_ty rfl (by decide +kernel)
  | tup ds => exact ev_isiB (n := "tuple") (b := true) ha ev_ty rfl (by decide +kernel)
  | emp => exact ev_isiB (n := "dict") (b := false) ha ev_ty rfl (by decide +kernel)
  | ty n => cases hk
  | cls C => cases hk
  | obj C ns ds => cases hk
theorem ev_isStr (ha : EvE K ta env d) (hk : kn1 d = true) : EvE K (tCB (rIsi K) (tCons ta (tCons (tC (.ty "str")) tNil))) env (.bl (isStrD d)) := by
  cases d with
  | non => exact ev_isiB (n := "NoneType") (b := false) ha ev_ty rfl (by decide +kernel)
  | bl b => exact ev_isiB (n := "bool") (b := false) ha ev_ty rfl (by decide +kernel)
  | int i => exact ev_isiB (n := "int") (b := false) ha ev_ty rfl (by decide +kernel)
  | str x => exact ev_isiB (n := "str") (b := true) ha ev_ty rfl (by decide +kernel)
  | lst ds => exact ev_isiB (n := "list") (b := false) ha ev_ty rfl (by decide +kernel)
  | sq ds => exact ev_isiB (n := "list") (b := false) ha ev_ty rfl (by decide +kernel)
  | tup ds => exact ev_isiB (n := "tuple") (b := false) ha ev_ty rfl (by decide +kernel)
  | emp => exact ev_isiB (n := "dict") (b := false) ha ev_ty rfl (by decide +kernel)
  | ty n => cases hk
  | cls C => cases hk
  | obj C ns ds => cases hk
end
theorem kn1_of2 {d : Da} (h : kn2 d = true) : kn1 d = true := by
  cases d <;> first | exact h | rfl
theorem kn1_of3 {d : Da} (h : kn3 d = true) : kn1 d = true := by
  cases d <;> first | rfl | exact h
def isPair : Da → Bool
  | .tup [x, y] => isNum x && isNum y
  | _ => false
def hgtD : Da → Int
  | .tup [_, .int h] => h
  | _ => 0
def plcD : Da → Int
  | .tup [.int p, _] => p
  | _ => 0
def stoneB (d : Da) : Bool := isPair d && decide (0 < hgtD d)
def rowOf (ds : List Da) : List (Int × Int) := ds.map fun d => (plcD d, hgtD d)
def incB (row : List (Int × Int)) : Bool := (List.range ((row.length : Int) - 1).toNat).all fun k => decide (plc row (1 + (k : Nat) - 1) < plc row (1 + (k : Nat)))
def rowB : Da → Bool
  | .lst ds => ds.all stoneB && incB (rowOf ds)
  | _ => false
def ixB (row : List (Int × Int)) : Da → Bool
  | .int i => decide (0 ≤ i) && decide (i < row.length)
  | _ => false
def sideB : Da → Bool
  | .int s => decide (s = 1) || decide (s = -1)
  | _ => false
theorem num_is {d : Da} (h : isNum d = true) : ∃ p, d = .int p := by
  cases d with
  | int p => exact ⟨p, rfl⟩
  | _ => cases h
theorem pair_is {d : Da} (h : isPair d = true) : ∃ p q, d = .tup [.int p, .int q] := by
  unfold isPair at h
  split at h
  · rename_i x y
    rw [Bool.and_eq_true] at h
    obtain ⟨h1, h2⟩ := h
    obtain ⟨p, rfl⟩ := num_is h1
    obtain ⟨q, rfl⟩ := num_is h2
    exact ⟨p, q, rfl⟩
  · cases h
theorem row_of : ∀ {ds : List Da}, ds.all stoneB = true → ds = rowL (rowOf ds)
  | [], _ => rfl
  | d :: ds, h => by
    rw [List.all_cons, Bool.and_eq_true] at h
    unfold stoneB at h
    have h1 := h.1
    rw [Bool.and_eq_true] at h1
    obtain ⟨p, q, rfl⟩ := pair_is h1.1
    show _ :: ds = prD (p, q) :: rowL (rowOf ds)
    rw [← row_of h.2]
    rfl
theorem rowOf_row (row : List (Int × Int)) : rowOf (rowL row) = row := by
  unfold rowOf rowL
  rw [List.map_map]
  exact (List.map_congr_left (fun p _ => rfl)).trans (List.map_id _)
theorem stones_pos {ds : List Da} (h : ds.all stoneB = true) : ∀ p ∈ rowOf ds, 0 < p.2 := by
  intro p hp
  obtain ⟨d, hd, rfl⟩ := List.mem_map.mp hp
  have := List.all_eq_true.mp h d hd
  unfold stoneB at this
  rw [Bool.and_eq_true, decide_eq_true_eq] at this
  exact this.2
theorem inc_of {row : List (Int × Int)} (h : incB row = true) : ∀ j, j < row.length → ∀ i, i < j → plc row i < plc row j := by
  have st : ∀ k : Nat, k + 1 < row.length → plc row k < plc row ((k + 1 : Nat) : Int) := by
    intro k hk
    have z := List.all_eq_true.mp h k (List.mem_range.mpr (by omega))
    rw [decide_eq_true_eq] at z
    have e1 : (1 : Int) + (k : Nat) - 1 = ((k : Nat) : Int) := by omega
    have e2 : (1 : Int) + (k : Nat) = ((k + 1 : Nat) : Int) := by omega
    rw [e1, e2] at z
    exact z
  intro j
  induction j with
  | zero => intro _ i hi; omega
  | succ j ih =>
    intro hj i hi
    by_cases e : i = j
    · subst e
      exact st i hj
    · exact Int.lt_trans (ih (by omega) i (by omega)) (st j hj)
theorem okr_of {ds : List Da} (h : rowB (.lst ds) = true) (hl : ds.length ≤ 1000) : Okr (rowOf ds) := by
  unfold rowB at h
  rw [Bool.and_eq_true] at h
  refine ⟨fun i hi => ?_, fun i j hij hj => inc_of h.2 j hj i hij, by unfold rowOf; rw [List.length_map]; exact hl⟩
  have e : (rowOf ds)[i]? = some ((rowOf ds)[i]) := List.getElem?_eq_getElem hi
  have hp := stones_pos h.1 _ (List.getElem_mem hi)
  unfold hgt
  simp only [Int.toNat_natCast]
  rw [List.getD_eq_getElem?_getD, e]
  exact hp
theorem rowB_of {row : List (Int × Int)} (ok : Okr row) : rowB (rowD row) = true := by
  show ((rowL row).all stoneB && incB (rowOf (rowL row))) = true
  rw [rowOf_row, Bool.and_eq_true]
  constructor
  · rw [List.all_eq_true]
    intro d hd
    obtain ⟨p, hp, rfl⟩ := List.mem_map.mp hd
    obtain ⟨j, hj, rfl⟩ := plc_mem hp
    have := ok.pos j hj
    show (true && true && decide (0 < hgt row j)) = true
    simp [this]
  · unfold incB
    rw [List.all_eq_true]
    intro k hk
    have hk' := List.mem_range.mp hk
    have := ok.inc k (k + 1) (by omega) (by omega)
    rw [decide_eq_true_eq]
    have e1 : (1 : Int) + (k : Nat) - 1 = ((k : Nat) : Int) := by omega
    have e2 : (1 : Int) + (k : Nat) = ((k + 1 : Nat) : Int) := by omega
    rw [e1, e2]
    exact this
theorem kn3_row {row : List (Int × Int)} (hl : row.length ≤ 1000) : kn3 (rowD row) = true := by
  show (decide ((rowL row).length ≤ 1000) && (rowL row).all kn2) = true
  rw [Bool.and_eq_true, decide_eq_true_eq, List.length_map]
  refine ⟨hl, List.all_eq_true.mpr fun d hd => ?_⟩
  obtain ⟨p, hp, rfl⟩ := List.mem_map.mp hd
  rfl
/-- a row is what rowB says -/
theorem row_cases {d : Da} (hk : kn3 d = true) (h : rowB d = true) : ∃ row, d = rowD row ∧ Okr row := by
  cases d with
  | lst ds =>
    have hk' : (decide (ds.length ≤ 1000) && ds.all kn2) = true := hk
    rw [Bool.and_eq_true, decide_eq_true_eq] at hk'
    have h' : (ds.all stoneB && incB (rowOf ds)) = true := h
    rw [Bool.and_eq_true] at h'
    exact ⟨rowOf ds, congrArg Da.lst (row_of h'.1), okr_of h hk'.1⟩
  | _ => cases h

/-! ### promises -/
def P_is_number (ds : List Da) (o : Da) : Prop := ∃ d, ds = [d] ∧ kn1 d = true ∧ o = .bl (isNum d)
def P_is_pair (ds : List Da) (o : Da) : Prop := ∃ d, ds = [d] ∧ kn2 d = true ∧ o = .bl (isPair d)
def P_check_row (C : CS) (ds : List Da) (o : Out) : Prop := ∃ d, ds = [d] ∧ kn3 d = true ∧ o = if rowB d = true then .rt .non else .ex C.BadRow
def P_check_stone (C : CS) (ds : List Da) (o : Out) : Prop := ∃ row x, ds = [rowD row, x] ∧ kn1 x = true ∧ o = if ixB row x = true then .rt .non else .ex C.BadStone
def P_check_side (C : CS) (ds : List Da) (o : Out) : Prop := ∃ x, ds = [x] ∧ kn1 x = true ∧ o = if sideB x = true then .rt .non else .ex C.BadSide
def oRow (C : CS) (d : Da) (good : List (Int × Int) → Out → Prop) (o : Out) : Prop := (rowB d = false ∧ o = .ex C.BadRow) ∨ ∃ row, d = rowD row ∧ Okr row ∧ good row o
def oStone (C : CS) (row : List (Int × Int)) (x : Da) (good : Nat → Out → Prop) (o : Out) : Prop := (ixB row x = false ∧ o = .ex C.BadStone) ∨ ∃ i : Nat, x = .int i ∧ i < row.length ∧ good i o
def oSide (C : CS) (x : Da) (good : Int → Out → Prop) (o : Out) : Prop := (sideB x = false ∧ o = .ex C.BadSide) ∨ ∃ s, x = .int s ∧ Sd s ∧ good s o
def isPr : Da → Bool
  | .tup [_, _] => true
  | _ => false
def oPush (C : CS) (p : Da) (good : Da → Da → Out → Prop) (o : Out) : Prop := (isPr p = false ∧ o = .ex C.BadStone) ∨ ∃ a b, p = .tup [a, b] ∧ kn1 a = true ∧ kn1 b = true ∧ good a b o
def P_mirrored (C : CS) (ds : List Da) (o : Out) : Prop := ∃ r, ds = [r] ∧ kn3 r = true ∧ oRow C r (fun row o => o = .ls (rowL (mir row))) o
def P_felled (C : CS) (ds : List Da) (o : Out) : Prop := ∃ r x s, ds = [r, x, s] ∧ (kn3 r = true ∧ kn1 x = true ∧ kn1 s = true) ∧ oRow C r (fun row => oStone C row x fun i => oSide C s fun sd o => o = .ls (intL (fellL row i sd))) o
def P_reached (C : CS) (ds : List Da) (o : Out) : Prop := ∃ r p x, ds = [r, p, x] ∧ (kn3 r = true ∧ kn2 p = true ∧ kn1 x = true) ∧ oRow C r (fun row => oPush C p fun a b => oStone C row a fun _ => oSide C b fun _ => oStone C row x fun _ _ => False) o
def P_higher (C : CS) (ds : List Da) (o : Out) : Prop := ∃ r x, ds = [r, x] ∧ (kn3 r = true ∧ kn1 x = true) ∧ oRow C r (fun row => oStone C row x fun _ _ => False) o
def P_rowOnly (C : CS) (ds : List Da) (o : Out) : Prop := ∃ r, ds = [r] ∧ kn3 r = true ∧ oRow C r (fun _ _ => False) o
abbrev P_fewest := P_rowOnly
abbrev P_rights := P_rowOnly
abbrev P_last_felled := FR.P_last_felled
abbrev P_felled_by := FR.P_felled_by
abbrev sp_is_number (K : PySem.W.Frag) (C : CS) : Sp := FnP K P_is_number
abbrev sp_is_pair (K : PySem.W.Frag) (C : CS) : Sp := FnP K P_is_pair
abbrev sp_check_row (K : PySem.W.Frag) (C : CS) : Sp := FnR K (P_check_row C)
abbrev sp_check_stone (K : PySem.W.Frag) (C : CS) : Sp := FnR K (P_check_stone C)
abbrev sp_check_side (K : PySem.W.Frag) (C : CS) : Sp := FnR K (P_check_side C)
abbrev sp_last_felled (K : PySem.W.Frag) (C : CS) : Sp := FnP K P_last_felled
abbrev sp_felled_by (K : PySem.W.Frag) (C : CS) : Sp := FnL K P_felled_by
abbrev sp_mirrored (K : PySem.W.Frag) (C : CS) : Sp := FnR K (P_mirrored C)
abbrev sp_felled (K : PySem.W.Frag) (C : CS) : Sp := FnR K (P_felled C)
abbrev sp_reached (K : PySem.W.Frag) (C : CS) : Sp := FnR K (P_reached C)
abbrev sp_higher (K : PySem.W.Frag) (C : CS) : Sp := FnR K (P_higher C)
abbrev sp_fewest (K : PySem.W.Frag) (C : CS) : Sp := FnR K (P_fewest C)
abbrev sp_rights (K : PySem.W.Frag) (C : CS) : Sp := FnR K (P_rights C)
def t_is_number (K : PySem.W.Frag) (C : CS) : TS :=
  (tRet (tAndV (tCB (rIsi K) (tCons (tVar 0) (tCons (tC (.ty "int")) tNil))) (tNotV (tCB (rIsi K) (tCons (tVar 0) (tCons (tC (.ty "bool")) tNil))))))
def t_is_pair (K : PySem.W.Frag) (C : CS) : TS :=
  (tRet (tAndV (tCB (rIsi K) (tCons (tVar 0) (tCons (tC (.ty "tuple")) tNil))) (tAndV (tOp rEq (tCB (rLenS K) (tCons (tVar 0) tNil)) (tC (.int 2))) (tAndV (tCall (sp_is_number K C) [] E0 (tCons (tOp (rIxT K) (tVar 0) (tC (.int 0))) tNil)) (tCall (sp_is_number K C) [] E0 (tCons (tOp (rIxT K) (tVar 0) (tC (.int 1))) tNil))))))
def t_check_row (K : PySem.W.Frag) (C : CS) (X : XK) : TS :=
  (tSeq (tIfS (tOr (tNot (tB (tCB (rIsi K) (tCons (tVar 0) (tCons (tC (.ty "list")) tNil))))) (tNot (tB (tCB (rAll K) (tCons (tLc (iList K (tVar 0)) (gName 1) tYes (tAndV (tCall (sp_is_pair K C) [] E0 (tCons (tVar 1) tNil)) (tOp rGtI (tOp (rIxT K) (tVar 1) (tC (.int 1))) (tC (.int 0)))) [1]) tNil))))) (tRaise (WofE X) C.BadRow) tNext) (tIfS (tNot (tB (tCB (rAll K) (tCons (tLc (iRng2 (tCons (tC (.int 1)) (tCons (tCB (rLenS K) (tCons (tVar 0) tNil)) tNil))) (gName 2) tYes (tOp rLtI (tOp (rIxT K) (tOp (rIxL K) (tVar 0) (tOp rSubI (tVar 2) (tC (.int 1)))) (tC (.int 0))) (tOp (rIxT K) (tOp (rIxL K) (tVar 0) (tVar 2)) (tC (.int 0)))) [2]) tNil)))) (tRaise (WofE X) C.BadRow) tNext))

/-! ### what they compute -/
section
variable {K : PySem.W.Frag} {C : CS}
theorem run_is_number {ds : List Da} {d : Da} (h : P_is_number ds d) : Run K (t_is_number K C) (ent ds 0) (retD d) := by
  obtain ⟨x, rfl, hk, rfl⟩ := h
  refine run_ret (d := .bl (intOr x && !isBol x)) (ev_andV (a := intOr x) (b := !isBol x) (ev_isInt (ev_var rfl) hk) fun _ => ev_notV (ev_isBol (ev_var rfl) hk)) ?_
  show Da.bl _ = Da.bl _
  cases x <;> rfl
theorem run_is_pair {ds : List Da} {d : Da} (h : P_is_pair ds d) : Run K (t_is_pair K C) (ent ds 0) (retD d) := by
  obtain ⟨x, rfl, hk, rfl⟩ := h
  have no : isTup x = false → Run K (t_is_pair K C) (ent [x] 0) (retD (.bl (isPair x))) := fun hx => by
    refine run_ret (d := .bl (isTup x && true)) (ev_andV (ev_isTup (ev_var rfl) (kn1_of2 hk)) fun z => by rw [hx] at z; cases z) ?_
    show Da.bl _ = Da.bl _
    rw [hx]
    cases x <;> first | rfl | cases hx
  cases x with
  | tup es =>
    have hk' : es.all kn1 = true := hk
    by_cases hl : es.length = 2
    · match es, hl with
      | [x, y], _ =>
        have hx : kn1 x = true := List.all_eq_true.mp hk' x (by simp)
        have hy : kn1 y = true := List.all_eq_true.mp hk' y (by simp)
        refine run_ret (d := .bl (true && (decide ((2 : Int) = 2) && (isNum x && isNum y)))) (ev_andV ?_ fun _ => ev_andV ?_ fun _ => ev_andV ?_ fun _ => ?_) ?_
        · exact ev_isTup (d := .tup [x, y]) (ev_var rfl) rfl
        · exact ev_eqI (ev_lenT (ds := [x, y]) (ev_var rfl)) ev_int
        · exact ev_call (ds := [x]) (ea_cons (ev_ixT (ds := [x, y]) (ev_var rfl) ev_int rfl) ea_nil) ⟨x, rfl, hx, rfl⟩
        · exact ev_call (ds := [y]) (ea_cons (ev_ixT (ds := [x, y]) (ev_var rfl) ev_int rfl) ea_nil) ⟨y, rfl, hy, rfl⟩
        · show Da.bl _ = Da.bl _
          simp [isPair]
    · refine run_ret (d := .bl (true && (decide ((es.length : Int) = 2) && true))) (ev_andV ?_ fun _ => ev_andV ?_ fun z => ?_) ?_
      · exact ev_isTup (d := .tup es) (ev_var rfl) rfl
      · exact ev_eqI (ev_lenT (ds := es) (ev_var rfl)) ev_int
      · rw [decide_eq_true_eq] at z
        omega
      · show Da.bl _ = Da.bl _
        have e1 : decide ((es.length : Int) = 2) = false := by
          rw [decide_eq_false_iff_not]
          omega
        rw [e1]
        have e2 : isPair (.tup es) = false := by
          unfold isPair
          split
          · rename_i heq
            cases heq
            simp at hl
          · rfl
        rw [e2]
        rfl
  | _ => exact no rfl
theorem all_stones {ds : List Da} (hk : ds.all kn2 = true) (hl : ds.length ≤ 1000) {env : En} {i : Nat} {te : TE} (ht : EvE K te env (.lst ds)) (hi : ∀ d, (wipeE env [i]).set i (.im d) = (wipeE env [i]).set i (.im d))
    (hv : ∀ d, ((wipeE env [i]).set i (.im d))[i]? = some (.im d)) :
    EvE K (tCB (L2.rAll K) (tCons (tLc (iList K te) (gName i) tYes (tAndV (tCall (sp_is_pair K C) [] E0 (tCons (tVar i) tNil)) (tOp rGtI (tOp (rIxT K) (tVar i) (tC (.int 1))) (tC (.int 0)))) [i]) tNil)) env (.bl (ds.all stoneB)) := by
  refine (ev_all (bs := (ds.filter fun _ => true).map stoneB) (ev_new ?_)).is (by rw [List.filter_eq_self.mpr fun _ _ => rfl, List.all_map]; rfl)
  refine (en_lc (us := [i]) (fun d : Da => d) (fun _ => true) (fun d => Da.bl (stoneB d)) ds (by rw [List.map_id']; exact wk_list ht) (by simp) (by omega) fun d hd => ⟨_, tc_name, eb_yes, fun _ => ?_⟩).is (by rw [List.map_map]; rfl)
  have hkd := List.all_eq_true.mp hk d hd
  refine (ev_andV (a := isPair d) (b := decide (0 < hgtD d)) ?_ fun z => ?_)
  · exact ev_call (ds := [d]) (ea_cons (ev_var (hv d)) ea_nil) ⟨d, rfl, hkd, rfl⟩
  · obtain ⟨p, q, rfl⟩ := pair_is z
    exact ev_gt (ev_ixT (ds := [.int p, .int q]) (ev_var (hv _)) ev_int rfl) ev_int
theorem run_check_row {X : XK} {ds : List Da} {o : Out} (h : P_check_row C ds o) : Run K (t_check_row K C X) (ent ds 2) (retR X o) := by
  obtain ⟨d, rfl, hk, rfl⟩ := h
  have bad : isLst d = false → Run K (t_check_row K C X) (ent [d] 2) (retR X (if rowB d = true then .rt .non else .ex C.BadRow)) := fun hx => by
    have hr : rowB d = false := by cases d <;> first | rfl | cases hx
    rw [if_neg (by rw [hr]; simp)]
    refine run_seq (run_if (b := !isLst d || true) (eb_or (eb_not (eb_B (ev_isLst (ev_var rfl) (kn1_of3 hk)))) fun z => by rw [hx] at z; cases z) (fun _ => run_raise rfl) fun z => by rw [hx] at z; cases z)
  cases d with
  | lst es =>
    have hk' : (decide (es.length ≤ 1000) && es.all kn2) = true := hk
    rw [Bool.and_eq_true, decide_eq_true_eq] at hk'
    refine run_seq (run_if (b := !true || !(es.all stoneB)) (eb_or (eb_not (eb_B (ev_isLst (d := .lst es) (ev_var rfl) rfl))) fun _ => eb_not (eb_B (all_stones hk'.2 hk'.1 (ev_var rfl) (fun _ => rfl) fun _ => rfl))) (fun z => run_raise ?_) fun z => run_next ?_)
    · have hr : rowB (.lst es) = false := by
        show (es.all stoneB && _) = false
        have : es.all stoneB = false := by simpa using z
        rw [this]
        rfl
      show (if rowB (.lst es) = true then Out.rt .non else .ex C.BadRow) = _
      rw [hr]
      rfl
    · have hs : es.all stoneB = true := by simpa using z
      have er := row_of hs
      obtain ⟨row, hrow⟩ : ∃ row, row = rowOf es := ⟨_, rfl⟩
      rw [← hrow] at er
      have hl : row.length ≤ 1000 := by
        rw [hrow]
        unfold rowOf
        rw [List.length_map]
        exact hk'.1
      have e2 : rowB (.lst es) = incB row := by
        show (es.all stoneB && incB (rowOf es)) = _
        rw [hs, ← hrow]
        rfl
      rw [e2, er]
      refine run_if (b := !(incB row)) (eb_not (eb_B ?_)) (fun z => run_raise ?_) fun z => run_next ?_
      · refine (ev_all (bs := ((List.range ((row.length : Int) - 1).toNat).filter fun _ => true).map fun k => decide (plc row (1 + (k : Nat) - 1) < plc row (1 + (k : Nat)))) ?_).is ?_
        · refine ev_new ?_
          refine (en_lc (us := [2]) (fun k : Nat => Da.int (1 + (k : Nat))) (fun _ => true) (fun k => Da.bl (decide (plc row (1 + (k : Nat) - 1) < plc row (1 + (k : Nat))))) (List.range ((row.length : Int) - 1).toNat) ?_ (by simp) (by rw [List.length_range]; omega) fun k hk => ⟨_, tc_name, eb_yes, fun _ => ?_⟩).is (by rw [List.map_map]; rfl)
          · refine wk_rng2 ev_int (ev_lenR (ev_var rfl)) ?_
            omega
          · have hk' := List.mem_range.mp hk
            refine ev_lt (ev_row0 (ev_var rfl) (ev_sub (ev_var rfl) ev_int) (by omega) (by omega)) (ev_row0 (ev_var rfl) (ev_var rfl) (by omega) (by omega))
        · rw [List.filter_eq_self.mpr fun _ _ => rfl, List.all_map]
          rfl
      · show (if incB row = true then Out.rt .non else .ex C.BadRow) = _
        have : incB row = false := by simpa using z
        rw [this]
        rfl
      · show (if incB row = true then Out.rt .non else .ex C.BadRow) = _
        have : incB row = true := by simpa using z
        rw [this]
        rfl
  | sq es => cases hk
  | _ => exact bad rfl
end
end FX

/-! Texts in readings. -/
namespace FX
open PySem L2 Evl FR
open PySem.Spec PyProof.Rows
def rLenSt : List V → Hp → VK → Prop := fun xs H Q => ∃ z, xs = [.str z] ∧ z.length ≤ sizeLine ∧ Q (.int z.length) H
def rStrI : List V → Hp → VK → Prop := fun xs H Q => ∃ i, xs = [.int i] ∧ i.natAbs.log2 < 1920 ∧ Q (.str (toString i)) H
def rIntS : List V → Hp → VK → Prop := fun xs H Q => ∃ a n, xs = [.str a] ∧ PySem.intText? a = some n ∧ a.length ≤ 640 ∧ Q (.int n) H
def rSplit : V → List V → Hp → VK → Prop := fun x xs H Q => ∃ a b, x = .str a ∧ xs = [.str b] ∧ (b.length == 0) = false ∧ a.length + 2 ≤ sizeLine ∧ rNewStrs (Txt.split a b) H Q
def rPart : V → List V → Hp → VK → Prop := fun x xs H Q => ∃ a b, x = .str a ∧ xs = [.str b] ∧ (b.length == 0) = false ∧ a.length ≤ sizeLine ∧
  ∀ p, H p = none → Q (.ref p) (upd H p (.tup [.str (Txt.partition a b).1, .str (Txt.partition a b).2.1, .str (Txt.partition a b).2.2]))
def rJoin (K : PySem.W.Frag) : V → List V → Hp → VK → Prop := fun x xs H Q => ∃ a p, ∃ ys : List Str, x = .str a ∧ xs = [.ref p] ∧ (SqL K H p (ys.map V.str) ∨ SqT K H p (ys.map V.str)) ∧
  (ys.map (·.length)).sum + ys.length * a.length ≤ 16777216 ∧ Q (.str (Txt.join a ys)) H
def rStarts : V → List V → Hp → VK → Prop := fun x xs H Q => ∃ a b, x = .str a ∧ xs = [.str b] ∧ Q (.bl (Txt.startswith a b)) H
def rStripC : V → List V → Hp → VK → Prop := fun x xs H Q => ∃ a b, x = .str a ∧ xs = [.str b] ∧ a.length ≤ sizeLine ∧ Q (.str (Txt.stripChars a b)) H
def rInSign : R2 := fun x y H Q => ∃ (c : Nat) (z : Str), x = .str ⟨#[c]⟩ ∧ y = .str z ∧ Q (.bl (decide (c ∈ z.cps.toList))) H
/-- n times a text -/
def rMulS : R2 := fun x y H Q => ∃ (z : Str) (n : Nat), x = .str z ∧ y = .int (n : Int) ∧ (2 ≤ n ∧ n ≤ 100000) ∧ (1 ≤ z.length ∧ z.length ≤ 100) ∧ Q (.str ⟨(List.replicate n z.cps).foldl (· ++ ·) #[]⟩) H
theorem op_mulS {X : Cx} : OpR X (binaryOp .Mult) rMulS := by
  intro pins s σ H x y v u Q I rx ry h
  obtain ⟨z, n, rfl, rfl, hn, hz, q⟩ := h
  obtain ⟨t, rfl⟩ := rx
  obtain ⟨t', rfl⟩ := ry
  have e1 : ((n : Int) == 1 || z.length == 0) = false := by
    rw [Bool.or_eq_false_iff]
    constructor
    · rw [beq_eq_false_iff_ne]
      omega
    · rw [beq_eq_false_iff_ne]
      omega
  have e2 : ¬ (n : Int) < 1 := by omega
  refine PySem.P.mul_str ?_ (fun _ _ => ?_) (fun _ _ => ?_) ?_
  · rw [Bool.or_eq_false_iff, decide_eq_false_iff_not, decide_eq_false_iff_not]
    omega
  · have h1 : (100 : Int) ≤ (2 ^ 63 - 1) / (n : Int) := by
      rw [Int.le_ediv_iff_mul_le (by omega)]
      omega
    omega
  · have h1 : z.length * (n : Int).toNat ≤ 100 * 100000 := by
      rw [Int.toNat_natCast]
      exact Nat.mul_le_mul hz.2 hn.2
    show decide (_ > sizeLine) = false
    rw [decide_eq_false_iff_not, sizeLine_eq]
    omega
  · rw [if_neg e2, e1, if_neg Bool.false_ne_true, Int.toNat_natCast]
    refine ⟨?_, ⟨.str ⟨(List.replicate n z.cps).foldl (· ++ ·) #[]⟩, H, I.tok _, ⟨_, rfl⟩, q⟩⟩
    have hs : ∀ (k : Nat) (a : Array Nat), ((List.replicate k z.cps).foldl (· ++ ·) a).size = a.size + k * z.length := by
      intro k
      induction k with
      | zero => intro a; simp
      | succ k ih =>
        intro a
        rw [List.replicate_succ, List.foldl_cons, ih, Array.size_append, Nat.succ_mul]
        show a.size + z.length + _ = _
        omega
    show ((List.replicate n z.cps).foldl (· ++ ·) #[]).size ≤ sizeLine
    rw [hs, sizeLine_eq]
    have := Nat.mul_le_mul hn.2 hz.2
    simp only [Array.size_empty, Nat.zero_add]
    omega
theorem mul_tl (z : Str) (n : Nat) : TL.tl ⟨(List.replicate n z.cps).foldl (· ++ ·) #[]⟩ = (List.replicate n (TL.tl z)).flatten := by
  have hs : ∀ (k : Nat) (a : Array Nat), ((List.replicate k z.cps).foldl (· ++ ·) a).toList = a.toList ++ (List.replicate k (TL.tl z)).flatten := by
    intro k
    induction k with
    | zero => intro a; simp
    | succ k ih =>
      intro a
      rw [List.replicate_succ, List.foldl_cons, ih, List.replicate_succ, List.flatten_cons, Array.toList_append, List.append_assoc]
  show ((List.replicate n z.cps).foldl (· ++ ·) #[]).toList = _
  rw [hs]
  rfl
section
variable {K : PySem.W.Frag} {env : En} {te ta tb tc : TE} {x y z : Str} {i : Int}
theorem ev_eqS (ha : EvE K ta env (.str x)) (hb : EvE K tb env (.str y)) : EvE K (tOp rEq ta tb) env (.bl (decide (x = y))) :=
  ev_op ha hb fun B H v w e r1 r2 Q q => by
    simp only [Rp] at r1 r2
    subst r1 r2
    refine ⟨rfl, q _ B H (Gr.refl e) ?_⟩
    simp only [Rp, V.str.injEq]
theorem ev_neS (ha : EvE K ta env (.str x)) (hb : EvE K tb env (.str y)) : EvE K (tOp rNe ta tb) env (.bl (!decide (x = y))) :=
  ev_op ha hb fun B H v w e r1 r2 Q q => by
    simp only [Rp] at r1 r2
    subst r1 r2
    refine ⟨rfl, q _ B H (Gr.refl e) ?_⟩
    simp only [Rp, V.str.injEq]
theorem ev_catS (ha : EvE K ta env (.str x)) (hb : EvE K tb env (.str y)) (hl : x.length + y.length ≤ 1000000) : EvE K (tOp rCatS ta tb) env (.str (x ++ y)) :=
  ev_op ha hb fun B H v w e r1 r2 Q q => by
    simp only [Rp] at r1 r2
    subst r1 r2
    exact ⟨x, y, rfl, rfl, by rw [sizeLine_eq]; omega, q _ B H (Gr.refl e) (by simp only [Rp])⟩
theorem ev_mulS {n : Nat} (ha : EvE K ta env (.str x)) (hb : EvE K tb env (.int (n : Int))) (hn : 2 ≤ n ∧ n ≤ 100000) (hz : 1 ≤ x.length ∧ x.length ≤ 100) : EvE K (tOp rMulS ta tb) env (.str ⟨(List.replicate n x.cps).foldl (· ++ ·) #[]⟩) :=
  ev_op ha hb fun B H v w e r1 r2 Q q => by
    simp only [Rp] at r1 r2
    subst r1 r2
    exact ⟨x, n, rfl, rfl, hn, hz, q _ B H (Gr.refl e) (by simp only [Rp])⟩
theorem ev_lenS (ha : EvE K ta env (.str x)) (hl : x.length ≤ 1000000) : EvE K (tCB rLenSt (tCons ta tNil)) env (.int (x.length : Int)) :=
  ev_cb (FR.ea_cons ha FR.ea_nil) fun B H vs e r Q q => by
    obtain ⟨v, rfl, h1⟩ := one_rp r
    simp only [Rp] at h1
    subst h1
    exact ⟨x, rfl, by rw [sizeLine_eq]; omega, q _ B H (Gr.refl e) (by simp only [Rp])⟩
theorem ev_strI (ha : EvE K ta env (.int i)) (hl : i.natAbs.log2 < 1920) : EvE K (tCB rStrI (tCons ta tNil)) env (.str (toString i)) :=
  ev_cb (FR.ea_cons ha FR.ea_nil) fun B H vs e r Q q => by
    obtain ⟨v, rfl, h1⟩ := one_rp r
    simp only [Rp] at h1
    subst h1
    exact ⟨i, rfl, hl, q _ B H (Gr.refl e) (by simp only [Rp])⟩
theorem ev_intS (ha : EvE K ta env (.str x)) (hn : PySem.intText? x = some i) (hl : x.length ≤ 640) : EvE K (tCB rIntS (tCons ta tNil)) env (.int i) :=
  ev_cb (FR.ea_cons ha FR.ea_nil) fun B H vs e r Q q => by
    obtain ⟨v, rfl, h1⟩ := one_rp r
    simp only [Rp] at h1
    subst h1
    exact ⟨x, i, rfl, hn, hl, q _ B H (Gr.refl e) (by simp only [Rp])⟩
theorem ev_ixS {c : Nat} (ha : EvE K ta env (.str x)) (hb : EvE K tb env (.int i)) (hl : x.length ≤ 1000000) (h : atI (TL.tl x) i = some c) : EvE K (tOp rIxS ta tb) env (.str ⟨#[c]⟩) :=
  ev_op ha hb fun B H v w e r1 r2 Q q => by
    simp only [Rp] at r1 r2
    subst r1 r2
    exact ⟨x, i, c, rfl, rfl, by rw [sizeLine_eq]; omega, h, q _ B H (Gr.refl e) (by simp only [Rp])⟩
theorem ev_inSign {c : Nat} (ha : EvE K ta env (.str ⟨#[c]⟩)) (hb : EvE K tb env (.str z)) : EvE K (tOp rInSign ta tb) env (.bl (decide (c ∈ TL.tl z))) :=
  ev_op ha hb fun B H v w e r1 r2 Q q => by
    simp only [Rp] at r1 r2
    subst r1 r2
    exact ⟨c, z, rfl, rfl, q _ B H (Gr.refl e) (by simp only [Rp])⟩
theorem ev_slS {tl th : TO} {lo hi : Option Int} (h : EvE K te env (.str z)) (hl : z.length ≤ 1000000) (h1 : EvO K tl env lo) (h2 : EvO K th env hi) : EvE K (tSl rSlS te tl th) env (.str (cutS z lo hi)) := fun σ B s H1 e Q q =>
  h σ B s H1 e _ fun v B2 H2 g2 r2 => h1 σ B2 (s.mono g2.b) H2 g2.h _ fun H3 e3 => h2 σ B2 (s.mono g2.b) H3 (g2.h.trans e3) _ fun H4 e4 => by
    simp only [Rp] at r2
    subst r2
    exact ⟨z, rfl, by rw [sizeLine_eq]; omega, q _ B2 H4 (g2.trans (Gr.keep g2.h (e3.trans e4))) (by simp only [Rp])⟩
/-- a method of a text with one argument -/
theorem ev_m1 {r : V → List V → Hp → VK → Prop} {d d2 : Da} (ha : EvE K ta env (.str x)) (hb : EvE K tb env d2) (hr : ∀ B H w, Ex B H → Rp K B d2 w → ∀ Q : VK, (∀ u B' H2, Gr B H B' H2 → Rp K B' d u → Q u H2) → r (.str x) [w] H Q) : EvE K (tM1 r ta tb) env d := fun σ B s H1 e Q q =>
  ha σ B s H1 e _ fun v B2 H2 g2 r2 => by
    simp only [Rp] at r2
    subst r2
    exact ⟨⟨x, rfl⟩, hb σ B2 (s.mono g2.b) H2 g2.h _ fun w B3 H3 g3 r3 => hr B3 H3 w g3.h r3 Q fun u B4 H4 g4 r4 => q u B4 H4 ((g2.trans g3).trans g4) r4⟩
theorem ev_starts (ha : EvE K ta env (.str x)) (hb : EvE K tb env (.str y)) : EvE K (tM1 rStarts ta tb) env (.bl (Txt.startswith x y)) :=
  ev_m1 ha hb fun B H w e r Q q => by
    simp only [Rp] at r
    subst r
    exact ⟨x, y, rfl, rfl, q _ B H (Gr.refl e) (by simp only [Rp])⟩
theorem ev_stripC (ha : EvE K ta env (.str x)) (hb : EvE K tb env (.str y)) (hl : x.length ≤ 1000000) : EvE K (tM1 rStripC ta tb) env (.str (Txt.stripChars x y)) :=
  ev_m1 ha hb fun B H w e r Q q => by
    simp only [Rp] at r
    subst r
    exact ⟨x, y, rfl, rfl, by rw [sizeLine_eq]; omega, q _ B H (Gr.refl e) (by simp only [Rp])⟩
theorem strs_rp {B : Hp} : ∀ (ys : List Str), RpAll K B (ys.map Da.str) (ys.map V.str)
  | [] => .nil
  | y :: ys => .cons (by simp only [Rp]) (strs_rp ys)
theorem rp_strs {B : Hp} : ∀ {ys : List Str} {vs : List V}, RpAll K B (ys.map Da.str) vs → vs = ys.map V.str
  | [], vs, h => by simpa only [RpAll, List.map_nil] using h
  | n :: ns, vs, h => by
    rw [List.map_cons] at h ⊢
    obtain ⟨v, r, rfl, h2, h3⟩ := h.uncons
    have e : v = V.str n := by simpa only [Rp] using h2
    rw [e, rp_strs h3]
theorem ev_split (ha : EvE K ta env (.str x)) (hb : EvE K tb env (.str y)) (hy : (y.length == 0) = false) (hl : x.length ≤ 1000000) : EvE K (tM1 rSplit ta tb) env (.lst ((Txt.split x y).map Da.str)) :=
  ev_m1 ha hb fun B H w e r Q q => by
    simp only [Rp] at r
    subst r
    refine ⟨x, y, rfl, rfl, hy, by rw [sizeLine_eq]; omega, fun p hp => q _ (upd B p (.lst ((Txt.split x y).map V.str))) _ (Gr.lay e hp) ?_⟩
    simp only [Rp]
    exact ⟨p, _, rfl, upd_same, strs_rp _⟩
theorem ev_part (ha : EvE K ta env (.str x)) (hb : EvE K tb env (.str y)) (hy : (y.length == 0) = false) (hl : x.length ≤ 1000000) : EvE K (tM1 rPart ta tb) env (.tup [.str (Txt.partition x y).1, .str (Txt.partition x y).2.1, .str (Txt.partition x y).2.2]) :=
  ev_m1 ha hb fun B H w e r Q q => by
    simp only [Rp] at r
    subst r
    refine ⟨x, y, rfl, rfl, hy, by rw [sizeLine_eq]; omega, fun p hp => q _ (upd B p (.tup [.str (Txt.partition x y).1, .str (Txt.partition x y).2.1, .str (Txt.partition x y).2.2])) _ (Gr.lay e hp) ?_⟩
    simp only [Rp]
    exact ⟨p, _, rfl, upd_same, .cons (by simp only [Rp]) (.cons (by simp only [Rp]) (.cons (by simp only [Rp]) .nil))⟩
theorem ev_join {ys : List Str} (ha : EvE K ta env (.str x)) (hb : EvE K tb env (.lst (ys.map Da.str))) (hl : (ys.map (·.length)).sum + ys.length * x.length ≤ 1000000) : EvE K (tM1 (rJoin K) ta tb) env (.str (Txt.join x ys)) :=
  ev_m1 ha hb fun B H w e r Q q => by
    simp only [Rp] at r
    obtain ⟨a, xs, rfl, h2, h3⟩ := r
    have z := rp_strs h3
    subst z
    exact ⟨x, a, ys, rfl, rfl, .inl (sq_of (e _ _ h2)), by omega, q _ B H (Gr.refl e) (by simp only [Rp])⟩
def sign (c : Nat) : Da := .str ⟨#[c]⟩
theorem wk_str (h : EvE K te env (.str x)) : WkE K (iStr te) env ((TL.tl x).map sign) := fun σ B s H1 e R q =>
  h σ B s H1 e _ fun v B2 H2 g r => by
    simp only [Rp] at r
    subst r
    refine ⟨x, rfl, ?_⟩
    have hl : x.cps.size = ((TL.tl x).map sign).length := by
      rw [List.length_map]
      exact (Array.length_toList ..).symm
    have w : Walk (Its x) ((TL.tl x).map sign).length (fun _ => True) (fun i H v H' => H' = H ∧ ∃ c, x.cps[i]? = some c ∧ v = .str ⟨#[c]⟩) := by
      rw [← hl]
      exact walk_str
    refine q _ B2 H2 _ _ g w (fun _ _ => trivial) fun i H v H' Bi eb eh y => ?_
    obtain ⟨rfl, c, hc, rfl⟩ := y
    refine ⟨sign c, Bi, ?_, Gr.refl eh, by simp only [sign, Rp]⟩
    rw [List.getElem?_map]
    have : (TL.tl x)[i]? = some c := by
      show x.cps.toList[i]? = some c
      rw [Array.getElem?_toList]
      exact hc
    rw [this]
    rfl
end
end FX

/-! Texts as lists of signs: numbers, words, rows read and written. -/
namespace FX
open PySem L2 Evl FR SX
open PySem.Spec PyProof.Rows
abbrev Cs := List Nat
def isFig (c : Nat) : Bool := decide (48 ≤ c) && decide (c ≤ 57)
def figsOf : Cs → Cs
  | [] => []
  | c :: r => if c = 45 then r else c :: r
/-- a word that writes a number -/
def okW (w : Cs) : Bool := (decide (1 ≤ (figsOf w).length) && decide ((figsOf w).length ≤ 60)) && ((figsOf w).all isFig && !(decide ((figsOf w).head? = some 48) && !decide (w = [48])))
def valW : Cs → Int
  | [] => 0
  | c :: r => if c = 45 then -((NumText.digitsVal r : Nat) : Int) else ((NumText.digitsVal (c :: r) : Nat) : Int)
theorem val_neg (r : Cs) : valW (45 :: r) = -((NumText.digitsVal r : Nat) : Int) := rfl
theorem val_pos {c : Nat} {r : Cs} (h : ¬ c = 45) : valW (c :: r) = ((NumText.digitsVal (c :: r) : Nat) : Int) := if_neg h
theorem figs_neg (r : Cs) : figsOf (45 :: r) = r := rfl
theorem figs_pos {c : Nat} {r : Cs} (h : ¬ c = 45) : figsOf (c :: r) = c :: r := if_neg h
theorem figs_len : ∀ w : Cs, w.length ≤ (figsOf w).length + 1
  | [] => by decide
  | c :: r => by
    by_cases h : c = 45
    · subst h
      rw [figs_neg, List.length_cons]
      exact Nat.le_refl _
    · rw [figs_pos h]
      omega
/-- a number's text -/
def numT (i : Int) : Cs := TL.tl (Str.ofString (toString i))
theorem figs_all {l : Cs} (h : l.all isFig = true) : NumText.AllDigits l := fun c hc => by
  have := List.all_eq_true.mp h c hc
  unfold isFig at this
  rw [Bool.and_eq_true, decide_eq_true_eq, decide_eq_true_eq] at this
  exact this
theorem okW_iff {w : Cs} : okW w = true ↔ (1 ≤ (figsOf w).length ∧ (figsOf w).length ≤ 60) ∧ NumText.AllDigits (figsOf w) ∧ ¬ ((figsOf w).head? = some 48 ∧ w ≠ [48]) := by
  unfold okW
  rw [Bool.and_eq_true, Bool.and_eq_true, Bool.and_eq_true, decide_eq_true_eq, decide_eq_true_eq]
  constructor
  · rintro ⟨h1, h2, h3⟩
    refine ⟨h1, figs_all h2, fun ⟨z1, z2⟩ => ?_⟩
    rw [decide_eq_true z1, decide_eq_false z2] at h3
    cases h3
  · rintro ⟨h1, h2, h3⟩
    refine ⟨h1, List.all_eq_true.mpr fun c hc => ?_, ?_⟩
    · unfold isFig
      rw [Bool.and_eq_true, decide_eq_true_eq, decide_eq_true_eq]
      exact h2 c hc
    · by_cases z1 : (figsOf w).head? = some 48
      · by_cases z2 : w = [48]
        · rw [decide_eq_true z2]
          simp
        · exact absurd ⟨z1, z2⟩ h3
      · rw [decide_eq_false z1]
        rfl
theorem int_ofW {x : Str} (h : okW (TL.tl x) = true) : intText? x = some (valW (TL.tl x)) := by
  obtain ⟨⟨h1, h2⟩, h3, h4⟩ := okW_iff.mp h
  cases e : TL.tl x with
  | nil =>
    rw [e] at h1
    cases h1
  | cons c r =>
    rw [e] at h1 h2 h3
    have hl : x.length ≤ 4300 := by
      rw [TL.len_tl, e]
      have := figs_len (c :: r)
      omega
    by_cases hc : c = 45
    · subst hc
      rw [val_neg]
      have ef : figsOf (45 :: r) = r := rfl
      rw [ef] at h1 h3
      exact intText_neg e h3 (by intro z; rw [z] at h1; cases h1) hl
    · rw [val_pos hc]
      have ef : figsOf (c :: r) = c :: r := if_neg hc
      rw [ef] at h3
      have := intText_digits (x := x) (by show NumText.AllDigits (TL.tl x); rw [e]; exact h3) (by show TL.tl x ≠ []; rw [e]; simp) hl
      rw [this]
      show some ((NumText.digitsVal (TL.tl x) : Nat) : Int) = _
      rw [e]
theorem chars_back {l : Cs} (h : NumText.AllDigits l) : (l.map Char.ofNat).map Char.toNat = l := by
  rw [List.map_map]
  refine (List.map_congr_left fun c hc => ?_).trans (List.map_id l)
  have hd := h c hc
  have : ∀ d : Nat, d < 10 → (Char.ofNat (48 + d)).toNat = 48 + d := by decide
  have := this (c - 48) (by omega)
  rw [show 48 + (c - 48) = c by omega] at this
  exact this
/-- figures without a needless nought are their number's -/
theorem numL_back {l : Cs} (h1 : 1 ≤ l.length) (h : NumText.AllDigits l) (h0 : l.length = 1 ∨ l.head? ≠ some 48) : TL.numL (NumText.digitsVal l) = l := by
  unfold TL.numL
  have e := NumText.toDigits_digitsVal (l.length - 1) l (by omega) h (by
    rcases h0 with h0 | h0
    · left
      omega
    · right
      cases l with
      | nil => cases h1
      | cons c r =>
        have hc := h c (List.mem_cons_self ..)
        have : c ≠ 48 := fun z => h0 (by rw [z]; rfl)
        exact ⟨c, r, rfl, by omega⟩)
  rw [e]
  exact chars_back h
theorem numT_nat (n : Nat) : numT (n : Int) = TL.numL n := TL.tl_num n
theorem tl_strcat (s t : String) : TL.tl (Str.ofString (s ++ t)) = TL.tl (Str.ofString s) ++ TL.tl (Str.ofString t) := by
  rw [TL.tl_ofString, TL.tl_ofString, TL.tl_ofString, String.toList_append, List.map_append]
theorem numT_neg {n : Nat} (h : 0 < n) : numT (-(n : Int)) = 45 :: TL.numL n := by
  unfold numT
  rw [PyProof.Rows.toString_neg (by omega : -(n : Int) < 0), tl_strcat]
  have e : (0 : Int) - -(n : Int) = n := by omega
  rw [e, TL.tl_num]
  rfl
theorem text_ofW {w : Cs} (h : okW w = true) : numT (valW w) = w := by
  obtain ⟨⟨h1, h2⟩, h3, h4⟩ := okW_iff.mp h
  cases w with
  | nil => cases h1
  | cons c r =>
    by_cases hc : c = 45
    · subst hc
      rw [val_neg]
      have ef : figsOf (45 :: r) = r := rfl
      rw [ef] at h1 h3 h4
      have h0 : r.head? ≠ some 48 := fun z => h4 ⟨z, by simp⟩
      have hp : 0 < NumText.digitsVal r := by
        cases r with
        | nil => cases h1
        | cons d s =>
          have hd := h3 d (List.mem_cons_self ..)
          have : d ≠ 48 := fun z => h0 (by rw [z]; rfl)
          exact NumText.digitsVal_pos (by omega)
      rw [numT_neg hp, numL_back h1 h3 (.inr h0)]
    · rw [val_pos hc]
      have ef : figsOf (c :: r) = c :: r := if_neg hc
      rw [ef] at h1 h3 h4
      rw [numT_nat]
      refine numL_back h1 h3 ?_
      by_cases z : (c :: r : Cs).head? = some 48
      · left
        have : (c :: r : Cs) = [48] := Classical.byContradiction fun q => h4 ⟨z, q⟩
        rw [this]
        rfl
      · exact .inr z
theorem fold_lt : ∀ (l : Cs) (a : Nat), NumText.AllDigits l → l.foldl (fun acc c => acc * 10 + (c - 48)) a < (a + 1) * 10 ^ l.length
  | [], a, _ => by simp
  | c :: l, a, h => by
    have hc := h c (List.mem_cons_self ..)
    have ih := fold_lt l (a * 10 + (c - 48)) fun d hd => h d (List.mem_cons_of_mem _ hd)
    rw [List.foldl_cons, List.length_cons, Nat.pow_succ]
    refine Nat.lt_of_lt_of_le ih ?_
    have h1 : a * 10 + (c - 48) + 1 ≤ (a + 1) * 10 := by omega
    have h2 := Nat.mul_le_mul_right (10 ^ l.length) h1
    refine Nat.le_trans h2 ?_
    rw [Nat.mul_assoc, Nat.mul_comm 10 (10 ^ l.length)]
    exact Nat.le_refl _
theorem val_lt {l : Cs} (h : NumText.AllDigits l) : NumText.digitsVal l < 10 ^ l.length := by
  have := fold_lt l 0 h
  rw [Nat.zero_add, Nat.one_mul] at this
  exact this
theorem valW_lt {w : Cs} (h : okW w = true) : -(10 ^ 60) < valW w ∧ valW w < 10 ^ 60 := by
  obtain ⟨⟨h1, h2⟩, h3, h4⟩ := okW_iff.mp h
  have h5 := val_lt h3
  have h6 : (10 : Nat) ^ (figsOf w).length ≤ 10 ^ 60 := Nat.pow_le_pow_right (by decide) h2
  have h7 : ((10 ^ 60 : Nat) : Int) = 10 ^ 60 := by decide +kernel
  have key : ((NumText.digitsVal (figsOf w) : Nat) : Int) < 10 ^ 60 := by
    rw [← h7]
    omega
  cases w with
  | nil => cases h1
  | cons c r =>
    by_cases hc : c = 45
    · subst hc
      rw [val_neg]
      rw [figs_neg] at key
      constructor
      · omega
      · have : (0 : Int) < 10 ^ 60 := by decide +kernel
        omega
    · rw [val_pos hc]
      rw [figs_pos hc] at key
      refine ⟨?_, key⟩
      have : (0 : Int) < 10 ^ 60 := by decide +kernel
      omega
/-! ### cut at a sign -/
def cut (s : Nat) : Cs → List Cs
  | [] => [[]]
  | c :: r => if c = s then [] :: cut s r else match cut s r with
    | [] => [[c]]
    | p :: ps => (c :: p) :: ps
theorem cut_ne (s : Nat) : ∀ l : Cs, ∃ p ps, cut s l = p :: ps
  | [] => ⟨[], [], rfl⟩
  | c :: r => by
    unfold cut
    by_cases h : c = s
    · rw [if_pos h]
      exact ⟨_, _, rfl⟩
    · rw [if_neg h]
      obtain ⟨p, ps, e⟩ := cut_ne s r
      rw [e]
      exact ⟨_, _, rfl⟩
theorem cut_eq {s : Nat} {r : Cs} : cut s (s :: r) = [] :: cut s r := by
  show (if s = s then _ else _) = _
  rw [if_pos rfl]
theorem cut_no {s c : Nat} {r p : Cs} {ps : List Cs} (h : c ≠ s) (e : cut s r = p :: ps) : cut s (c :: r) = (c :: p) :: ps := by
  show (if c = s then _ else match cut s r with | [] => [[c]] | p :: ps => (c :: p) :: ps) = _
  rw [if_neg h, e]
theorem pre_one {s c : Nat} {r : Cs} : TL.pre [s] (c :: r) = decide (c = s) := by
  by_cases h : c = s
  · subst h
    rw [decide_eq_true rfl]
    exact TL.pre_self [c] r
  · rw [decide_eq_false h]
    exact TL.pre_of_head [] r h
theorem spl_cut (s : Nat) : ∀ (l acc p : Cs) (ps : List Cs), cut s l = p :: ps → TL.spl [s] 0 acc l = (acc ++ p) :: ps
  | [], acc, p, ps, h => by
    cases h
    rw [TL.spl_nil, List.append_nil]
  | c :: r, acc, p, ps, h => by
    by_cases e : c = s
    · subst e
      rw [cut_eq] at h
      cases h
      rw [TL.spl_hit (by rw [pre_one]; simp), List.append_nil]
      obtain ⟨q, qs, eq⟩ := cut_ne c r
      have := spl_cut c r [] q qs eq
      rw [eq]
      exact congrArg _ this
    · obtain ⟨q, qs, eq⟩ := cut_ne s r
      rw [cut_no e eq] at h
      have h1 := (List.cons.inj h).1
      have h2 := (List.cons.inj h).2
      rw [TL.spl_miss (by rw [pre_one]; simp [e]), spl_cut s r (acc ++ [c]) q qs eq, ← h1, ← h2]
      simp
theorem spl_is (s : Nat) (l : Cs) : TL.spl [s] 0 [] l = cut s l := by
  obtain ⟨p, ps, e⟩ := cut_ne s l
  rw [spl_cut s l [] p ps e, e]
  rfl
theorem join_cut (s : Nat) : ∀ l : Cs, TL.joinL [s] (cut s l) = l
  | [] => rfl
  | c :: r => by
    have ih := join_cut s r
    obtain ⟨q, qs, eq⟩ := cut_ne s r
    by_cases e : c = s
    · subst e
      rw [eq] at ih
      rw [cut_eq, eq]
      show [] ++ ([c] ++ TL.joinL [c] (q :: qs)) = _
      rw [ih]
      rfl
    · rw [cut_no e eq]
      rw [eq] at ih
      cases qs with
      | nil =>
        have : q = r := ih
        rw [← this]
        rfl
      | cons q2 qs =>
        show (c :: q) ++ ([s] ++ TL.joinL [s] (q2 :: qs)) = c :: r
        rw [← ih]
        rfl
theorem cut_len (s : Nat) : ∀ l : Cs, (cut s l).length = l.count s + 1
  | [] => rfl
  | c :: r => by
    have ih := cut_len s r
    obtain ⟨q, qs, eq⟩ := cut_ne s r
    by_cases e : c = s
    · subst e
      rw [cut_eq, List.length_cons, ih, List.count_cons_self]
    · rw [cut_no e eq, List.length_cons, List.count_cons_of_ne e]
      rw [eq] at ih
      exact ih
theorem cut_mem (s : Nat) : ∀ l : Cs, ∀ p ∈ cut s l, p.length ≤ l.length ∧ s ∉ p
  | [], p, hp => by
    rw [show cut s [] = [[]] from rfl, List.mem_singleton] at hp
    subst hp
    simp
  | c :: r, p, hp => by
    have ih := cut_mem s r
    obtain ⟨q, qs, eq⟩ := cut_ne s r
    by_cases e : c = s
    · subst e
      rw [cut_eq] at hp
      rcases List.mem_cons.mp hp with rfl | hp
      · simp
      · have := ih p hp
        exact ⟨by rw [List.length_cons]; omega, this.2⟩
    · rw [cut_no e eq] at hp
      rcases List.mem_cons.mp hp with rfl | hp
      · have := ih q (by rw [eq]; exact List.mem_cons_self ..)
        refine ⟨by rw [List.length_cons, List.length_cons]; omega, fun z => ?_⟩
        rcases List.mem_cons.mp z with z | z
        · exact e z.symm
        · exact this.2 z
      · have := ih p (by rw [eq]; exact List.mem_cons_of_mem _ hp)
        exact ⟨by rw [List.length_cons]; omega, this.2⟩
theorem cut_none {s : Nat} : ∀ {l : Cs}, s ∉ l → cut s l = [l]
  | [], _ => rfl
  | c :: r, h => cut_no (fun z => h (by rw [z]; exact List.mem_cons_self ..)) (cut_none fun z => h (List.mem_cons_of_mem _ z))
theorem cut_some {s : Nat} {q : Cs} : ∀ {p : Cs}, s ∉ p → cut s (p ++ s :: q) = p :: cut s q
  | [], _ => cut_eq
  | c :: r, h => cut_no (fun z => h (by rw [z]; exact List.mem_cons_self ..)) (cut_some fun z => h (List.mem_cons_of_mem _ z))
/-! ### words, rows -/
def colon (w : Cs) : Cs × Cs := match TL.par [58] [] w with
  | some (p, q) => (p, q)
  | none => (w, [])
theorem first_at {s : Nat} : ∀ {w : Cs}, s ∈ w → ∃ p q, w = p ++ s :: q ∧ s ∉ p
  | [], h => by cases h
  | c :: r, h => by
    by_cases hc : c = s
    · exact ⟨[], r, by rw [hc]; rfl, by simp⟩
    · have : s ∈ r := by
        rcases List.mem_cons.mp h with z | z
        · exact absurd z.symm hc
        · exact z
      obtain ⟨p, q, e, hp⟩ := first_at this
      refine ⟨c :: p, q, by rw [e]; rfl, fun z => ?_⟩
      rcases List.mem_cons.mp z with z | z
      · exact hc z.symm
      · exact hp z
theorem colon_cases (w : Cs) : (58 ∉ w ∧ TL.par [58] [] w = none ∧ colon w = (w, []) ∧ cut 58 w = [w]) ∨ ∃ p q, w = p ++ 58 :: q ∧ 58 ∉ p ∧ TL.par [58] [] w = some (p, q) ∧ colon w = (p, q) ∧ cut 58 w = p :: cut 58 q := by
  by_cases h : 58 ∈ w
  · right
    obtain ⟨p, q, e, hp⟩ := first_at h
    have hpar : TL.par [58] [] w = some (p, q) := by
      rw [e]
      exact TL.par_part1 (S := []) (acc := []) hp
    refine ⟨p, q, e, hp, hpar, ?_, ?_⟩
    · unfold colon
      rw [hpar]
    · rw [e]
      exact cut_some hp
  · left
    have hpar : TL.par [58] [] w = none := TL.par_none1 (S := []) (acc := []) h
    refine ⟨h, hpar, ?_, cut_none h⟩
    unfold colon
    rw [hpar]
def wordP (w : Cs) : Option (Int × Int) := if (okW (colon w).1 && okW (colon w).2) = true then some (valW (colon w).1, valW (colon w).2) else none
theorem okW_colon {q : Cs} (h : okW q = true) : 58 ∉ q := by
  obtain ⟨⟨h1, h2⟩, h3, h4⟩ := okW_iff.mp h
  intro hm
  cases q with
  | nil => cases hm
  | cons c r =>
    by_cases hc : c = 45
    · have ef : figsOf (c :: r) = r := if_pos hc
      rw [ef] at h3
      rcases List.mem_cons.mp hm with z | z
      · omega
      · have := h3 58 z
        omega
    · have ef : figsOf (c :: r) = c :: r := if_neg hc
      rw [ef] at h3
      have := h3 58 hm
      omega
theorem okW_nil : okW [] = false := by decide
/-- by the law's look: cut at the colons -/
theorem wordP_cut {w : Cs} : wordP w = match cut 58 w with
    | [p, q] => if (okW p && okW q) = true then some (valW p, valW q) else none
    | _ => none := by
  unfold wordP
  rcases colon_cases w with ⟨h, _, ec, eu⟩ | ⟨p, q, e, hp, _, ec, eu⟩
  · rw [ec, eu]
    show (if (okW w && okW []) = true then _ else _) = none
    rw [okW_nil, Bool.and_false]
    rfl
  · rw [ec, eu]
    by_cases hq : 58 ∈ q
    · have : okW q = false := by
        cases z : okW q with
        | false => rfl
        | true => exact absurd hq (okW_colon z)
      show (if (okW p && okW q) = true then _ else _) = _
      rw [this, Bool.and_false]
      obtain ⟨a, as, ea⟩ := cut_ne 58 q
      have hl := cut_len 58 q
      have hc : 0 < q.count 58 := List.count_pos_iff.mpr hq
      rw [ea] at hl ⊢
      cases as with
      | nil =>
        rw [List.length_singleton] at hl
        omega
      | cons b bs => rfl
    · rw [cut_none hq]
def wordT (p : Int × Int) : Cs := numT p.1 ++ 58 :: numT p.2
theorem wordP_text {w : Cs} {p : Int × Int} (h : wordP w = some p) : wordT p = w := by
  unfold wordP at h
  split at h
  · rename_i hk
    rw [Bool.and_eq_true] at hk
    cases h
    unfold wordT
    rw [text_ofW hk.1, text_ofW hk.2]
    rcases colon_cases w with ⟨_, _, ec, _⟩ | ⟨p, q, e, hp, _, ec, _⟩
    · rw [ec] at hk
      rw [okW_nil] at hk
      cases hk.2
    · rw [ec]
      exact e.symm
  · cases h
theorem wordP_lt {w : Cs} {p : Int × Int} (h : wordP w = some p) : (-(10 ^ 60) < p.1 ∧ p.1 < 10 ^ 60) ∧ (-(10 ^ 60) < p.2 ∧ p.2 < 10 ^ 60) := by
  unfold wordP at h
  split at h
  · rename_i hk
    rw [Bool.and_eq_true] at hk
    cases h
    exact ⟨valW_lt hk.1, valW_lt hk.2⟩
  · cases h
def seqP : List Cs → Option (List (Int × Int))
  | [] => some []
  | w :: ws => match wordP w, seqP ws with
    | some p, some r => some (p :: r)
    | _, _ => none
def writ (row : List (Int × Int)) : Cs := TL.joinL [32] (row.map wordT)
/-- the row that a text writes -/
def readP (t : Cs) : Option (List (Int × Int)) := if t = [] then some [] else match seqP (cut 32 t) with
  | some row => if rowB (rowD row) = true then some row else none
  | none => none
theorem seqP_len : ∀ {ws : List Cs} {row : List (Int × Int)}, seqP ws = some row → row.length = ws.length
  | [], row, h => by
    cases h
    rfl
  | w :: ws, row, h => by
    unfold seqP at h
    cases hw : wordP w with
    | none =>
      rw [hw] at h
      cases h
    | some p =>
      cases hs : seqP ws with
      | none =>
        rw [hw, hs] at h
        cases h
      | some r =>
        rw [hw, hs] at h
        cases h
        rw [List.length_cons, List.length_cons, seqP_len hs]
theorem seqP_text : ∀ {ws : List Cs} {row : List (Int × Int)}, seqP ws = some row → row.map wordT = ws
  | [], row, h => by
    cases h
    rfl
  | w :: ws, row, h => by
    unfold seqP at h
    cases hw : wordP w with
    | none =>
      rw [hw] at h
      cases h
    | some p =>
      cases hs : seqP ws with
      | none =>
        rw [hw, hs] at h
        cases h
      | some r =>
        rw [hw, hs] at h
        cases h
        rw [List.map_cons, wordP_text hw, seqP_text hs]
theorem seqP_lt : ∀ {ws : List Cs} {row : List (Int × Int)}, seqP ws = some row → ∀ p ∈ row, (-(10 ^ 60) < p.1 ∧ p.1 < 10 ^ 60) ∧ (-(10 ^ 60) < p.2 ∧ p.2 < 10 ^ 60)
  | [], row, h, p, hp => by
    cases h
    cases hp
  | w :: ws, row, h, p, hp => by
    unfold seqP at h
    cases hw : wordP w with
    | none =>
      rw [hw] at h
      cases h
    | some p' =>
      cases hs : seqP ws with
      | none =>
        rw [hw, hs] at h
        cases h
      | some r =>
        rw [hw, hs] at h
        cases h
        rcases List.mem_cons.mp hp with rfl | hp
        · exact wordP_lt hw
        · exact seqP_lt hs p hp
theorem seqP_app : ∀ (ws vs : List Cs), seqP (ws ++ vs) = match seqP ws, seqP vs with
    | some a, some b => some (a ++ b)
    | _, _ => none
  | [], vs => by
    show seqP vs = match some [], seqP vs with | some a, some b => some (a ++ b) | _, _ => none
    cases seqP vs <;> rfl
  | w :: ws, vs => by
    show (match wordP w, seqP (ws ++ vs) with | some p, some r => some (p :: r) | _, _ => none) = match (match wordP w, seqP ws with | some p, some r => some (p :: r) | _, _ => none), seqP vs with | some a, some b => some (a ++ b) | _, _ => none
    rw [seqP_app ws vs]
    cases wordP w <;> cases seqP ws <;> cases seqP vs <;> rfl
/-- read, then written: the text -/
theorem readP_text {t : Cs} {row : List (Int × Int)} (h : readP t = some row) : writ row = t := by
  unfold readP at h
  split at h
  · rename_i e
    cases h
    rw [e]
    rfl
  · split at h
    · rename_i r hs
      split at h
      · cases h
        unfold writ
        rw [seqP_text hs, join_cut]
      · cases h
    · cases h
theorem readP_lt {t : Cs} {row : List (Int × Int)} (h : readP t = some row) : ∀ p ∈ row, (-(10 ^ 60) < p.1 ∧ p.1 < 10 ^ 60) ∧ (-(10 ^ 60) < p.2 ∧ p.2 < 10 ^ 60) := by
  unfold readP at h
  split at h
  · cases h
    intro p hp
    cases hp
  · split at h
    · rename_i r hs
      split at h
      · cases h
        exact seqP_lt hs
      · cases h
    · cases h
theorem readP_ok {t : Cs} {row : List (Int × Int)} (h : readP t = some row) (hc : t.count 32 ≤ 900) : Okr row ∧ row.length ≤ 901 := by
  unfold readP at h
  split at h
  · cases h
    exact ⟨⟨fun i h => absurd h (Nat.not_lt_zero _), fun i j _ h => absurd h (Nat.not_lt_zero _), by decide⟩, by decide⟩
  · split at h
    · rename_i r hs
      split at h
      · rename_i hb
        cases h
        have hl := seqP_len hs
        rw [cut_len] at hl
        obtain ⟨row', e, ok⟩ := row_cases (kn3_row (row := row) (by omega)) hb
        have : rowOf (rowL row) = rowOf (rowL row') := congrArg (fun d => match d with | .lst ds => rowOf ds | _ => []) e
        rw [rowOf_row, rowOf_row] at this
        rw [this]
        exact ⟨ok, by rw [← this]; omega⟩
      · cases h
    · cases h
end FX

/-! law_k07: texts' operations by their signs. -/
namespace FX
open PySem L2 Evl FR
open PySem.Spec PyProof.Rows
theorem tl_inj {x y : Str} : x = y ↔ TL.tl x = TL.tl y := ⟨fun h => by rw [h], TL.ext_tl⟩
theorem dec_tl {x y : Str} : decide (x = y) = decide (TL.tl x = TL.tl y) := by
  by_cases h : x = y
  · rw [decide_eq_true h, decide_eq_true (tl_inj.mp h)]
  · rw [decide_eq_false h, decide_eq_false fun z => h (tl_inj.mpr z)]
theorem starts_dash (x : Str) : Txt.startswith x "-" = decide ((TL.tl x).head? = some 45) := by
  unfold Txt.startswith
  rw [StrLaws.subAt_eq]
  show (decide (0 + (1 : Nat) ≤ x.length) && (((TL.tl x).drop 0).take 1 == [45])) = _
  rw [TL.len_tl]
  cases TL.tl x with
  | nil => rfl
  | cons c r =>
    show (decide (0 + 1 ≤ r.length + 1) && ([c] == [45])) = decide (some c = some 45)
    rw [decide_eq_true (by omega), Bool.true_and]
    by_cases h : c = 45
    · subst h
      rfl
    · have : ¬ (some c = some 45) := fun z => h (Option.some.inj z)
      rw [decide_eq_false this]
      simpa using h
theorem tl_cut (z : Str) (lo hi : Option Int) : TL.tl (cutS z lo hi) = ((TL.tl z).drop (HT.sIx z.length 0 lo)).take (HT.sIx z.length z.length hi - HT.sIx z.length 0 lo) := rfl
theorem tl_from1 (z : Str) : TL.tl (cutS z (some 1) none) = (TL.tl z).drop 1 := by
  rw [tl_cut]
  show ((TL.tl z).drop (HT.sIx z.length 0 (some ((1 : Nat) : Int)))).take (z.length - HT.sIx z.length 0 (some ((1 : Nat) : Int))) = _
  rw [HT.sIx_nat, TL.len_tl]
  by_cases h : 1 ≤ (TL.tl z).length
  · rw [Nat.min_eq_left h]
    exact List.take_of_length_le (by rw [List.length_drop]; omega)
  · have : TL.tl z = [] := List.eq_nil_of_length_eq_zero (by omega)
    rw [this]
    rfl
theorem tl_to1 (z : Str) : TL.tl (cutS z none (some 1)) = (TL.tl z).take 1 := by
  rw [tl_cut]
  show ((TL.tl z).drop 0).take (HT.sIx z.length z.length (some ((1 : Nat) : Int)) - 0) = _
  rw [HT.sIx_nat, TL.len_tl, List.drop_zero, Nat.sub_zero]
  by_cases h : 1 ≤ (TL.tl z).length
  · rw [Nat.min_eq_left h]
  · have : TL.tl z = [] := List.eq_nil_of_length_eq_zero (by omega)
    rw [this]
    rfl
theorem cut_few (z : Str) (lo hi : Option Int) : (cutS z lo hi).length ≤ z.length ∧ (TL.tl (cutS z lo hi)).count 32 ≤ (TL.tl z).count 32 := by
  refine ⟨cutS_length z lo hi, ?_⟩
  rw [tl_cut]
  exact ((List.take_sublist _ _).trans (List.drop_sublist _ _)).count_le 32
/-- the figures of a word: as the program cuts them -/
theorem figs_by (x : Str) : figsOf (TL.tl x) = if (TL.tl x).head? = some 45 then (TL.tl x).drop 1 else TL.tl x := by
  cases TL.tl x with
  | nil => rfl
  | cons c r =>
    by_cases h : c = 45
    · subst h
      rfl
    · rw [figs_pos h, if_neg]
      intro z
      exact h (Option.some.inj z)
/-! strip -/
theorem all_tw {p : Nat → Bool} : ∀ {l : Cs}, l.all p = true → l.takeWhile p = l
  | [], _ => rfl
  | c :: r, h => by
    rw [List.all_cons, Bool.and_eq_true] at h
    rw [List.takeWhile_cons, if_pos h.1, all_tw h.2]
theorem drop_tw {p : Nat → Bool} : ∀ {l : Cs}, l.all p = false → ∃ c r, l.drop (l.takeWhile p).length = c :: r ∧ p c = false
  | [], h => by cases h
  | c :: r, h => by
    cases hc : p c with
    | false =>
      rw [List.takeWhile_cons, hc]
      exact ⟨c, r, rfl, hc⟩
    | true =>
      rw [List.all_cons, hc, Bool.true_and] at h
      obtain ⟨d, s, e, hd⟩ := drop_tw h
      rw [List.takeWhile_cons, hc]
      exact ⟨d, s, e, hd⟩
theorem tw_len (p : Nat → Bool) (l : Cs) : (l.takeWhile p).length ≤ l.length := (List.takeWhile_sublist p).length_le
theorem strip_all {x y : Str} (h : (TL.tl x).all y.cps.contains = true) : TL.tl (Txt.stripChars x y) = [] := by
  have e1 : Builtin.Str.strSub x 0 0 = Builtin.Str.strSub x 0 0 := rfl
  have lo : stripLo y.cps.contains true x = x.length := by
    unfold stripLo
    rw [if_pos rfl]
    show ((TL.tl x).takeWhile _).length = _
    rw [all_tw h, TL.len_tl]
  have hi : stripHi y.cps.contains true x x.length = x.length := by
    unfold stripHi
    rw [if_pos rfl]
    show x.length - ((((TL.tl x).drop x.length).reverse).takeWhile _).length = _
    rw [TL.len_tl, List.drop_length]
    rfl
  unfold Txt.stripChars Txt.stripBy
  split
  · rename_i hs
    unfold stripSame at hs
    rw [lo, Bool.and_eq_true, beq_iff_eq] at hs
    exact List.eq_nil_of_length_eq_zero (by rw [← TL.len_tl]; exact hs.1)
  · unfold stripped
    rw [lo, hi, TL.tl_strSub, Nat.sub_self]
    rfl
theorem strip_some {x y : Str} (h : (TL.tl x).all y.cps.contains = false) : TL.tl (Txt.stripChars x y) ≠ [] := by
  obtain ⟨c, r, e, hc⟩ := drop_tw h
  have lo : stripLo y.cps.contains true x = ((TL.tl x).takeWhile y.cps.contains).length := by
    unfold stripLo
    rw [if_pos rfl]
  have hlt : ((TL.tl x).takeWhile y.cps.contains).length < (TL.tl x).length := by
    apply Classical.byContradiction
    intro hn
    rw [List.drop_eq_nil_of_le (by omega)] at e
    cases e
  have hi : stripLo y.cps.contains true x < stripHi y.cps.contains true x (stripLo y.cps.contains true x) := by
    rw [lo]
    unfold stripHi
    rw [if_pos rfl, TL.len_tl]
    show _ < (TL.tl x).length - ((((TL.tl x).drop _).reverse).takeWhile _).length
    rw [e]
    have h1 : (((c :: r).reverse).takeWhile y.cps.contains).length < (c :: r).length := by
      have h2 : ((c :: r).reverse).all y.cps.contains = false := by
        rw [List.all_reverse, List.all_cons, hc]
        rfl
      obtain ⟨d, s, e2, _⟩ := drop_tw h2
      apply Classical.byContradiction
      intro hn
      rw [List.drop_eq_nil_of_le (by rw [List.length_reverse]; omega)] at e2
      cases e2
    have h3 : (c :: r).length = (TL.tl x).length - ((TL.tl x).takeWhile y.cps.contains).length := by
      rw [← e, List.length_drop]
    omega
  unfold Txt.stripChars Txt.stripBy
  split
  · intro z
    rw [z] at hlt
    exact absurd hlt (Nat.not_lt_zero _)
  · unfold stripped
    rw [TL.tl_strSub]
    intro z
    have hl := congrArg List.length z
    rw [List.length_take, List.length_drop, ← TL.len_tl] at hl
    have h4 : stripHi y.cps.contains true x (stripLo y.cps.contains true x) ≤ x.length := by
      unfold stripHi
      rw [if_pos rfl]
      omega
    simp only [List.length_nil] at hl
    omega
theorem fig_list (c : Nat) : decide (c ∈ ([48, 49, 50, 51, 52, 53, 54, 55, 56, 57] : Cs)) = isFig c := by
  unfold isFig
  by_cases h : 48 ≤ c ∧ c ≤ 57
  · have : c = 48 ∨ c = 49 ∨ c = 50 ∨ c = 51 ∨ c = 52 ∨ c = 53 ∨ c = 54 ∨ c = 55 ∨ c = 56 ∨ c = 57 := by omega
    rcases this with rfl | rfl | rfl | rfl | rfl | rfl | rfl | rfl | rfl | rfl <;> rfl
  · have e : (decide (48 ≤ c) && decide (c ≤ 57)) = false := by
      rw [Bool.and_eq_false_iff, decide_eq_false_iff_not, decide_eq_false_iff_not]
      omega
    rw [e, decide_eq_false_iff_not]
    intro hm
    simp only [List.mem_cons, List.not_mem_nil, or_false] at hm
    omega
theorem fig_in (c : Nat) : ("0123456789" : Str).cps.contains c = isFig c := by
  rw [← fig_list c]
  show (#[48, 49, 50, 51, 52, 53, 54, 55, 56, 57] : Array Nat).contains c = _
  simp
theorem strip_figs (x : Str) : (!decide (Txt.stripChars x "0123456789" = "")) = !((TL.tl x).all isFig) := by
  have e : (TL.tl x).all ("0123456789" : Str).cps.contains = (TL.tl x).all isFig := by
    congr 1
    funext c
    exact fig_in c
  rw [dec_tl, ← e]
  cases h : (TL.tl x).all ("0123456789" : Str).cps.contains with
  | true =>
    rw [decide_eq_true]
    rw [strip_all h]
    rfl
  | false =>
    rw [decide_eq_false]
    exact strip_some h
theorem fig_mem (c : Nat) : decide (c ∈ TL.tl ("0123456789" : Str)) = isFig c := fig_list c
/-! split, partition, join -/
theorem split_tl (x : Str) (c : Nat) (hc : c < 256) : (Txt.split x ⟨#[c]⟩).map TL.tl = cut c (TL.tl x) := by
  rw [TL.split_spl x ⟨#[c]⟩ (by simp [TL.tl]) (TL.kind_ok (by simp [hc]))]
  exact spl_is c (TL.tl x)
theorem part_tl (x : Str) : TL.tl (Txt.partition x ":").1 = (colon (TL.tl x)).1 ∧ TL.tl (Txt.partition x ":").2.2 = (colon (TL.tl x)).2 := by
  have ex : SX.S (TL.tl x) = x := SX.S_tl x
  have ec : (SX.S [58] : Str) = (":" : Str) := TL.ext_tl rfl
  rcases colon_cases (TL.tl x) with ⟨_, e, e2, _⟩ | ⟨p, q, _, _, e, e2, _⟩
  · have := SX.partition_none (a := TL.tl x) (b := [58]) (by simp) e
    rw [ex, ec] at this
    rw [this, e2]
    exact ⟨rfl, rfl⟩
  · have := SX.partition_some (a := TL.tl x) (b := [58]) (p := p) (q := q) (by simp) e
    rw [ex, ec] at this
    rw [this, e2]
    exact ⟨rfl, rfl⟩
end FX

/-! law_k07: the program's texts, the law's own reading. -/
namespace FX
open PySem L2 Evl FR
open PySem.Spec PyProof.Rows
abbrev c_FIGURES : V := .str "0123456789"
abbrev c_MOST : V := .int 60
/-- numbers of at most sixty figures -/
def smallB (row : List (Int × Int)) : Bool := row.all fun p => decide ((if p.1 < 0 then -p.1 else p.1) < 10 ^ 60) && decide (p.2 < 10 ^ 60)
def P_written (C : CS) (ds : List Da) (o : Out) : Prop := ∃ row, ds = [rowD row] ∧ (Okr row ∧ row.length ≤ 910) ∧ ((smallB row = false ∧ o = .ex C.BadRow) ∨ (smallB row = true ∧ ∃ x : Str, TL.tl x = writ row ∧ o = .rt (.str x)))
def P_number_in (C : CS) (ds : List Da) (o : Out) : Prop := ∃ x : Str, ds = [.str x] ∧ x.length ≤ 100000 ∧ o = if okW (TL.tl x) = true then .rt (.int (valW (TL.tl x))) else .ex C.BadText
def readO (C : CS) (x : Str) : Out := match readP (TL.tl x) with
  | some row => .ls (rowL row)
  | none => .ex C.BadText
def okT (x : Str) : Prop := x.length ≤ 100000 ∧ (TL.tl x).count 32 ≤ 900
def P_read (C : CS) (ds : List Da) (o : Out) : Prop := ∃ d, ds = [d] ∧ kn1 d = true ∧ ((isStrD d = false ∧ o = .ex C.BadText) ∨ ∃ x : Str, d = .str x ∧ okT x ∧ o = readO C x)
def numD (w : Cs) : Da := if okW w = true then .int (valW w) else .non
def P_law_number (ds : List Da) (d : Da) : Prop := ∃ x : Str, ds = [.str x] ∧ x.length ≤ 100000 ∧ d = numD (TL.tl x)
def inO (x : Str) : Out := match readP (TL.tl x) with
  | some row => .ls (rowL row)
  | none => .rt .non
def P_law_in (ds : List Da) (o : Out) : Prop := ∃ x : Str, ds = [.str x] ∧ okT x ∧ o = inO x
abbrev sp_written (K : PySem.W.Frag) (C : CS) : Sp := FnR K (P_written C)
abbrev sp_number_in (K : PySem.W.Frag) (C : CS) : Sp := FnR K (P_number_in C)
abbrev sp_read (K : PySem.W.Frag) (C : CS) : Sp := FnR K (P_read C)
abbrev sp_law_number (K : PySem.W.Frag) (C : CS) : Sp := FnP K P_law_number
abbrev sp_law_in (K : PySem.W.Frag) (C : CS) : Sp := FnR K P_law_in
def t_written (K : PySem.W.Frag) (C : CS) (X : XK) : TS :=
  (tSeq (tDrop (tCallS (sp_check_row K C) (WE (WofE X)) (tCons (tVar 0) tNil))) (tSeq (tIfS (tB (tCB (rAny K) (tCons (tLc (iList K (tVar 0)) (gTup K 2 (gCons (gName 1) (gCons (gName 2) gNil))) tYes (tOp rGeI (tCB rMax2 (tCons (tCB rAbs (tCons (tVar 1) tNil)) (tCons (tVar 2) tNil))) (tOp rPowI (tC (.int 10)) (tC (.int 60)))) [1, 2]) tNil))) (tRaise (WofE X) C.BadRow) tNext) (tRet (tM1 (rJoin K) (tC (.str " ")) (tLc (iList K (tVar 0)) (gTup K 2 (gCons (gName 1) (gCons (gName 2) gNil))) tYes (tOp rCatS (tOp rCatS (tCB rStrI (tCons (tVar 1) tNil)) (tC (.str ":"))) (tCB rStrI (tCons (tVar 2) tNil))) [1, 2])))))
def t_number_in (K : PySem.W.Frag) (C : CS) (X : XK) : TS :=
  (tSeq (tAsg (tIf (tB (tM1 rStarts (tVar 0) (tC (.str "-")))) (tSl rSlS (tVar 0) (tPart (tC (.int 1))) tNoPart) (tVar 0)) (gName 1)) (tSeq (tIfS (tOr (tNot (tTest (tChain rLeI rLeI (tC (.int 1)) (tCB rLenSt (tCons (tVar 1) tNil)) (tC c_MOST)))) (tOr (tTest (tOp rNe (tM1 rStripC (tVar 1) (tC c_FIGURES)) (tC (.str "")))) (tAnd (tTest (tOp rEq (tOp rIxS (tVar 1) (tC (.int 0))) (tC (.str "0")))) (tTest (tOp rNe (tVar 0) (tC (.str "0"))))))) (tRaise (WofE X) C.BadText) tNext) (tRet (tCB rIntS (tCons (tVar 0) tNil)))))
def t_read (K : PySem.W.Frag) (C : CS) (X : XK) : TS :=
  (tSeq (tIfS (tNot (tB (tCB (rIsi K) (tCons (tVar 0) (tCons (tC (.ty "str")) tNil))))) (tRaise (WofE X) C.BadText) tNext) (tSeq (tIfS (tTest (tOp rEq (tVar 0) (tC (.str "")))) (tRet (tLst tNil)) tNext) (tSeq (tAsg (tLst tNil) (gName 1)) (tSeq (tFor (iList K (tM1 rSplit (tVar 0) (tC (.str " ")))) (gName 2) (tSeq (tAsg (tM1 rPart (tVar 2) (tC (.str ":"))) (gTup K 3 (gCons (gName 3) (gCons (gName 4) (gCons (gName 5) gNil))))) (tDrop (tBM K "list" rAppend (tVar 1) (tCons (tTup (tCons (tCallS (sp_number_in K C) (WE (WofE X)) (tCons (tVar 3) tNil)) (tCons (tCallS (sp_number_in K C) (WE (WofE X)) (tCons (tVar 5) tNil)) tNil))) tNil))))) (tSeq (tTryOnly K (.ref C.BadRow) (fun W => (tDrop (tCallS (sp_check_row K C) (WE W) (tCons (tVar 1) tNil)))) (fun _ _ _ => (tRaise (WofE X) C.BadText)) (WofE X)) (tRet (tVar 1)))))))
def t_law_number (K : PySem.W.Frag) (C : CS) : TS :=
  (tSeq (tAsg (tIf (tTest (tOp rEq (tSl rSlS (tVar 0) tNoPart (tPart (tC (.int 1)))) (tC (.str "-")))) (tSl rSlS (tVar 0) (tPart (tC (.int 1))) tNoPart) (tVar 0)) (gName 1)) (tSeq (tIfS (tOr (tNot (tTest (tChain rLtI rLtI (tC (.int 0)) (tCB rLenSt (tCons (tVar 1) tNil)) (tC (.int 61))))) (tNot (tB (tCB (rAll K) (tCons (tLc (iStr (tVar 1)) (gName 2) tYes (tOp rInSign (tVar 2) (tC (.str "0123456789"))) [2]) tNil))))) (tRet (tC .non)) tNext) (tSeq (tIfS (tAnd (tTest (tOp rEq (tOp rIxS (tVar 1) (tC (.int 0))) (tC (.str "0")))) (tTest (tOp rNe (tVar 0) (tC (.str "0"))))) (tRet (tC .non)) tNext) (tRet (tCB rIntS (tCons (tVar 0) tNil))))))
def t_law_in (K : PySem.W.Frag) (C : CS) : TS :=
  (tSeq (tAsg (tLst tNil) (gName 1)) (tSeq (tFor (iList K (tIf (tTest (tOp rNe (tVar 0) (tC (.str "")))) (tM1 rSplit (tVar 0) (tC (.str " "))) (tLst tNil))) (gName 2) (tSeq (tAsg (tM1 rSplit (tVar 2) (tC (.str ":"))) (gName 3)) (tSeq (tIfS (tOr (tTest (tOp rNe (tCB (rLenS K) (tCons (tVar 3) tNil)) (tC (.int 2)))) (tOr (tTest (tOp (rIn K false) (tC .non) (tLc (iList K (tVar 3)) (gName 4) tYes (tCall (sp_law_number K C) [] E0 (tCons (tVar 4) tNil)) [4]))) (tTest (tOp rLtI (tCall (sp_law_number K C) [] E0 (tCons (tOp (rIxL K) (tVar 3) (tC (.int 1))) tNil)) (tC (.int 1)))))) (tRet (tC .non)) tNext) (tSeq (tIfS (tAnd (tTest (tOp (rNeD K) (tVar 1) (tLst tNil))) (tTest (tOp rGeI (tOp (rIxT K) (tOp (rIxL K) (tVar 1) (tUn (rU fun i => .int (-i)) (tC (.int 1)))) (tC (.int 0))) (tCall (sp_law_number K C) [] E0 (tCons (tOp (rIxL K) (tVar 3) (tC (.int 0))) tNil))))) (tRet (tC .non)) tNext) (tDrop (tBM K "list" rAppend (tVar 1) (tCons (tTup (tCons (tCall (sp_law_number K C) [] E0 (tCons (tOp (rIxL K) (tVar 3) (tC (.int 0))) tNil)) (tCons (tCall (sp_law_number K C) [] E0 (tCons (tOp (rIxL K) (tVar 3) (tC (.int 1))) tNil)) tNil))) tNil))))))) (tRet (tVar 1))))

section
variable {K : PySem.W.Frag} {C : CS} {X : XK}
theorem at0 {c : Nat} {r : Cs} : atI (c :: r : Cs) 0 = some c := by
  show atI (c :: r : Cs) ((0 : Nat) : Int) = some c
  exact atI_nat rfl
theorem bools (a b c : Bool) : (!true || (!a || (b && !c))) = !(true && (a && !(b && !c))) := by cases a <;> cases b <;> cases c <;> rfl
/-- what both look at in a word -/
theorem refuse_is (w : Cs) (c : Nat) (h : (figsOf w).head? = some c) : (((decide (1 ≤ (figsOf w).length) && decide ((figsOf w).length ≤ 60)) && ((figsOf w).all isFig && !(decide (c = 48) && !decide (w = [48]))))) = okW w := by
  unfold okW
  rw [h]
  have : decide (some c = some 48) = decide (c = 48) := by
    by_cases e : c = 48
    · rw [decide_eq_true e, decide_eq_true (by rw [e])]
    · rw [decide_eq_false e, decide_eq_false fun z => e (Option.some.inj z)]
  rw [this]
theorem tl_zero : TL.tl ("0" : Str) = [48] := rfl
theorem one_is (c : Nat) : decide ((⟨#[c]⟩ : Str) = "0") = decide (c = 48) := by
  rw [dec_tl]
  show decide ([c] = [48]) = _
  simp
theorem figs_nat {w : Cs} {n : Nat} (hw : w.length ≤ n) : (figsOf w).length ≤ n := by
  cases w with
  | nil => exact hw
  | cons c r =>
    by_cases h : c = 45
    · subst h
      rw [figs_neg]
      rw [List.length_cons] at hw
      omega
    · rw [figs_pos h]
      exact hw
theorem run_number_in {ds : List Da} {o : Out} (h : P_number_in C ds o) : Run K (t_number_in K C X) (ent ds 1) (retR X o) := by
  obtain ⟨x, rfl, hl, rfl⟩ := h
  obtain ⟨f, hf⟩ : ∃ f : Str, TL.tl f = figsOf (TL.tl x) := ⟨SX.S (figsOf (TL.tl x)), rfl⟩
  have fl : f.length ≤ 100000 := by
    rw [TL.len_tl, hf]
    exact figs_nat (by rw [← TL.len_tl]; exact hl)
  refine run_seq (run_asg (d := .str f) (ev_ifE (eb_B (ev_starts (ev_var rfl) ev_str)) (fun hb => ?_) fun hb => ?_) ?_)
  · rw [starts_dash, decide_eq_true_eq] at hb
    refine (ev_slS (z := x) (ev_var rfl) (by omega) (eo_some ev_int) eo_none).is ?_
    congr 1
    exact TL.ext_tl (by rw [tl_from1, hf, figs_by, if_pos hb])
  · rw [starts_dash, decide_eq_false_iff_not] at hb
    refine (ev_var (d := .str x) rfl).is ?_
    congr 1
    exact TL.ext_tl (by rw [hf, figs_by, if_neg hb])
  show Run K _ [.im (.str x), .im (.str f)] _
  have vx : EvE K (tVar 0) (frz [.im (.str x), .im (.str f)]) (.str x) := ev_var rfl
  have vf : EvE K (tVar 1) (frz [.im (.str x), .im (.str f)]) (.str f) := ev_var rfl
  have fin : ∀ b, EvB K (tOr (tNot (tTest (tChain rLeI rLeI (tC (.int 1)) (tCB rLenSt (tCons (tVar 1) tNil)) (tC c_MOST)))) (tOr (tTest (tOp rNe (tM1 rStripC (tVar 1) (tC c_FIGURES)) (tC (.str "")))) (tAnd (tTest (tOp rEq (tOp rIxS (tVar 1) (tC (.int 0))) (tC (.str "0")))) (tTest (tOp rNe (tVar 0) (tC (.str "0"))))))) (frz [.im (.str x), .im (.str f)]) b → b = !(okW (TL.tl x)) →
      Run K (tSeq (tIfS (tOr (tNot (tTest (tChain rLeI rLeI (tC (.int 1)) (tCB rLenSt (tCons (tVar 1) tNil)) (tC c_MOST)))) (tOr (tTest (tOp rNe (tM1 rStripC (tVar 1) (tC c_FIGURES)) (tC (.str "")))) (tAnd (tTest (tOp rEq (tOp rIxS (tVar 1) (tC (.int 0))) (tC (.str "0")))) (tTest (tOp rNe (tVar 0) (tC (.str "0"))))))) (tRaise (WofE X) C.BadText) tNext) (tRet (tCB rIntS (tCons (tVar 0) tNil)))) [.im (.str x), .im (.str f)] (retR X (if okW (TL.tl x) = true then .rt (.int (valW (TL.tl x))) else .ex C.BadText)) := by
    intro b hb e
    refine run_seq (run_if hb (fun z => run_raise ?_) fun z => run_next ?_)
    · have : okW (TL.tl x) = false := by
        rw [e] at z
        simpa using z
      show (if okW (TL.tl x) = true then _ else _) = _
      rw [this]
      rfl
    · have hk : okW (TL.tl x) = true := by
        rw [e] at z
        simpa using z
      refine run_ret (d := .int (valW (TL.tl x))) (ev_intS (ev_var rfl) (int_ofW hk) ?_) ?_
      · have := (okW_iff.mp hk).1.2
        have := figs_len (TL.tl x)
        rw [TL.len_tl]
        omega
      · show (if okW (TL.tl x) = true then _ else _) = _
        rw [hk]
        rfl
  have c1 : EvB K (tNot (tTest (tChain rLeI rLeI (tC (.int 1)) (tCB rLenSt (tCons (tVar 1) tNil)) (tC c_MOST)))) (frz [.im (.str x), .im (.str f)]) (!(decide ((1 : Int) ≤ f.length) && decide ((f.length : Int) ≤ 60))) :=
    eb_not (eb_test (ev_chainI rfl rfl ev_int (ev_lenS vf (by omega)) fun _ => ev_int))
  have n1 : decide ((1 : Int) ≤ f.length) = decide (1 ≤ (figsOf (TL.tl x)).length) := by
    rw [TL.len_tl, hf]
    by_cases h : 1 ≤ (figsOf (TL.tl x)).length
    · rw [decide_eq_true h, decide_eq_true (by omega)]
    · rw [decide_eq_false h, decide_eq_false (by omega)]
  have n2 : decide ((f.length : Int) ≤ 60) = decide ((figsOf (TL.tl x)).length ≤ 60) := by
    rw [TL.len_tl, hf]
    by_cases h : (figsOf (TL.tl x)).length ≤ 60
    · rw [decide_eq_true h, decide_eq_true (by omega)]
    · rw [decide_eq_false h, decide_eq_false (by omega)]
  rw [n1, n2] at c1
  cases hr : (decide (1 ≤ (figsOf (TL.tl x)).length) && decide ((figsOf (TL.tl x)).length ≤ 60)) with
  | false =>
    rw [hr] at c1
    refine fin _ (eb_or (b := true) c1 fun z => by cases z) ?_
    have : okW (TL.tl x) = false := by
      unfold okW
      rw [hr]
      rfl
    rw [this]
    rfl
  | true =>
    rw [hr] at c1
    have h1 : 1 ≤ (figsOf (TL.tl x)).length := by
      rw [Bool.and_eq_true, decide_eq_true_eq] at hr
      exact hr.1
    obtain ⟨c, r, ec⟩ : ∃ c r, figsOf (TL.tl x) = c :: r := by
      cases e : figsOf (TL.tl x) with
      | nil =>
        rw [e] at h1
        cases h1
      | cons c r => exact ⟨c, r, rfl⟩
    refine fin _ (eb_or c1 fun _ => eb_or (eb_test (ev_neS (ev_stripC vf ev_str (by omega)) ev_str)) fun _ => eb_and (eb_test (ev_eqS (ev_ixS (c := c) vf ev_int (by omega) ?_) ev_str)) fun _ => eb_test (ev_neS vx ev_str)) ?_
    · rw [hf, ec]
      exact at0
    · rw [← refuse_is (TL.tl x) c (by rw [ec]; rfl), hr, strip_figs, hf, one_is, dec_tl (x := x), tl_zero]
      exact bools _ _ _
theorem run_law_number {ds : List Da} {d : Da} (h : P_law_number ds d) : Run K (t_law_number K C) (ent ds 2) (retD d) := by
  obtain ⟨x, rfl, hl, rfl⟩ := h
  obtain ⟨f, hf⟩ : ∃ f : Str, TL.tl f = figsOf (TL.tl x) := ⟨SX.S (figsOf (TL.tl x)), rfl⟩
  have fl : f.length ≤ 100000 := by
    rw [TL.len_tl, hf]
    exact figs_nat (by rw [← TL.len_tl]; exact hl)
  have hd : decide (cutS x none (some 1) = "-") = decide ((TL.tl x).head? = some 45) := by
    rw [dec_tl, tl_to1]
    show decide ((TL.tl x).take 1 = [45]) = _
    cases TL.tl x with
    | nil => rfl
    | cons c r =>
      show decide ([c] = [45]) = decide (some c = some 45)
      simp
  refine run_seq (run_asg (d := .str f) (ev_ifE (eb_test (ev_eqS (ev_slS (z := x) (ev_var rfl) (by omega) eo_none (eo_some ev_int)) ev_str)) (fun hb => ?_) fun hb => ?_) ?_)
  · rw [hd, decide_eq_true_eq] at hb
    refine (ev_slS (z := x) (ev_var rfl) (by omega) (eo_some ev_int) eo_none).is ?_
    congr 1
    exact TL.ext_tl (by rw [tl_from1, hf, figs_by, if_pos hb])
  · rw [hd, decide_eq_false_iff_not] at hb
    refine (ev_var (d := .str x) rfl).is ?_
    congr 1
    exact TL.ext_tl (by rw [hf, figs_by, if_neg hb])
  show Run K _ [.im (.str x), .im (.str f), .no] _
  have vx : EvE K (tVar 0) (frz [.im (.str x), .im (.str f), .no]) (.str x) := ev_var rfl
  have vf : EvE K (tVar 1) (frz [.im (.str x), .im (.str f), .no]) (.str f) := ev_var rfl
  have n1 : (decide ((0 : Int) < f.length) && decide ((f.length : Int) < 61)) = (decide (1 ≤ (figsOf (TL.tl x)).length) && decide ((figsOf (TL.tl x)).length ≤ 60)) := by
    rw [TL.len_tl, hf]
    congr 1
    · by_cases h : 1 ≤ (figsOf (TL.tl x)).length
      · rw [decide_eq_true h, decide_eq_true (by omega)]
      · rw [decide_eq_false h, decide_eq_false (by omega)]
    · by_cases h : (figsOf (TL.tl x)).length ≤ 60
      · rw [decide_eq_true h, decide_eq_true (by omega)]
      · rw [decide_eq_false h, decide_eq_false (by omega)]
  have al : (TL.tl f).length ≤ 60 → EvB K (tNot (tB (tCB (L2.rAll K) (tCons (tLc (iStr (tVar 1)) (gName 2) tYes (tOp rInSign (tVar 2) (tC (.str "0123456789"))) [2]) tNil)))) (frz [.im (.str x), .im (.str f), .no]) (!((TL.tl f).all isFig)) := fun hs => by
    refine eb_not (eb_B ((ev_all (bs := ((TL.tl f).filter fun _ => true).map isFig) (ev_new ?_)).is (by rw [List.filter_eq_self.mpr fun _ _ => rfl, List.all_map]; rfl)))
    refine (en_lc (us := [2]) sign (fun _ => true) (fun c => Da.bl (isFig c)) (TL.tl f) (wk_str vf) (by simp) (by omega) fun c hc => ⟨_, tc_name, eb_yes, fun _ => ?_⟩).is (by rw [List.map_map]; rfl)
    exact (ev_inSign (c := c) (ev_var rfl) ev_str).is (by rw [fig_mem])
  have c1 : EvB K (tNot (tTest (tChain rLtI rLtI (tC (.int 0)) (tCB rLenSt (tCons (tVar 1) tNil)) (tC (.int 61))))) (frz [.im (.str x), .im (.str f), .no]) (!(decide ((0 : Int) < f.length) && decide ((f.length : Int) < 61))) :=
    eb_not (eb_test (ev_chainI rfl rfl ev_int (ev_lenS vf (by omega)) fun _ => ev_int))
  rw [n1] at c1
  cases hr : (decide (1 ≤ (figsOf (TL.tl x)).length) && decide ((figsOf (TL.tl x)).length ≤ 60)) with
  | false =>
    rw [hr] at c1
    have hk : okW (TL.tl x) = false := by
      unfold okW
      rw [hr]
      rfl
    refine run_seq (run_if (b := true) (eb_or (b := true) c1 fun z => by cases z) (fun _ => run_ret ev_non ?_) fun z => by cases z)
    show Da.non = numD (TL.tl x)
    unfold numD
    rw [hk]
    rfl
  | true =>
    rw [hr] at c1
    have h12 := hr
    rw [Bool.and_eq_true, decide_eq_true_eq, decide_eq_true_eq] at h12
    obtain ⟨c, r, ec⟩ : ∃ c r, figsOf (TL.tl x) = c :: r := by
      cases e : figsOf (TL.tl x) with
      | nil =>
        rw [e] at h12
        cases h12.1
      | cons c r => exact ⟨c, r, rfl⟩
    have ek := refuse_is (TL.tl x) c (by rw [ec]; rfl)
    rw [hr, Bool.true_and] at ek
    refine run_seq (run_if (b := !((TL.tl f).all isFig)) (eb_or c1 fun _ => al (by rw [hf]; exact h12.2)) (fun hb => run_ret ev_non ?_) fun hb => run_next ?_)
    · show Da.non = numD (TL.tl x)
      have ha : (figsOf (TL.tl x)).all isFig = false := by
        rw [hf] at hb
        simpa using hb
      unfold numD
      rw [← ek, ha]
      rfl
    · have ha : (figsOf (TL.tl x)).all isFig = true := by
        rw [hf] at hb
        simpa using hb
      rw [ha, Bool.true_and] at ek
      refine run_seq (run_if (b := decide (c = 48) && !decide (TL.tl x = [48])) ?_ (fun hb2 => run_ret ev_non ?_) fun hb2 => run_next ?_)
      · refine (eb_and (eb_test (ev_eqS (ev_ixS (c := c) vf ev_int (by omega) ?_) ev_str)) fun _ => eb_test (ev_neS vx ev_str)).is ?_
        · rw [hf, ec]
          exact at0
        · rw [one_is, dec_tl (x := x), tl_zero]
      · show Da.non = numD (TL.tl x)
        unfold numD
        rw [← ek, hb2]
        rfl
      · have hk : okW (TL.tl x) = true := by
          rw [← ek, hb2]
          rfl
        refine run_ret (d := .int (valW (TL.tl x))) (ev_intS (ev_var rfl) (int_ofW hk) ?_) ?_
        · have := figs_len (TL.tl x)
          rw [TL.len_tl]
          omega
        · show Da.int _ = numD (TL.tl x)
          unfold numD
          rw [hk]
          rfl
end
end FX

/-! law_k07: rows written, rows read. -/
namespace FX
open PySem L2 Evl FR
open PySem.Spec PyProof.Rows
/-! ### written -/
def wstr (p : Int × Int) : Str := Str.ofString (toString p.1) ++ (":" : Str) ++ Str.ofString (toString p.2)
theorem tl_wstr (p : Int × Int) : TL.tl (wstr p) = wordT p := by
  unfold wstr wordT
  rw [TL.tl_append, TL.tl_append, List.append_assoc]
  rfl
def wrS (row : List (Int × Int)) : Str := Txt.join (" " : Str) (row.map wstr)
theorem tl_wrS (row : List (Int × Int)) : TL.tl (wrS row) = writ row := by
  unfold wrS writ
  rw [TL.join_eq, TL.tl_join, List.map_map]
  have : (row.map (TL.tl ∘ wstr)) = row.map wordT := List.map_congr_left fun p _ => tl_wstr p
  rw [this]
  rfl
theorem p60 : ((10 ^ 60 : Nat) : Int) = 10 ^ 60 := by decide +kernel
theorem numT_len {i : Int} (h : -(10 ^ 60) < i ∧ i < 10 ^ 60) : (numT i).length ≤ 61 := by
  by_cases hi : 0 ≤ i
  · obtain ⟨n, rfl⟩ := Int.eq_ofNat_of_zero_le hi
    rw [numT_nat]
    have : n < 10 ^ 60 := by
      have := h.2
      rw [← p60] at this
      omega
    have := TL.numL_len (by decide : 0 < 60) this
    omega
  · obtain ⟨n, hn⟩ := Int.eq_ofNat_of_zero_le (by omega : 0 ≤ -i)
    have e : i = -(n : Int) := by omega
    subst e
    rw [numT_neg (by omega), List.length_cons]
    have : n < 10 ^ 60 := by
      have := h.1
      rw [← p60] at this
      omega
    have := TL.numL_len (by decide : 0 < 60) this
    omega
theorem log_of {i : Int} (h : -(10 ^ 60) < i ∧ i < 10 ^ 60) : i.natAbs.log2 < 1920 := by
  by_cases h0 : i.natAbs = 0
  · rw [h0]
    decide
  · refine (Nat.log2_lt h0).mpr ?_
    have h1 : i.natAbs < 10 ^ 60 := by
      have := h.1
      have := h.2
      rw [← p60] at *
      omega
    have : (10 : Nat) ^ 60 < 2 ^ 1920 := by decide +kernel
    omega
/-- numbers that are written -/
def lt60 (p : Int × Int) : Prop := (-(10 ^ 60) < p.1 ∧ p.1 < 10 ^ 60) ∧ (-(10 ^ 60) < p.2 ∧ p.2 < 10 ^ 60)
theorem wstr_len {p : Int × Int} (h : lt60 p) : (wstr p).length ≤ 123 := by
  rw [TL.len_tl, tl_wstr]
  unfold wordT
  rw [List.length_append, List.length_cons]
  have := numT_len h.1
  have := numT_len h.2
  omega
theorem sum_le {f : Int × Int → Str} {n : Nat} : ∀ {row : List (Int × Int)}, (∀ p ∈ row, (f p).length ≤ n) → ((row.map f).map (·.length)).sum ≤ row.length * n
  | [], _ => by simp
  | p :: r, h => by
    rw [List.map_cons, List.map_cons, List.sum_cons, List.length_cons, Nat.succ_mul]
    have h1 := h p (List.mem_cons_self ..)
    have h2 := sum_le fun q hq => h q (List.mem_cons_of_mem _ hq)
    omega
theorem small_lt {row : List (Int × Int)} (ok : ∀ p ∈ row, 0 < p.2) : smallB row = true → ∀ p ∈ row, lt60 p := by
  intro h p hp
  have := List.all_eq_true.mp h p hp
  rw [Bool.and_eq_true, decide_eq_true_eq, decide_eq_true_eq] at this
  have h0 := ok p hp
  have h1 := this.1
  have z : (0 : Int) < 10 ^ 60 := by decide +kernel
  refine ⟨?_, ?_, this.2⟩
  · split at h1 <;> omega
  · omega
theorem lt_small {row : List (Int × Int)} (h : ∀ p ∈ row, lt60 p) : smallB row = true := by
  refine List.all_eq_true.mpr fun p hp => ?_
  have := h p hp
  unfold lt60 at this
  rw [Bool.and_eq_true, decide_eq_true_eq, decide_eq_true_eq]
  refine ⟨?_, this.2.2⟩
  split <;> omega
theorem okr_pos {row : List (Int × Int)} (ok : Okr row) : ∀ p ∈ row, 0 < p.2 := fun p hp => by
  obtain ⟨j, hj, rfl⟩ := plc_mem hp
  exact ok.pos j hj
section
variable {K : PySem.W.Frag} {C : CS} {X : XK} {env : En} {te : TE} {row : List (Int × Int)}
theorem ev_wstr {i j : Nat} {p : Int × Int} (hi : EvE K (tVar i) env (.int p.1)) (hj : EvE K (tVar j) env (.int p.2)) (h : lt60 p) :
    EvE K (tOp rCatS (tOp rCatS (tCB rStrI (tCons (tVar i) tNil)) (tC (.str ":"))) (tCB rStrI (tCons (tVar j) tNil))) env (.str (wstr p)) := by
  have l1 : (Str.ofString (toString p.1)).length ≤ 61 := by
    rw [TL.len_tl]
    exact numT_len h.1
  have l2 : (Str.ofString (toString p.2)).length ≤ 61 := by
    rw [TL.len_tl]
    exact numT_len h.2
  have l3 : (Str.ofString (toString p.1) ++ (":" : Str)).length = (Str.ofString (toString p.1)).length + 1 := by
    rw [TL.len_tl, TL.tl_append, List.length_append, ← TL.len_tl]
    rfl
  refine ev_catS (x := Str.ofString (toString p.1) ++ (":" : Str)) (y := Str.ofString (toString p.2)) (ev_catS (ev_strI hi (log_of h.1)) ev_str ?_) (ev_strI hj (log_of h.2)) (by omega)
  show _ + 1 ≤ _
  omega
/-- " ".join of a row's words -/
theorem ev_writ {i j : Nat} (ht : EvE K te env (rowD row)) (hl : row.length ≤ 910) (h : ∀ p ∈ row, lt60 p)
    (hv : ∀ a b : Int, (((wipeE env [i, j]).set i (.im (.int a))).set j (.im (.int b)))[i]? = some (.im (.int a)) ∧ (((wipeE env [i, j]).set i (.im (.int a))).set j (.im (.int b)))[j]? = some (.im (.int b))) :
    EvE K (tM1 (rJoin K) (tC (.str " ")) (tLc (iList K te) (gTup K 2 (gCons (gName i) (gCons (gName j) gNil))) tYes (tOp rCatS (tOp rCatS (tCB rStrI (tCons (tVar i) tNil)) (tC (.str ":"))) (tCB rStrI (tCons (tVar j) tNil))) [i, j])) env (.str (wrS row)) := by
  refine ev_join (x := " ") (ys := row.map wstr) ev_str (ev_new ?_) ?_
  · refine (en_lc (us := [i, j]) prD (fun _ => true) (fun p => Da.str (wstr p)) row (wk_list ht) (by simp) (by omega) fun p hp => ⟨_, tc_tup2 tc_name tc_name, eb_yes, fun _ => ?_⟩).is (by rw [List.filter_eq_self.mpr fun _ _ => rfl, List.map_map]; rfl)
    exact ev_wstr (ev_var (hv _ _).1) (ev_var (hv _ _).2) (h p hp)
  · have := sum_le (f := wstr) fun p hp => wstr_len (h p hp)
    rw [List.length_map]
    show _ + row.length * 1 ≤ _
    omega
def bigB (p : Int × Int) : Bool := decide ((10 : Int) ^ 60 ≤ (if p.2 > (if p.1 < 0 then -p.1 else p.1) then p.2 else (if p.1 < 0 then -p.1 else p.1)))
theorem big_small (row : List (Int × Int)) : row.any bigB = !(smallB row) := by
  unfold smallB
  rw [List.any_eq_not_all_not]
  congr 2
  funext p
  unfold bigB
  generalize (if p.1 < 0 then -p.1 else p.1) = a
  generalize (10 : Int) ^ 60 = m
  by_cases h1 : a < m <;> by_cases h2 : p.2 < m
  · rw [decide_eq_true h1, decide_eq_true h2, decide_eq_false]
    · rfl
    · split <;> omega
  · rw [decide_eq_true h1, decide_eq_false h2, decide_eq_true]
    · rfl
    · split <;> omega
  · rw [decide_eq_false h1, decide_eq_true h2, decide_eq_true]
    · rfl
    · split <;> omega
  · rw [decide_eq_false h1, decide_eq_false h2, decide_eq_true]
    · rfl
    · split <;> omega
theorem run_written {ds : List Da} {o : Out} (h : P_written C ds o) : Run K (t_written K C X) (ent ds 2) (retR X o) := by
  obtain ⟨row, rfl, ⟨ok, hl⟩, h⟩ := h
  refine run_seq (run_drop (d := .non) (ev_callS (ds := [rowD row]) (ea_cons (ev_var rfl) ea_nil) ⟨_, rfl, kn3_row (by omega), by rw [rowB_of ok]; rfl⟩) ?_)
  refine run_seq (run_if (b := row.any bigB) (eb_B ?_) (fun hb => run_raise ?_) fun hb => run_next ?_)
  · refine (ev_any (bs := (row.filter fun _ => true).map bigB) (ev_new ?_)).is (by rw [List.filter_eq_self.mpr fun _ _ => rfl, List.any_map]; rfl)
    refine (en_lc (us := [1, 2]) prD (fun _ => true) (fun p => Da.bl (bigB p)) row (wk_list (ev_var rfl)) (by simp) (by omega) fun p hp => ⟨_, tc_tup2 tc_name tc_name, eb_yes, fun _ => ?_⟩).is (by rw [List.map_map]; rfl)
    exact ev_ge (ev_max2 (ev_abs (ev_var rfl)) (ev_var rfl)) (ev_pow (j := 60) ev_int ev_int ⟨by decide, by decide, by decide⟩)
  · rw [big_small] at hb
    rcases h with ⟨_, h⟩ | ⟨hs, _⟩
    · exact h
    · rw [hs] at hb
      cases hb
  · rw [big_small] at hb
    rcases h with ⟨hs, _⟩ | ⟨hs, x, hx, rfl⟩
    · rw [hs] at hb
      cases hb
    · refine run_ret (d := .str (wrS row)) (ev_writ (ev_var rfl) hl (small_lt (okr_pos ok) hs) fun a b => ⟨rfl, rfl⟩) ?_
      show Out.rt (.str x) = Out.rt (.str (wrS row))
      rw [show x = wrS row from TL.ext_tl (by rw [hx, tl_wrS])]
/-! ### read -/
theorem seqP_none {ws : List Cs} {w : Cs} (hm : w ∈ ws) (h : wordP w = none) : seqP ws = none := by
  induction ws with
  | nil => cases hm
  | cons v vs ih =>
    unfold seqP
    rcases List.mem_cons.mp hm with rfl | hm
    · rw [h]
    · rw [ih hm]
      cases wordP v <;> rfl
theorem seqP_snoc {ws : List Cs} {w : Cs} {r : List (Int × Int)} {p : Int × Int} (h : seqP ws = some r) (hp : wordP w = some p) : seqP (ws ++ [w]) = some (r ++ [p]) := by
  rw [seqP_app, h]
  have : seqP [w] = some [p] := by
    unfold seqP
    rw [hp]
    rfl
  rw [this]
theorem get_words {x : Str} {ws : List Str} {n : Nat} {d : Da} (h : (ws.map Da.str)[n]? = some d) : ∃ w, ws[n]? = some w ∧ d = .str w ∧ (ws.map TL.tl)[n]? = some (TL.tl w) ∧ (ws.map TL.tl).take (n + 1) = (ws.map TL.tl).take n ++ [TL.tl w] := by
  obtain ⟨w, hw, rfl⟩ := map_get h
  have e : (ws.map TL.tl)[n]? = some (TL.tl w) := by rw [List.getElem?_map, hw]; rfl
  refine ⟨w, hw, rfl, e, ?_⟩
  rw [List.take_add_one, e]
  rfl
theorem word_len {x w : Str} {c : Nat} (h : TL.tl w ∈ cut c (TL.tl x)) : w.length ≤ x.length := by
  rw [TL.len_tl, TL.len_tl]
  exact (cut_mem c _ _ h).1
theorem sp_one : ((" " : Str).length == 0) = false := rfl
theorem co_one : ((":" : Str).length == 0) = false := rfl
theorem split_sp (x : Str) : (Txt.split x " ").map TL.tl = cut 32 (TL.tl x) := split_tl x 32 (by decide)
theorem split_co (x : Str) : (Txt.split x ":").map TL.tl = cut 58 (TL.tl x) := split_tl x 58 (by decide)
theorem colon_len (w : Cs) : (colon w).1.length ≤ w.length ∧ (colon w).2.length ≤ w.length := by
  rcases colon_cases w with ⟨_, _, ec, _⟩ | ⟨p, q, e, _, _, ec, _⟩
  · rw [ec]
    exact ⟨Nat.le_refl _, Nat.zero_le _⟩
  · rw [ec, e]
    rw [List.length_append, List.length_cons]
    constructor
    · show p.length ≤ _
      omega
    · show q.length ≤ _
      omega
theorem readP_nil {x : Str} (h : TL.tl x = []) : readP (TL.tl x) = some [] := by
  unfold readP
  rw [if_pos h]
theorem readP_ne {x : Str} (h : ¬ TL.tl x = []) : readP (TL.tl x) = match seqP (cut 32 (TL.tl x)) with
    | some row => if rowB (rowD row) = true then some row else none
    | none => none := by
  unfold readP
  rw [if_neg h] <;> (cases seqP (cut 32 (TL.tl x)) <;> rfl)
theorem str_nil {x : Str} : decide (x = "") = decide (TL.tl x = []) := by
  rw [dec_tl]
  rfl
theorem run_read (A : ExcFs K C) {ds : List Da} {o : Out} (h : P_read C ds o) : Run K (t_read K C X) (ent ds 5) (retR X o) := by
  obtain ⟨d, rfl, hk, h⟩ := h
  rcases h with ⟨hs, rfl⟩ | ⟨x, rfl, ⟨hl, hc⟩, rfl⟩
  · exact run_seq (run_if (b := !(isStrD d)) (eb_not (eb_B (ev_isStr (ev_var rfl) hk))) (fun _ => run_raise rfl) fun z => by rw [hs] at z; cases z)
  refine run_seq (run_if (b := !true) (eb_not (eb_B (ev_isStr (d := .str x) (ev_var rfl) rfl))) (fun z => by cases z) fun _ => run_next ?_)
  refine run_seq (run_if (b := decide (x = "")) (eb_test (ev_eqS (ev_var rfl) ev_str)) (fun hx => run_retN (ds := []) (en_lst ea_nil) (.inl ?_)) fun hx => run_next ?_)
  · rw [str_nil, decide_eq_true_eq] at hx
    show readO C x = _
    unfold readO
    rw [readP_nil hx]
    rfl
  rw [str_nil, decide_eq_false_iff_not] at hx
  have hcl := cut_len 32 (TL.tl x)
  refine run_seq (run_asgN (ds := rowL []) (en_lst ea_nil) ?_)
  have ews := split_sp x
  generalize Txt.split x " " = ws at ews
  refine run_seq (run_for (ds := (Txt.split x " ").map Da.str) (wk_list (ev_split (x := x) (ev_var rfl) ev_str sp_one (by omega))) (fun n e => ∃ r y2 y3 y4 y5, e = [.im (.str x), .mu (rowL r), y2, y3, y4, y5] ∧ seqP ((cut 32 (TL.tl x)).take n) = some r) ⟨[], _, _, _, _, rfl, rfl⟩ ?_ ?_)
  · rintro n dd e hn ⟨r, y2, y3, y4, y5, rfl, hr⟩
    obtain ⟨w, hw, rfl, hwt, htk⟩ := get_words (x := x) hn
    rw [split_sp] at hwt htk
    have hwm := List.mem_of_getElem? hwt
    have hwl : w.length ≤ 100000 := Nat.le_trans (word_len (x := x) hwm) hl
    refine ⟨_, ts_name, ?_⟩
    show Run K _ [.im (.str x), .mu (rowL r), .im (.str w), y3, y4, y5] _
    obtain ⟨e1, e2⟩ := part_tl w
    refine run_seq (run_asgT (ev_part (ev_var rfl) ev_str co_one (by omega)) (ts_tup3 ts_name ts_name ts_name) ?_)
    show Run K _ [.im (.str x), .mu (rowL r), .im (.str w), .im (.str (Txt.partition w ":").1), .im (.str (Txt.partition w ":").2.1), .im (.str (Txt.partition w ":").2.2)] _
    generalize (Txt.partition w ":").1 = p at e1
    generalize (Txt.partition w ":").2.1 = m
    generalize (Txt.partition w ":").2.2 = q at e2
    have hcl2 := colon_len (TL.tl w)
    have pl : p.length ≤ 100000 := by
      rw [TL.len_tl, e1]
      rw [TL.len_tl] at hwl
      omega
    have ql : q.length ≤ 100000 := by
      rw [TL.len_tl, e2]
      rw [TL.len_tl] at hwl
      omega
    have ew : wordP (TL.tl w) = if (okW (TL.tl p) && okW (TL.tl q)) = true then some (valW (TL.tl p), valW (TL.tl q)) else none := by
      unfold wordP
      rw [e1, e2]
    have bad : wordP (TL.tl w) = none → readO C x = .ex C.BadText := fun z => by
      unfold readO
      rw [readP_ne hx, seqP_none hwm z]
    have vp : ∀ {te : TE}, te = tVar 3 → EvE K te (frz [.im (.str x), .mu (rowL r), .im (.str w), .im (.str p), .im (.str m), .im (.str q)]) (.str p) := fun {te} z => by
      subst z
      exact ev_var rfl
    cases hp : okW (TL.tl p) with
    | false =>
      refine run_appX (C := C.BadText) rfl (ex_tup (exa_hd (ex_call (ds := [.str p]) (ea_cons (ev_var rfl) ea_nil) ⟨p, rfl, pl, by rw [hp]; rfl⟩))) (bad ?_)
      rw [ew, hp]
      rfl
    | true =>
      have cp : ∀ {env : En} (_ : env[3]? = some (.im (.str p))), EvE K (tCallS (sp_number_in K C) (WE (WofE X)) (tCons (tVar 3) tNil)) env (.int (valW (TL.tl p))) := fun {env} hv => ev_callS (ds := [.str p]) (ea_cons (ev_var hv) ea_nil) ⟨p, rfl, pl, by rw [hp]; rfl⟩
      cases hq : okW (TL.tl q) with
      | false =>
        refine run_appX (C := C.BadText) rfl (ex_tup (exa_tl (cp rfl) (exa_hd (ex_call (ds := [.str q]) (ea_cons (ev_var rfl) ea_nil) ⟨q, rfl, ql, by rw [hq]; rfl⟩)))) (bad ?_)
        rw [ew, hp, hq]
        rfl
      | true =>
        have ep : wordP (TL.tl w) = some (valW (TL.tl p), valW (TL.tl q)) := by
          rw [ew, hp, hq]
          rfl
        have hrl : r.length ≤ 1000 := by
          have := seqP_len hr
          rw [List.length_take] at this
          omega
        refine run_app (ds := rowL r) (d := prD (valW (TL.tl p), valW (TL.tl q))) rfl (ev_tup (ea_cons (cp rfl) (ea_cons (ev_callS (ds := [.str q]) (ea_cons (ev_var rfl) ea_nil) ⟨q, rfl, ql, by rw [hq]; rfl⟩) ea_nil))) (by rw [List.length_map]; omega) ⟨r ++ [(valW (TL.tl p), valW (TL.tl q))], .im (.str w), .im (.str p), .im (.str m), .im (.str q), ?_, ?_⟩
        · rw [rowL_snoc]
          rfl
        · rw [htk]
          exact seqP_snoc hr ep
  · rintro e ⟨r, y2, y3, y4, y5, rfl, hr⟩
    have hlen : ((Txt.split x " ").map Da.str).length = (cut 32 (TL.tl x)).length := by
      rw [List.length_map, ← split_sp x, List.length_map]
    rw [hlen, List.take_length] at hr
    have hrl : r.length ≤ 1000 := by
      have := seqP_len hr
      omega
    have eo : readO C x = if rowB (rowD r) = true then .ls (rowL r) else .ex C.BadText := by
      unfold readO
      rw [readP_ne hx, hr]
      show (match (if rowB (rowD r) = true then some r else none) with | some row => Out.ls (rowL row) | none => .ex C.BadText) = _
      by_cases z : rowB (rowD r) = true
      · rw [if_pos z, if_pos z]
      · rw [if_neg z, if_neg z]
    refine run_seq (run_tryOnly fun W => ?_)
    cases hb : rowB (rowD r) with
    | true =>
      refine run_drop (d := .non) (ev_callS (ds := [rowD r]) (ea_cons (ev_var rfl) ea_nil) ⟨_, rfl, kn3_row hrl, by rw [hb]; rfl⟩) ?_
      refine run_retV (ds := rowL r) rfl (.inl ?_)
      rw [eo, hb]
      rfl
    | false =>
      refine run_dropX (C := C.BadRow) (ex_call (ds := [rowD r]) (ea_cons (ev_var rfl) ea_nil) ⟨_, rfl, kn3_row hrl, by rw [hb]; rfl⟩) ⟨A.rr, fun a => run_raise ?_⟩
      show readO C x = _
      rw [eo, hb]
      rfl
end
end FX

/-! law_k07: the law's own reading. -/
namespace FX
open PySem L2 Evl FR
open PySem.Spec PyProof.Rows
theorem rowB_iff {row : List (Int × Int)} : rowB (rowD row) = true ↔ (∀ p ∈ row, 0 < p.2) ∧ ∀ k : Nat, k + 1 < row.length → plc row k < plc row ((k + 1 : Nat) : Int) := by
  have e : rowB (rowD row) = ((rowL row).all stoneB && incB row) := by
    show ((rowL row).all stoneB && incB (rowOf (rowL row))) = _
    rw [rowOf_row]
  rw [e, Bool.and_eq_true]
  have e1 : ∀ k : Nat, (1 : Int) + (k : Nat) - 1 = ((k : Nat) : Int) := fun k => by omega
  have e2 : ∀ k : Nat, (1 : Int) + (k : Nat) = ((k + 1 : Nat) : Int) := fun k => by omega
  constructor
  · rintro ⟨h1, h2⟩
    constructor
    · intro p hp
      have := List.all_eq_true.mp h1 (prD p) (List.mem_map.mpr ⟨p, hp, rfl⟩)
      have z : (true && decide (0 < p.2)) = true := this
      rw [Bool.true_and, decide_eq_true_eq] at z
      exact z
    · intro k hk
      have := List.all_eq_true.mp h2 k (List.mem_range.mpr (by omega))
      rw [decide_eq_true_eq, e1, e2] at this
      exact this
  · rintro ⟨h1, h2⟩
    constructor
    · refine List.all_eq_true.mpr fun d hd => ?_
      obtain ⟨p, hp, rfl⟩ := List.mem_map.mp hd
      show (true && decide (0 < p.2)) = true
      rw [Bool.true_and, decide_eq_true_eq]
      exact h1 p hp
    · refine List.all_eq_true.mpr fun k hk => ?_
      have := List.mem_range.mp hk
      rw [decide_eq_true_eq, e1, e2]
      exact h2 k (by omega)
theorem plc_app {a b : List (Int × Int)} {k : Nat} (h : k < a.length) : plc (a ++ b) k = plc a k := by
  unfold plc
  simp only [Int.toNat_natCast]
  rw [List.getD_eq_getElem?_getD, List.getD_eq_getElem?_getD, List.getElem?_append_left h]
theorem rowB_pre {a b : List (Int × Int)} (h : rowB (rowD (a ++ b)) = true) : rowB (rowD a) = true := by
  obtain ⟨h1, h2⟩ := rowB_iff.mp h
  refine rowB_iff.mpr ⟨fun p hp => h1 p (List.mem_append_left _ hp), fun k hk => ?_⟩
  have := h2 k (by rw [List.length_append]; omega)
  rw [plc_app (by omega), plc_app hk] at this
  exact this
/-- where the last stone stands -/
def lastP (r : List (Int × Int)) : Int := plc r ((r.length - 1 : Nat) : Int)
theorem plc_snoc (r : List (Int × Int)) (p : Int × Int) : plc (r ++ [p]) (r.length : Nat) = p.1 := by
  unfold plc
  simp only [Int.toNat_natCast]
  rw [List.getD_eq_getElem?_getD, List.getElem?_append_right (Nat.le_refl _), Nat.sub_self]
  rfl
theorem rowB_snoc {r : List (Int × Int)} {p : Int × Int} (h : rowB (rowD r) = true) : rowB (rowD (r ++ [p])) = true ↔ 0 < p.2 ∧ (r = [] ∨ lastP r < p.1) := by
  obtain ⟨h1, h2⟩ := rowB_iff.mp h
  constructor
  · intro hb
    obtain ⟨g1, g2⟩ := rowB_iff.mp hb
    refine ⟨g1 p (by simp), ?_⟩
    by_cases e : r = []
    · exact .inl e
    · right
      have hp : 0 < r.length := List.length_pos_iff.mpr e
      have := g2 (r.length - 1) (by rw [List.length_append, List.length_singleton]; omega)
      rw [plc_app (by omega), show r.length - 1 + 1 = r.length by omega, plc_snoc] at this
      exact this
  · rintro ⟨hp, hl⟩
    refine rowB_iff.mpr ⟨fun q hq => ?_, fun k hk => ?_⟩
    · rcases List.mem_append.mp hq with hq | hq
      · exact h1 q hq
      · rw [List.mem_singleton] at hq
        rw [hq]
        exact hp
    · rw [List.length_append, List.length_singleton] at hk
      by_cases e : k + 1 < r.length
      · rw [plc_app (by omega), plc_app e]
        exact h2 k e
      · have e2 : k + 1 = r.length := by omega
        rw [plc_app (by omega), e2, plc_snoc]
        rcases hl with z | z
        · rw [z] at e2
          simp at e2
        · unfold lastP at z
          rw [← e2] at z
          exact z
def wordsS (x : Str) : List Str := if TL.tl x = [] then [] else Txt.split x " "
theorem readP_words (x : Str) : readP (TL.tl x) = match seqP ((wordsS x).map TL.tl) with
    | some row => if rowB (rowD row) = true then some row else none
    | none => none := by
  unfold wordsS
  by_cases h : TL.tl x = []
  · rw [readP_nil h, if_pos h]
    rfl
  · rw [readP_ne h, if_neg h, split_sp] <;> (cases seqP (cut 32 (TL.tl x)) <;> rfl)
theorem words_tl (x : Str) : (wordsS x).map TL.tl = if TL.tl x = [] then [] else cut 32 (TL.tl x) := by
  unfold wordsS
  by_cases h : TL.tl x = []
  · rw [if_pos h, if_pos h]
    rfl
  · rw [if_neg h, if_neg h, split_sp]
/-- a word that ends the reading -/
theorem bad_at {W : List Cs} {n : Nat} {w : Cs} {r : List (Int × Int)} (hw : W[n]? = some w) (hr : seqP (W.take n) = some r) (hb : ∀ p, wordP w = some p → rowB (rowD (r ++ [p])) = false) :
    (match seqP W with | some row => if rowB (rowD row) = true then some row else none | none => (none : Option (List (Int × Int)))) = none := by
  cases hp : wordP w with
  | none => rw [seqP_none (List.mem_of_getElem? hw) hp]
  | some p =>
    have h1 := hb p hp
    have e : W = (W.take n ++ [w]) ++ W.drop (n + 1) := by
      have : W.take (n + 1) = W.take n ++ [w] := by
        rw [List.take_add_one, hw]
        rfl
      rw [← this, List.take_append_drop]
    have h2 := seqP_snoc hr hp
    cases hs : seqP W with
    | none => rfl
    | some R =>
      rw [e, seqP_app, h2] at hs
      cases hd : seqP (W.drop (n + 1)) with
      | none =>
        rw [hd] at hs
        cases hs
      | some s =>
        rw [hd] at hs
        have hs' : (r ++ [p]) ++ s = R := Option.some.inj hs
        have : rowB (rowD R) = false := by
          cases z : rowB (rowD R) with
          | false => rfl
          | true =>
            rw [← hs'] at z
            rw [rowB_pre z] at h1
            cases h1
        show (if rowB (rowD R) = true then some R else none) = none
        rw [this]
        rfl
section
variable {K : PySem.W.Frag} {C : CS} {env : En} {ta tb : TE}
theorem ev_inNon {ds : List Da} (ha : EvE K ta env .non) (hb : EvE K tb env (.lst ds)) (hs : ∀ d ∈ ds, d = .non ∨ ∃ i, d = .int i) : EvE K (tOp (rIn K false) ta tb) env (.bl (ds.any isNonD)) :=
  ev_op ha hb fun B H v w e r1 r2 Q q => by
    simp only [Rp] at r1 r2
    obtain ⟨a, xs, rfl, h2, h3⟩ := r2
    subst r1
    have key : ∀ {ds : List Da} {xs : List V}, (∀ d ∈ ds, d = .non ∨ ∃ i, d = .int i) → RpAll K B ds xs → xs.all flatV = true ∧ inV .non xs = ds.any isNonD := by
      intro ds
      induction ds with
      | nil =>
        intro xs _ h
        have : xs = [] := by simpa only [RpAll] using h
        subst this
        exact ⟨rfl, rfl⟩
      | cons d ds ih =>
        intro xs hs h
        obtain ⟨v, r, rfl, hv, hr⟩ := h.uncons
        obtain ⟨i1, i2⟩ := ih (fun d hd => hs d (List.mem_cons_of_mem _ hd)) hr
        rcases hs d (List.mem_cons_self ..) with rfl | ⟨i, rfl⟩
        · simp only [Rp] at hv
          subst hv
          refine ⟨by rw [List.all_cons, i1]; rfl, ?_⟩
          unfold inV at i2 ⊢
          rw [List.any_cons, List.any_cons]
          rfl
        · simp only [Rp] at hv
          subst hv
          refine ⟨by rw [List.all_cons, i1]; rfl, ?_⟩
          unfold inV at i2 ⊢
          rw [List.any_cons, List.any_cons, i2]
          rfl
    obtain ⟨k1, k2⟩ := key hs h3
    refine ⟨a, xs, rfl, .inl (sq_of (e _ _ h2)), rfl, k1, q _ B H (Gr.refl e) ?_⟩
    simp only [Rp]
    rw [← k2]
    rfl
theorem num_cases (w : Cs) : (okW w = false ∧ numD w = .non) ∨ (okW w = true ∧ numD w = .int (valW w)) := by
  unfold numD
  cases okW w with
  | false => exact .inl ⟨rfl, rfl⟩
  | true => exact .inr ⟨rfl, rfl⟩
theorem atI_last {r : List (Int × Int)} (h : r ≠ []) : atI (rowL r) (-1) = some (prD (lastP r, hgt r ((r.length - 1 : Nat) : Int))) := by
  have hp : 0 < r.length := List.length_pos_iff.mpr h
  have e : atI (rowL r) (-1) = (rowL r)[r.length - 1]? := by
    unfold atI ixN
    rw [List.length_map, if_neg (by decide), if_pos (by omega)]
    show (rowL r)[(-1 + (r.length : Int)).toNat]? = _
    congr 1
    omega
  rw [e, List.getElem?_map]
  have hg : r[r.length - 1]? = some (r[r.length - 1]) := List.getElem?_eq_getElem (by omega)
  rw [hg]
  exact congrArg some (congrArg prD (plc_get hg))
theorem ev_num {te : TE} {y : Str} (h : EvE K te env (.str y)) (hl : y.length ≤ 100000) : EvE K (tCall (sp_law_number K C) [] E0 (tCons te tNil)) env (numD (TL.tl y)) := ev_call (ds := [.str y]) (ea_cons h ea_nil) ⟨y, rfl, hl, rfl⟩
theorem run_law_in {ds : List Da} {o : Out} {X : XK} (h : P_law_in ds o) : Run K (t_law_in K C) (ent ds 4) (retR X o) := by
  obtain ⟨x, rfl, ⟨hl, hc⟩, rfl⟩ := h
  have hcl : ((wordsS x).map TL.tl).length ≤ 901 := by
    rw [words_tl]
    by_cases h : TL.tl x = []
    · rw [if_pos h]
      exact Nat.zero_le _
    · rw [if_neg h, cut_len]
      omega
  have hbad : readP (TL.tl x) = none → inO x = .rt .non := fun z => by
    unfold inO
    rw [z]
  refine run_seq (run_asgN (ds := rowL []) (en_lst ea_nil) ?_)
  refine run_seq (run_for (ds := (wordsS x).map Da.str) (wk_list (ev_ifE (eb_test (ev_neS (x := x) (ev_var rfl) ev_str)) (fun hb => ?_) fun hb => ?_)) (fun n e => ∃ r y2 y3 y4, e = [.im (.str x), .mu (rowL r), y2, y3, y4] ∧ seqP (((wordsS x).map TL.tl).take n) = some r ∧ rowB (rowD r) = true) ⟨[], _, _, _, rfl, rfl, rfl⟩ ?_ ?_)
  · refine (ev_split (x := x) (ev_var rfl) ev_str sp_one (by omega)).is ?_
    have : ¬ TL.tl x = [] := by
      rw [str_nil] at hb
      simpa using hb
    unfold wordsS
    rw [if_neg this]
  · refine (ev_new (en_lst ea_nil)).is ?_
    have : TL.tl x = [] := by
      rw [str_nil] at hb
      simpa using hb
    unfold wordsS
    rw [if_pos this]
    rfl
  · rintro n dd e hn ⟨r, y2, y3, y4, rfl, hr, hrb⟩
    obtain ⟨w, hw, rfl, hwt, htk⟩ := get_words (x := x) hn
    have hwl : w.length ≤ 100000 := by
      have := List.mem_of_getElem? hwt
      rw [words_tl] at this
      by_cases h : TL.tl x = []
      · rw [if_pos h] at this
        cases this
      · rw [if_neg h] at this
        exact Nat.le_trans (word_len (x := x) this) hl
    have hrl : r.length ≤ 901 := by
      have := seqP_len hr
      rw [List.length_take] at this
      omega
    have bad : (∀ p, wordP (TL.tl w) = some p → rowB (rowD (r ++ [p])) = false) → inO x = .rt .non := fun z => hbad (by
      rw [readP_words]
      exact bad_at hwt hr z)
    refine ⟨_, ts_name, ?_⟩
    show Run K _ [.im (.str x), .mu (rowL r), .im (.str w), y3, y4] _
    have ecut := split_co w
    refine run_seq (run_asg (d := .lst ((Txt.split w ":").map Da.str)) (ev_split (ev_var rfl) ev_str co_one (by omega)) ?_)
    generalize Txt.split w ":" = ps at ecut
    have ewp := wordP_cut (w := TL.tl w)
    rw [← ecut] at ewp
    have len_ps : ∀ y ∈ ps, y.length ≤ 100000 := fun y hy => by
      have : TL.tl y ∈ cut 58 (TL.tl w) := by
        rw [← ecut]
        exact List.mem_map.mpr ⟨y, hy, rfl⟩
      exact Nat.le_trans (word_len (x := w) this) hwl
    show Run K _ [.im (.str x), .mu (rowL r), .im (.str w), .im (.lst (ps.map Da.str)), y4] _
    have c1 : EvB K (tTest (tOp rNe (tCB (rLenS K) (tCons (tVar 3) tNil)) (tC (.int 2)))) (frz [.im (.str x), .mu (rowL r), .im (.str w), .im (.lst (ps.map Da.str)), y4]) (!decide (((ps.map Da.str).length : Int) = 2)) :=
      eb_test (ev_neI (ev_lenL (ds := ps.map Da.str) (ev_var rfl)) ev_int)
    by_cases h2 : ps.length = 2
    · match ps, h2 with
      | [a, b], _ =>
        have la := len_ps a (by simp)
        have lb := len_ps b (by simp)
        have ewp' : wordP (TL.tl w) = if (okW (TL.tl a) && okW (TL.tl b)) = true then some (valW (TL.tl a), valW (TL.tl b)) else none := ewp
        have va : ∀ {env : En}, env[3]? = some (.im (.lst [.str a, .str b])) → EvE K (tOp (rIxL K) (tVar 3) (tC (.int 0))) env (.str a) := fun {env} hv => ev_ixL (ds := [.str a, .str b]) (ev_var hv) ev_int rfl
        have vb : ∀ {env : En}, env[3]? = some (.im (.lst [.str a, .str b])) → EvE K (tOp (rIxL K) (tVar 3) (tC (.int 1))) env (.str b) := fun {env} hv => ev_ixL (ds := [.str a, .str b]) (ev_var hv) ev_int rfl
        have c2 : EvB K (tTest (tOp (rIn K false) (tC .non) (tLc (iList K (tVar 3)) (gName 4) tYes (tCall (sp_law_number K C) [] E0 (tCons (tVar 4) tNil)) [4]))) (frz [.im (.str x), .mu (rowL r), .im (.str w), .im (.lst [.str a, .str b]), y4]) ([numD (TL.tl a), numD (TL.tl b)].any isNonD) := by
          refine eb_test (ev_inNon ev_non (ev_new ((en_lc (us := [4]) Da.str (fun _ => true) (fun y : Str => numD (TL.tl y)) [a, b] (wk_list (ev_var rfl)) (by simp) (show 2 ≤ 50000 by decide) fun y hy => ⟨_, tc_name, eb_yes, fun _ => ?_⟩).is rfl)) fun d hd => ?_)
          · exact ev_num (ev_var rfl) (len_ps y hy)
          · simp only [List.mem_cons, List.not_mem_nil, or_false] at hd
            rcases hd with rfl | rfl
            · rcases num_cases (TL.tl a) with ⟨_, e⟩ | ⟨_, e⟩
              · exact .inl e
              · exact .inr ⟨_, e⟩
            · rcases num_cases (TL.tl b) with ⟨_, e⟩ | ⟨_, e⟩
              · exact .inl e
              · exact .inr ⟨_, e⟩
        by_cases hk : okW (TL.tl a) = true ∧ okW (TL.tl b) = true
        · have na : numD (TL.tl a) = .int (valW (TL.tl a)) := by
            unfold numD
            rw [if_pos hk.1]
          have nb : numD (TL.tl b) = .int (valW (TL.tl b)) := by
            unfold numD
            rw [if_pos hk.2]
          have ep : wordP (TL.tl w) = some (valW (TL.tl a), valW (TL.tl b)) := by
            rw [ewp', hk.1, hk.2]
            rfl
          rw [na, nb] at c2
          have na' : ∀ {env : En}, env[3]? = some (.im (.lst [.str a, .str b])) → EvE K (tCall (sp_law_number K C) [] E0 (tCons (tOp (rIxL K) (tVar 3) (tC (.int 0))) tNil)) env (.int (valW (TL.tl a))) := fun hv => (ev_num (va hv) la).is na
          have nb' : ∀ {env : En}, env[3]? = some (.im (.lst [.str a, .str b])) → EvE K (tCall (sp_law_number K C) [] E0 (tCons (tOp (rIxL K) (tVar 3) (tC (.int 1))) tNil)) env (.int (valW (TL.tl b))) := fun hv => (ev_num (vb hv) lb).is nb
          have snoc := rowB_snoc (p := (valW (TL.tl a), valW (TL.tl b))) hrb
          refine run_seq (run_if (b := false || (false || decide (valW (TL.tl b) < 1))) (eb_or c1 fun _ => eb_or c2 fun _ => eb_test (ev_lt (nb' rfl) ev_int)) (fun hb => run_ret ev_non (bad fun p hp => ?_)) fun hb => run_next ?_)
          · rw [ep] at hp
            cases hp
            have hlt : valW (TL.tl b) < 1 := by simpa using hb
            cases z : rowB (rowD (r ++ [(valW (TL.tl a), valW (TL.tl b))])) with
            | false => rfl
            | true =>
              have := (snoc.mp z).1
              have : (0 : Int) < valW (TL.tl b) := this
              omega
          have hge : ¬ valW (TL.tl b) < 1 := by simpa using hb
          have go : (r = [] ∨ lastP r < valW (TL.tl a)) → Run K (tDrop (tBM K "list" rAppend (tVar 1) (tCons (tTup (tCons (tCall (sp_law_number K C) [] E0 (tCons (tOp (rIxL K) (tVar 3) (tC (.int 0))) tNil)) (tCons (tCall (sp_law_number K C) [] E0 (tCons (tOp (rIxL K) (tVar 3) (tC (.int 1))) tNil)) tNil))) tNil)))
              [.im (.str x), .mu (rowL r), .im (.str w), .im (.lst [.str a, .str b]), y4] { nx := fun e => ∃ r y2 y3 y4, e = [.im (.str x), .mu (rowL r), y2, y3, y4] ∧ seqP (((wordsS x).map TL.tl).take (n + 1)) = some r ∧ rowB (rowD r) = true, rd := (retR X (inO x)).rd, rl := (retR X (inO x)).rl, ro := (retR X (inO x)).ro, bk := fun e => Run K (tRet (tVar 1)) e (retR X (inO x)), ct := fun e => ∃ r y2 y3 y4, e = [.im (.str x), .mu (rowL r), y2, y3, y4] ∧ seqP (((wordsS x).map TL.tl).take (n + 1)) = some r ∧ rowB (rowD r) = true, xk := (retR X (inO x)).xk, rx := (retR X (inO x)).rx } := fun hlast => by
            refine run_app (ds := rowL r) (d := prD (valW (TL.tl a), valW (TL.tl b))) rfl (ev_tup (ea_cons (na' rfl) (ea_cons (nb' rfl) ea_nil))) (by rw [List.length_map]; omega) ⟨r ++ [(valW (TL.tl a), valW (TL.tl b))], .im (.str w), .im (.lst [.str a, .str b]), y4, ?_, ?_, ?_⟩
            · rw [rowL_snoc]
              rfl
            · rw [htk]
              exact seqP_snoc hr ep
            · refine snoc.mpr ⟨?_, hlast⟩
              show (0 : Int) < valW (TL.tl b)
              omega
          by_cases hre : r = []
          · refine run_seq (run_if (b := !decide (r = []) && true) (eb_and (eb_test (ev_neRow (ns := r) (ms := []) (ev_var rfl) (ev_new (en_lst ea_nil)))) fun z => by rw [decide_eq_true hre] at z; cases z) (fun z => by rw [decide_eq_true hre] at z; cases z) fun _ => run_next ?_)
            exact go (.inl hre)
          · refine run_seq (run_if (b := !decide (r = []) && decide (valW (TL.tl a) ≤ lastP r)) (eb_and (eb_test (ev_neRow (ns := r) (ms := []) (ev_var rfl) (ev_new (en_lst ea_nil)))) fun _ => eb_test (ev_ge (ev_ixT (ds := [.int (lastP r), .int (hgt r ((r.length - 1 : Nat) : Int))]) (ev_ixL (ds := rowL r) (ev_var rfl) (ev_neg ev_int) (atI_last hre)) ev_int rfl) (na' rfl))) (fun hb => run_ret ev_non (bad fun p hp => ?_)) fun hb => run_next ?_)
            · rw [ep] at hp
              cases hp
              rw [decide_eq_false hre, Bool.not_false, Bool.true_and, decide_eq_true_eq] at hb
              cases z : rowB (rowD (r ++ [(valW (TL.tl a), valW (TL.tl b))])) with
              | false => rfl
              | true =>
                rcases (snoc.mp z).2 with e | e
                · exact absurd e hre
                · have : lastP r < valW (TL.tl a) := e
                  omega
            · rw [decide_eq_false hre, Bool.not_false, Bool.true_and, decide_eq_false_iff_not] at hb
              exact go (.inr (by omega))
        · have en : wordP (TL.tl w) = none := by
            rw [ewp']
            cases h1 : okW (TL.tl a) with
            | false => rfl
            | true =>
              cases h2 : okW (TL.tl b) with
              | false => rfl
              | true => exact absurd ⟨h1, h2⟩ hk
          have hany : [numD (TL.tl a), numD (TL.tl b)].any isNonD = true := by
            rcases num_cases (TL.tl a) with ⟨_, e⟩ | ⟨k1, e⟩
            · rw [e]
              rfl
            · rcases num_cases (TL.tl b) with ⟨_, e2⟩ | ⟨k2, e2⟩
              · rw [e, e2]
                rfl
              · exact absurd ⟨k1, k2⟩ hk
          rw [hany] at c2
          refine run_seq (run_if (b := false || (true || true)) (eb_or c1 fun _ => eb_or c2 fun z => by cases z) (fun hb => run_ret ev_non (bad fun p hp => ?_)) fun z => by cases z)
          rw [en] at hp
          cases hp
    · have en : wordP (TL.tl w) = none := by
        rw [ewp]
        match ps, h2 with
        | [], _ => rfl
        | [a], _ => rfl
        | a :: b :: c :: r, _ => rfl
        | [a, b], h => exact absurd rfl h
      have hne : (!decide (((ps.map Da.str).length : Int) = 2)) = true := by
        rw [List.length_map, decide_eq_false (by omega)]
        rfl
      rw [hne] at c1
      refine run_seq (run_if (b := true || true) (eb_or c1 fun z => by cases z) (fun hb => run_ret ev_non (bad fun p hp => ?_)) fun z => by cases z)
      rw [en] at hp
      cases hp
  · rintro e ⟨r, y2, y3, y4, rfl, hr, hrb⟩
    have hlen : ((wordsS x).map Da.str).length = ((wordsS x).map TL.tl).length := by rw [List.length_map, List.length_map]
    rw [hlen, List.take_length] at hr
    refine run_retV (ds := rowL r) rfl (.inl ?_)
    show inO x = _
    unfold inO
    rw [readP_words, hr]
    show (match (if rowB (rowD r) = true then some r else none) with | some row => Out.ls (rowL row) | none => .rt .non) = _
    rw [hrb]
    rfl
end
end FX

/-! law_k07: the law. -/
namespace FX
open PySem L2 Evl FR
open PySem.Spec PyProof.Rows
/-! ### few signs, few blanks -/
def few (x : Str) (l k : Nat) : Prop := (TL.tl x).length ≤ l ∧ (TL.tl x).count 32 ≤ k
theorem few_app {x y : Str} {a b c d : Nat} (h : few x a b) (g : few y c d) : few (x ++ y) (a + c) (b + d) := by
  unfold few at *
  rw [TL.tl_append, List.length_append, List.count_append]
  omega
theorem few_ok {x : Str} {l k : Nat} (h : few x l k) (hl : l ≤ 100000) (hk : k ≤ 900) : okT x := ⟨by rw [TL.len_tl]; have := h.1; omega, by have := h.2; omega⟩
theorem few_le {x : Str} {l k l' k' : Nat} (h : few x l k) (hl : l ≤ l') (hk : k ≤ k') : few x l' k' := ⟨by have := h.1; omega, by have := h.2; omega⟩
def times (x : Str) (n : Nat) : Str := ⟨(List.replicate n x.cps).foldl (· ++ ·) #[]⟩
theorem times_tl {x : Str} {c : Nat} (h : TL.tl x = [c]) (n : Nat) : TL.tl (times x n) = List.replicate n c := by
  unfold times
  rw [mul_tl, h]
  induction n with
  | zero => rfl
  | succ n ih =>
    rw [List.replicate_succ, List.flatten_cons, ih]
    rfl
theorem few_times {x : Str} {c : Nat} (h : TL.tl x = [c]) (hc : c ≠ 32) (n : Nat) : few (times x n) n 0 := by
  unfold few
  rw [times_tl h, List.length_replicate, List.count_replicate]
  refine ⟨Nat.le_refl _, ?_⟩
  have : (c == 32) = false := by simpa using hc
  rw [this]
  exact Nat.le_refl _
theorem few_cut {x : Str} {l k : Nat} (h : few x l k) (lo hi : Option Int) : few (cutS x lo hi) l k := by
  have := cut_few x lo hi
  rw [TL.len_tl, TL.len_tl] at this
  exact ⟨by have := h.1; omega, by have := h.2; omega⟩
theorem few_sign (c : Nat) : few ⟨#[c]⟩ 1 1 := by
  refine ⟨Nat.le_refl _, ?_⟩
  exact List.count_le_length
theorem numT_free (i : Int) : 32 ∉ numT i := by
  by_cases hi : 0 ≤ i
  · obtain ⟨n, rfl⟩ := Int.eq_ofNat_of_zero_le hi
    rw [numT_nat]
    exact TL.numL_free (by decide)
  · obtain ⟨n, hn⟩ := Int.eq_ofNat_of_zero_le (by omega : 0 ≤ -i)
    have e : i = -(n : Int) := by omega
    subst e
    rw [numT_neg (by omega)]
    intro h
    rcases List.mem_cons.mp h with z | z
    · cases z
    · exact TL.numL_free (by decide) z
theorem wordT_free (p : Int × Int) : (wordT p).count 32 = 0 := by
  refine List.count_eq_zero.mpr fun h => ?_
  unfold wordT at h
  rcases List.mem_append.mp h with h | h
  · exact numT_free _ h
  · rcases List.mem_cons.mp h with z | z
    · cases z
    · exact numT_free _ z
theorem join_few : ∀ (row : List (Int × Int)), (∀ p ∈ row, lt60 p) → (writ row).length ≤ row.length * 124 ∧ (writ row).count 32 ≤ row.length
  | [], _ => ⟨Nat.le_refl _, Nat.le_refl _⟩
  | [p], h => by
    have := wstr_len (h p (by simp))
    rw [TL.len_tl, tl_wstr] at this
    show (wordT p).length ≤ 1 * 124 ∧ (wordT p).count 32 ≤ 1
    rw [wordT_free]
    omega
  | p :: q :: r, h => by
    have ih := join_few (q :: r) fun x hx => h x (List.mem_cons_of_mem _ hx)
    have := wstr_len (h p (by simp))
    rw [TL.len_tl, tl_wstr] at this
    show (wordT p ++ ([32] ++ writ (q :: r))).length ≤ _ ∧ (wordT p ++ ([32] ++ writ (q :: r))).count 32 ≤ _
    rw [List.length_append, List.length_append, List.count_append, List.count_append, wordT_free]
    have e : ([32] : Cs).count 32 = 1 := rfl
    rw [e]
    simp only [List.length_cons, List.length_nil] at ih ⊢
    omega
theorem few_wrS {row : List (Int × Int)} (h : ∀ p ∈ row, lt60 p) (hl : row.length ≤ 63) : few (wrS row) 10000 63 := by
  have := join_few row h
  unfold few
  rw [tl_wrS]
  omega
/-! ### the row's numbers -/
theorem goR_in {ap hi : Int} (ha : 0 < ap) (hh : 0 < hi) : ∀ (l : List Int) (p : Int), ∀ q ∈ goR ap hi p l, (p < q.1 ∧ q.1 ≤ p + l.length * ap) ∧ (0 < q.2 ∧ q.2 ≤ hi)
  | [], p, q, hq => by cases hq
  | c :: r, p, q, hq => by
    have m1 := Int.emod_nonneg c (by omega : ap ≠ 0)
    have m2 := Int.emod_lt_of_pos c ha
    have z1 := Int.emod_nonneg (c / ap + c / 11) (by omega : hi ≠ 0)
    have z2 := Int.emod_lt_of_pos (c / ap + c / 11) hh
    have hsum : (((c :: r).length : Nat) : Int) * ap = (r.length : Int) * ap + ap := by
      rw [List.length_cons]
      have : (((r.length + 1 : Nat) : Nat) : Int) = (r.length : Int) + 1 := by omega
      rw [this, Int.add_mul, Int.one_mul]
    have hr0 : (0 : Int) ≤ (r.length : Int) * ap := Int.mul_nonneg (by omega) (by omega)
    rw [hsum]
    have hq' : q = (stepP ap p c, stepH ap hi c) ∨ q ∈ goR ap hi (stepP ap p c) r := List.mem_cons.mp hq
    rcases hq' with rfl | hq'
    · refine ⟨⟨?_, ?_⟩, ?_, ?_⟩
      · show p < p + 1 + c % ap
        omega
      · show p + 1 + c % ap ≤ _
        omega
      · show 0 < 1 + (c / ap + c / 11) % hi
        omega
      · show 1 + (c / ap + c / 11) % hi ≤ hi
        omega
    · have ih := goR_in ha hh r (stepP ap p c) q hq'
      unfold stepP at ih
      omega
theorem apH_le (c : Int) : (apH c).2 ≤ 10 ^ 20 := by
  unfold apH
  repeat' split
  all_goals decide +kernel
theorem lrow_lt {ns : List Int} (h : ns.length ≤ 63) : (∀ p ∈ lrow ns, lt60 p) ∧ ∀ p ∈ lrow ns, p.1 < 10 ^ 60 := by
  have ha := apH_pos ns.sum
  have hb := apH_le ns.sum
  have z : (63 : Int) * 10 ^ 20 < 10 ^ 60 := by decide +kernel
  have z2 : (90 : Int) < 10 ^ 60 := by decide +kernel
  have z3 : (10 : Int) ^ 20 < 10 ^ 60 := by decide +kernel
  have m1 := Int.emod_nonneg (ns.sum / 4) (by decide : (90 : Int) ≠ 0)
  have m2 := Int.emod_lt_of_pos (ns.sum / 4) (by decide : (0 : Int) < 90)
  have key : ∀ p ∈ lrow ns, lt60 p := fun p hp => by
    have g := goR_in ha.1.1 ha.2 ns (-(ns.sum / 4 % 90)) p hp
    have h3 : (ns.length : Int) * (apH ns.sum).1 ≤ 63 * 10 ^ 20 := by
      have h1 : (ns.length : Int) * (apH ns.sum).1 ≤ 63 * (apH ns.sum).1 := Int.mul_le_mul_of_nonneg_right (by omega) (by omega)
      have h2 := ha.1.2
      generalize (10 : Int) ^ 20 = t at *
      omega
    unfold lt60
    generalize (10 : Int) ^ 60 = m at *
    generalize (10 : Int) ^ 20 = t at *
    generalize (ns.length : Int) * (apH ns.sum).1 = u at *
    omega
  exact ⟨key, fun p hp => (key p hp).1.2⟩
/-! ### promises -/
def S_ask (K : PySem.W.Frag) (C : CS) (f : Addr) (sp : Sp) : Prop := (f = fa C 0 ∧ sp = sp_written K C) ∨ (f = fa C 1 ∧ sp = sp_read K C)
def P_law_refused (C : CS) (ds : List Da) (d : Da) : Prop := ∃ (i : Nat) (thing : Da) (due : Int), ds = [.cls (fa C i), thing, .int due] ∧ ((i = 0 ∧ due = 0 ∧ P_written C [thing] (.ex C.BadRow)) ∨ (i = 1 ∧ due = 1 ∧ P_read C [thing] (.ex C.BadText))) ∧ d = .bl true
def P_law_right (C : CS) (ds : List Da) (d : Da) : Prop := ∃ x : Str, ds = [.str x] ∧ okT x ∧ d = .bl true
def fewA : List Str := ["", " ", "0:1", "1:0", "1:-1", "-1:1", "-0:1", "0:01", "00:1", "1:2 1:3", "2:1 1:1", "1:1 2:1", "1:1  2:1"]
def fewB : List Str := ["1:1 ", " 1:1", "1;1", "1:", ":1", "1", "1:1:1", "+1:1", "1:+1", "1_0:1", "1: 1"]
def fewC : List Str := ["1:1\t2:1", "1:1\n"]
def fewD : List Str := ["-:1", "a:1", "--1:1", "1.0:1", ("-" : Str) ++ times "9" 60 ++ (":1" : Str), ("-" : Str) ++ times "9" 61 ++ (":1" : Str), ("0:" : Str) ++ times "9" 60]
def fewE : List Str := [("0:" : Str) ++ times "9" 61, times "1" 4000 ++ (":1" : Str), ("0:1 " : Str) ++ times "9" 60 ++ (":2" : Str)]
def fewS : List Str := (((fewA ++ fewB) ++ fewC) ++ fewD) ++ fewE
def P_law_few (ds es : List Da) : Prop := ds = [] ∧ es = fewS.map Da.str
def P_law (ds : List Da) (d : Da) : Prop := ∃ ns : List Int, ds = [.sq (intL ns)] ∧ ns.length ≤ 63 ∧ d = .bl true
abbrev P_law_row := FR.P_law_row
abbrev sp_law_row (K : PySem.W.Frag) (C : CS) : Sp := FnL K P_law_row
abbrev sp_law_refused (K : PySem.W.Frag) (C : CS) : Sp := FnP K (P_law_refused C)
abbrev sp_law_right (K : PySem.W.Frag) (C : CS) : Sp := FnP K (P_law_right C)
abbrev sp_law_few (K : PySem.W.Frag) (C : CS) : Sp := FnL K P_law_few
abbrev sp_law (K : PySem.W.Frag) (C : CS) : Sp := FnP K P_law
def t_law_row (K : PySem.W.Frag) (C : CS) : TS :=
  (tSeq (tAsg (tCB (rSum K) (tCons (tVar 0) tNil)) (gName 1)) (tSeq (tAsg (tOp (rIxT K) (tTup (tCons (tTup (tCons (tC (.int 3)) (tCons (tC (.int 4)) tNil))) (tCons (tTup (tCons (tC (.int 9)) (tCons (tC (.int 12)) tNil))) (tCons (tTup (tCons (tOp rPowI (tC (.int 10)) (tC (.int 20))) (tCons (tOp rPowI (tC (.int 10)) (tC (.int 20))) tNil))) (tCons (tTup (tCons (tC (.int 6)) (tCons (tC (.int 4)) tNil))) tNil))))) (tOp rModI (tVar 1) (tC (.int 4)))) (gTup K 2 (gCons (gName 2) (gCons (gName 3) gNil)))) (tSeq (tAsg (tUn (rU fun i => .int (-i)) (tOp rModI (tOp rDivI (tVar 1) (tC (.int 4))) (tC (.int 90)))) (gName 4)) (tSeq (tAsg (tLst tNil) (gName 5)) (tSeq (tFor (iList K (tVar 0)) (gName 6) (tSeq (tAsg (tOp rAddI (tOp rAddI (tVar 4) (tC (.int 1))) (tOp rModI (tVar 6) (tVar 2))) (gName 4)) (tDrop (tBM K "list" rAppend (tVar 5) (tCons (tTup (tCons (tVar 4) (tCons (tOp rAddI (tC (.int 1)) (tOp rModI (tOp rAddI (tOp rDivW (tVar 6) (tVar 2)) (tOp rDivI (tVar 6) (tC (.int 11)))) (tVar 3))) tNil))) tNil))))) (tRet (tVar 5)))))))
def t_law_refused (K : PySem.W.Frag) (C : CS) : TS :=
  (tSeq (tTryAs K (.ref C.FallError) 3 (fun W => (tDrop (tCallF (S_ask K C) (WE W) (tVar 0) (tCons (tVar 1) tNil)))) (fun a => tSuite (fun De => ExcC K De) fun De => (tSeq (tAsg (tLst (tCons (tCB (rIsE K De a) (tCons (tVar 3) (tCons (tC (.ref C.BadRow)) tNil))) (tCons (tCB (rIsE K De a) (tCons (tVar 3) (tCons (tC (.ref C.BadText)) tNil))) (tCons (tCB (rIsE K De a) (tCons (tVar 3) (tCons (tC (.ref C.BadSide)) tNil))) tNil)))) (gName 4)) (tRet (tOp (rEqD K) (tOp rCat (tVar 4) (tLst (tCons (tCB (rIsE K De a) (tCons (tVar 3) (tCons (tC (.ref C.BadStone)) tNil))) tNil))) (tLst (tCons (tOp rEq (tVar 2) (tC (.int 0))) (tCons (tOp rEq (tVar 2) (tC (.int 1))) (tCons (tC (.bl false)) (tCons (tC (.bl false)) tNil))))))))) (fun _ _ _ _ => False)) (tRet (tC (.bl false))))
def t_law_right (K : PySem.W.Frag) (C : CS) : TS :=
  (tSeq (tAsg (tCall (sp_law_in K C) [] E0 (tCons (tVar 0) tNil)) (gName 1)) (tSeq (tIfS (tTest (tOp rIsN (tVar 1) (tC .non))) (tRet (tCall (sp_law_refused K C) [] E0 (tCons (tC (.ref (fa C 1))) (tCons (tVar 0) (tCons (tC (.int 1)) tNil))))) tNext) (tSeq (tAsg (tCall (sp_read K C) [] E0 (tCons (tVar 0) tNil)) (gName 2)) (tSeq (tIfS (tOr (tNot (tB (tCB (rIsi K) (tCons (tVar 2) (tCons (tC (.ty "list")) tNil))))) (tOr (tTest (tOp (rNeD K) (tVar 2) (tVar 1))) (tTest (tOp rNe (tCall (sp_written K C) [] E0 (tCons (tVar 2) tNil)) (tVar 0))))) (tRet (tC (.bl false))) tNext) (tSeq (tIfS (tNot (tB (tCB (rAll K) (tCons (tLc (iList K (tVar 2)) (gName 3) tYes (tCB (rIsi K) (tCons (tVar 3) (tCons (tC (.ty "tuple")) tNil))) [3]) tNil)))) (tRet (tC (.bl false))) tNext) (tSeq (tDrop (tBM K "list" rAppend (tVar 2) (tCons (tTup (tCons (tC (.int 0)) (tCons (tC (.int 0)) tNil))) tNil))) (tRet (tOp (rEqD K) (tCall (sp_read K C) [] E0 (tCons (tVar 0) tNil)) (tVar 1)))))))))
def t_law_few (K : PySem.W.Frag) (C : CS) : TS :=
  (tSeq (tAsg (tLst (tCons (tC (.str "")) (tCons (tC (.str " ")) (tCons (tC (.str "0:1")) (tCons (tC (.str "1:0")) (tCons (tC (.str "1:-1")) (tCons (tC (.str "-1:1")) (tCons (tC (.str "-0:1")) (tCons (tC (.str "0:01")) (tCons (tC (.str "00:1")) (tCons (tC (.str "1:2 1:3")) (tCons (tC (.str "2:1 1:1")) (tCons (tC (.str "1:1 2:1")) (tCons (tC (.str "1:1  2:1")) tNil)))))))))))))) (gName 0)) (tSeq (tAsg (tOp rCat (tVar 0) (tLst (tCons (tC (.str "1:1 ")) (tCons (tC (.str " 1:1")) (tCons (tC (.str "1;1")) (tCons (tC (.str "1:")) (tCons (tC (.str ":1")) (tCons (tC (.str "1")) (tCons (tC (.str "1:1:1")) (tCons (tC (.str "+1:1")) (tCons (tC (.str "1:+1")) (tCons (tC (.str "1_0:1")) (tCons (tC (.str "1: 1")) tNil))))))))))))) (gName 0)) (tSeq (tAsg (tOp rCat (tVar 0) (tLst (tCons (tC (.str "1:1\t2:1")) (tCons (tC (.str "1:1\n")) tNil)))) (gName 0)) (tSeq (tAsg (tOp rCat (tVar 0) (tLst (tCons (tC (.str "-:1")) (tCons (tC (.str "a:1")) (tCons (tC (.str "--1:1")) (tCons (tC (.str "1.0:1")) (tCons (tOp rCatS (tOp rCatS (tC (.str "-")) (tOp rMulS (tC (.str "9")) (tC (.int 60)))) (tC (.str ":1"))) (tCons (tOp rCatS (tOp rCatS (tC (.str "-")) (tOp rMulS (tC (.str "9")) (tC (.int 61)))) (tC (.str ":1"))) (tCons (tOp rCatS (tC (.str "0:")) (tOp rMulS (tC (.str "9")) (tC (.int 60)))) tNil))))))))) (gName 0)) (tRet (tOp rCat (tVar 0) (tLst (tCons (tOp rCatS (tC (.str "0:")) (tOp rMulS (tC (.str "9")) (tC (.int 61)))) (tCons (tOp rCatS (tOp rMulS (tC (.str "1")) (tC (.int 4000))) (tC (.str ":1"))) (tCons (tOp rCatS (tOp rCatS (tC (.str "0:1 ")) (tOp rMulS (tC (.str "9")) (tC (.int 60)))) (tC (.str ":2"))) tNil))))))))))
def t_law (K : PySem.W.Frag) (C : CS) : TS :=
  (tSeq (tAsg (tCall (sp_law_row K C) [] E0 (tCons (tVar 0) tNil)) (gName 1)) (tSeq (tAsg (tM1 (rJoin K) (tC (.str " ")) (tLc (iList K (tVar 1)) (gTup K 2 (gCons (gName 9) (gCons (gName 10) gNil))) tYes (tOp rCatS (tOp rCatS (tCB rStrI (tCons (tVar 9) tNil)) (tC (.str ":"))) (tCB rStrI (tCons (tVar 10) tNil))) [9, 10])) (gName 2)) (tSeq (tAsg (tCB (rListS K) (tCons (tVar 1) tNil)) (gName 3)) (tSeq (tIfS (tOr (tTest (tOp rNe (tCall (sp_written K C) [] E0 (tCons (tVar 3) tNil)) (tVar 2))) (tOr (tTest (tOp (rNeD K) (tVar 3) (tVar 1))) (tNot (tB (tCall (sp_law_right K C) [] E0 (tCons (tVar 2) tNil)))))) (tRet (tC (.bl false))) tNext) (tSeq (tFor (iList K (tOp rCat (tSl (rSlL K) (tVar 0) tNoPart (tPart (tC (.int 20)))) (tSlStep K (tVar 0) (tPart (tC (.int 20))) (tPart (tC (.int 5)))))) (gName 4) (tSeq (tAsg (tOp rModI (tOp rDivI (tVar 4) (tC (.int 41))) (tOp rAddI (tCB rLenSt (tCons (tVar 2) tNil)) (tC (.int 1)))) (gName 5)) (tSeq (tAsg (tOp (rIxT K) (tTup (tCons (tC (.str "")) (tCons (tOp rIxS (tC (.str "0123456789:- +\n")) (tOp rModI (tOp rDivI (tVar 4) (tC (.int 3))) (tC (.int 15)))) tNil))) (tOp rModI (tOp rDivI (tVar 4) (tC (.int 7))) (tC (.int 2)))) (gName 6)) (tIfS (tNot (tB (tCall (sp_law_right K C) [] E0 (tCons (tOp rCatS (tOp rCatS (tSl rSlS (tVar 2) tNoPart (tPart (tVar 5))) (tVar 6)) (tSl rSlS (tVar 2) (tPart (tOp rAddI (tVar 5) (tOp rModI (tOp rDivI (tVar 4) (tC (.int 13))) (tC (.int 2))))) tNoPart)) tNil)))) (tRet (tC (.bl false))) tNext)))) (tSeq (tIfS (tNot (tB (tCB (rAll K) (tCons (tLc (iList K (tCall (sp_law_few K C) [] E0 tNil)) (gName 11) tYes (tCall (sp_law_right K C) [] E0 (tCons (tVar 11) tNil)) [11]) tNil)))) (tRet (tC (.bl false))) tNext) (tSeq (tAsg (tOp rPowI (tC (.int 10)) (tC (.int 60))) (gName 7)) (tSeq (tFor (iList K (tLst (tCons (tLst (tCons (tTup (tCons (tVar 7) (tCons (tC (.int 1)) tNil))) tNil)) (tCons (tLst (tCons (tTup (tCons (tUn (rU fun i => .int (-i)) (tVar 7)) (tCons (tC (.int 1)) tNil))) tNil)) (tCons (tLst (tCons (tTup (tCons (tC (.int 0)) (tCons (tVar 7) tNil))) tNil)) (tCons (tOp rCat (tVar 1) (tLst (tCons (tTup (tCons (tOp rMulI (tC (.int 2)) (tVar 7)) (tCons (tC (.int 1)) tNil))) tNil))) tNil)))))) (gName 8) (tIfS (tNot (tB (tCall (sp_law_refused K C) [] E0 (tCons (tC (.ref (fa C 0))) (tCons (tVar 8) (tCons (tC (.int 0)) tNil)))))) (tRet (tC (.bl false))) tNext)) (tSeq (tIfS (tTest (tOp rNe (tCall (sp_written K C) [] E0 (tCons (tLst (tCons (tTup (tCons (tOp rSubI (tC (.int 1)) (tVar 7)) (tCons (tOp rSubI (tVar 7) (tC (.int 1))) tNil))) tNil)) tNil)) (tOp rCatS (tOp rCatS (tOp rCatS (tC (.str "-")) (tOp rMulS (tC (.str "9")) (tC (.int 60)))) (tC (.str ":"))) (tOp rMulS (tC (.str "9")) (tC (.int 60)))))) (tRet (tC (.bl false))) tNext) (tRet (tCB (rAll K) (tCons (tLc (iList K (tLst (tCons (tC .non) (tCons (tC (.int 5)) (tCons (tLst (tCons (tC (.str "0:1")) tNil)) (tCons (tC (.bl true)) tNil)))))) (gName 12) tYes (tCall (sp_law_refused K C) [] E0 (tCons (tC (.ref (fa C 1))) (tCons (tVar 12) (tCons (tC (.int 1)) tNil)))) [12]) tNil))))))))))))

def lit (x : Str) (n : Nat) : Prop := few x n n
theorem lit_of {x : Str} {n : Nat} (h : (TL.tl x).length ≤ n) : few x n n := ⟨h, Nat.le_trans List.count_le_length h⟩
theorem few_all : ∀ x ∈ fewS, okT x := by
  have n9 : ∀ n, few (times "9" n) n 0 := fun n => few_times (c := 57) rfl (by decide) n
  have n1 : ∀ n, few (times "1" n) n 0 := fun n => few_times (c := 49) rfl (by decide) n
  have short : ∀ x : Str, (TL.tl x).length ≤ 20 → okT x := fun x h => few_ok (lit_of h) (by decide) (by decide)
  intro x hx
  unfold fewS at hx
  rcases List.mem_append.mp hx with hx | hx
  · rcases List.mem_append.mp hx with hx | hx
    · rcases List.mem_append.mp hx with hx | hx
      · rcases List.mem_append.mp hx with hx | hx
        · exact short x ((by decide +kernel : ∀ x ∈ fewA, (TL.tl x).length ≤ 20) x hx)
        · exact short x ((by decide +kernel : ∀ x ∈ fewB, (TL.tl x).length ≤ 20) x hx)
      · exact short x ((by decide +kernel : ∀ x ∈ fewC, (TL.tl x).length ≤ 20) x hx)
    · unfold fewD at hx
      simp only [List.mem_cons, List.not_mem_nil, or_false] at hx
      rcases hx with rfl | rfl | rfl | rfl | rfl | rfl | rfl
      · exact short _ (by decide +kernel)
      · exact short _ (by decide +kernel)
      · exact short _ (by decide +kernel)
      · exact short _ (by decide +kernel)
      · exact few_ok (few_app (few_app (lit_of (n := 5) (by decide +kernel)) (n9 60)) (lit_of (n := 5) (by decide +kernel))) (by decide) (by decide)
      · exact few_ok (few_app (few_app (lit_of (n := 5) (by decide +kernel)) (n9 61)) (lit_of (n := 5) (by decide +kernel))) (by decide) (by decide)
      · exact few_ok (few_app (lit_of (n := 5) (by decide +kernel)) (n9 60)) (by decide) (by decide)
  · unfold fewE at hx
    simp only [List.mem_cons, List.not_mem_nil, or_false] at hx
    rcases hx with rfl | rfl | rfl
    · exact few_ok (few_app (lit_of (n := 5) (by decide +kernel)) (n9 61)) (by decide) (by decide)
    · exact few_ok (few_app (n1 4000) (lit_of (n := 5) (by decide +kernel))) (by decide) (by decide)
    · exact few_ok (few_app (few_app (lit_of (n := 5) (by decide +kernel)) (n9 60)) (lit_of (n := 5) (by decide +kernel))) (by decide) (by decide)
section
variable {K : PySem.W.Frag} {C : CS}
theorem run_law_row {ds es : List Da} (h : P_law_row ds es) : Run K (t_law_row K C) (ent ds 6) (retL es) := FR.run_law_row (C := C) h
/-- the suite's look at the error -/
theorem run_lookT {De a : Addr} {bR bS bD bT : Bool} {f : Addr} {due : Int} {x : Da} {E : Ed} (F : ExcF K C De bR bS bD bT) (hb : [bR, bT, bD, bS] = [decide (due = 0), decide (due = 1), false, false]) (q : E.rd (.bl true)) :
    Run K (tSeq (tAsg (tLst (tCons (tCB (rIsE K De a) (tCons (tVar 3) (tCons (tC (.ref C.BadRow)) tNil))) (tCons (tCB (rIsE K De a) (tCons (tVar 3) (tCons (tC (.ref C.BadText)) tNil))) (tCons (tCB (rIsE K De a) (tCons (tVar 3) (tCons (tC (.ref C.BadSide)) tNil))) tNil)))) (gName 4)) (tRet (tOp (rEqD K) (tOp rCat (tVar 4) (tLst (tCons (tCB (rIsE K De a) (tCons (tVar 3) (tCons (tC (.ref C.BadStone)) tNil))) tNil))) (tLst (tCons (tOp rEq (tVar 2) (tC (.int 0))) (tCons (tOp rEq (tVar 2) (tC (.int 1))) (tCons (tC (.bl false)) (tCons (tC (.bl false)) tNil))))))))
      [.im (.cls f), .im x, .im (.int due), .im (.cls a), .no] E := by
  refine run_seq (run_asg (d := .lst (blL [bR, bT, bD])) (ev_new (en_lst (ea_cons (ev_isE (ev_var rfl) ev_cls F.kR) (ea_cons (ev_isE (ev_var rfl) ev_cls F.kT) (ea_cons (ev_isE (ev_var rfl) ev_cls F.kD) ea_nil))))) ?_)
  refine run_retF (d := .bl true) ?_ rfl q
  refine (ev_eqD (x := .lst (blL [bR, bT, bD, bS])) (y := .lst (blL [decide (due = 0), decide (due = 1), false, false])) ?_ ?_ (okBls _) (okBls _) (eqv_bls _ _)).is (by rw [← hb]; simp)
  · exact ev_new (en_cat (ds := blL [bR, bT, bD]) (es := blL [bS]) (ev_var rfl) (ev_new (en_lst (ea_cons (ev_isE (ev_var rfl) ev_cls F.kS) ea_nil))) (show 3 + 1 ≤ 100000 by decide))
  · exact ev_new (en_lst (ea_cons (ev_eqI (ev_var rfl) ev_int) (ea_cons (ev_eqI (ev_var rfl) ev_int) (ea_cons ev_bl (ea_cons ev_bl ea_nil)))))
theorem run_law_refused (A : ExcFs K C) {ds : List Da} {d : Da} (h : P_law_refused C ds d) : Run K (t_law_refused K C) (ent ds 2) (retD d) := by
  obtain ⟨i, x, due, rfl, h, rfl⟩ := h
  refine run_seq (run_tryAs fun W => ?_)
  rcases h with ⟨rfl, rfl, h⟩ | ⟨rfl, rfl, h⟩
  · refine run_dropX (C := C.BadRow) (ex_callF (P := P_written C) (f := fa C 0) (ev_var rfl) (.inl ⟨rfl, rfl⟩) (ea_cons (ev_var rfl) ea_nil) h) ?_
    exact ⟨A.r.ex, fun a => run_suite A.r.is (run_lookT A.r rfl rfl)⟩
  · refine run_dropX (C := C.BadText) (ex_callF (P := P_read C) (f := fa C 1) (ev_var rfl) (.inr ⟨rfl, rfl⟩) (ea_cons (ev_var rfl) ea_nil) h) ?_
    exact ⟨A.t.ex, fun a => run_suite A.t.is (run_lookT A.t rfl rfl)⟩
theorem run_law_right {ds : List Da} {d : Da} (h : P_law_right C ds d) : Run K (t_law_right K C) (ent ds 3) (retD d) := by
  obtain ⟨x, rfl, ok, rfl⟩ := h
  cases hr : readP (TL.tl x) with
  | none =>
    have hi : inO x = .rt .non := by
      unfold inO
      rw [hr]
    have ho : readO C x = .ex C.BadText := by
      unfold readO
      rw [hr]
    refine run_seq (run_asg (d := .non) (ev_callR (ds := [.str x]) (ea_cons (ev_var rfl) ea_nil) ⟨x, rfl, ok, hi.symm⟩) ?_)
    refine run_seq (run_if (b := true) (eb_test (ev_isN (d := .non) (ev_var rfl))) (fun _ => run_ret (d := .bl true) (ev_call (ds := [.cls (fa C 1), .str x, .int 1]) (ea_cons ev_cls (ea_cons (ev_var rfl) (ea_cons ev_int ea_nil))) ⟨1, .str x, 1, rfl, .inr ⟨rfl, rfl, .str x, rfl, rfl, .inr ⟨x, rfl, ok, ho.symm⟩⟩, rfl⟩) rfl) fun z => by cases z)
  | some row =>
    have hi : inO x = .ls (rowL row) := by
      unfold inO
      rw [hr]
    have ho : readO C x = .ls (rowL row) := by
      unfold readO
      rw [hr]
    obtain ⟨okr, hl⟩ := readP_ok hr ok.2
    have hw : P_written C [rowD row] (.rt (.str x)) := ⟨row, rfl, ⟨okr, by omega⟩, .inr ⟨lt_small (readP_lt hr), x, (readP_text hr).symm, rfl⟩⟩
    have hrd : P_read C [.str x] (.ls (rowL row)) := ⟨.str x, rfl, rfl, .inr ⟨x, rfl, ok, ho.symm⟩⟩
    refine run_seq (run_asg (d := rowD row) (ev_new (en_callR (ds := [.str x]) (ea_cons (ev_var rfl) ea_nil) ⟨x, rfl, ok, hi.symm⟩)) ?_)
    refine run_seq (run_if (b := false) (eb_test (ev_isN (d := rowD row) (ev_var rfl))) (fun z => by cases z) fun _ => run_next ?_)
    refine run_seq (run_asgN (ds := rowL row) (en_callR (ds := [.str x]) (ea_cons (ev_var rfl) ea_nil) hrd) ?_)
    show Run K _ [.im (.str x), .im (rowD row), .mu (rowL row), .no] _
    refine run_seq (run_if (b := !true || (!decide (row = row) || !decide (x = x))) (eb_or (eb_not (eb_B (ev_isiB (d := rowD row) (n := "list") (ev_var rfl) ev_ty rfl (by decide)))) fun _ => eb_or (eb_test (ev_neRow (ev_var rfl) (ev_var rfl))) fun _ => eb_test (ev_neS (ev_callR (ds := [rowD row]) (ea_cons (ev_var rfl) ea_nil) hw) (ev_var rfl))) (fun z => by rw [decide_eq_true rfl, decide_eq_true rfl] at z; cases z) fun _ => run_next ?_)
    refine run_seq (run_if (b := !true) (eb_not (eb_B ?_)) (fun z => by cases z) fun _ => run_next ?_)
    · refine (ev_all (bs := (row.filter fun _ => true).map fun _ => true) (ev_new ?_)).is (by rw [List.filter_eq_self.mpr fun _ _ => rfl]; congr 1; rw [List.all_map]; exact List.all_eq_true.mpr fun _ _ => rfl)
      exact (en_lc (us := [3]) prD (fun _ => true) (fun p => Da.bl true) row (wk_list (ev_var rfl)) (by simp) (by omega) fun p hp => ⟨_, tc_name, eb_yes, fun _ => ev_isiB (d := prD p) (n := "tuple") (ev_var rfl) ev_ty rfl (by decide)⟩).is (by rw [List.map_map]; rfl)
    refine run_seq (run_app (ds := rowL row) (d := prD (0, 0)) rfl (ev_tup (ea_cons ev_int (ea_cons ev_int ea_nil))) (by rw [List.length_map]; omega) ?_)
    refine run_retF (d := .bl (decide (row = row))) (ev_eqRow (ev_new (en_callR (ds := [.str x]) (ea_cons (ev_var rfl) ea_nil) hrd)) (ev_var rfl)) rfl ?_
    show Da.bl _ = Da.bl _
    rw [decide_eq_true rfl]
theorem run_law_few {ds es : List Da} (h : P_law_few ds es) : Run K (t_law_few K C) (ent ds 1) (retL es) := by
  obtain ⟨rfl, rfl⟩ := h
  have n9 : ∀ {env : En} (n : Nat), 2 ≤ n → n ≤ 100000 → EvE K (tOp rMulS (tC (.str "9")) (tC (.int (n : Int)))) env (.str (times "9" n)) := fun n h1 h2 => ev_mulS ev_str ev_int ⟨h1, h2⟩ ⟨by decide, by decide⟩
  have n1 : ∀ {env : En} (n : Nat), 2 ≤ n → n ≤ 100000 → EvE K (tOp rMulS (tC (.str "1")) (tC (.int (n : Int)))) env (.str (times "1" n)) := fun n h1 h2 => ev_mulS ev_str ev_int ⟨h1, h2⟩ ⟨by decide, by decide⟩
  have l9 : ∀ n, (times "9" n).length = n := fun n => by rw [TL.len_tl, times_tl (c := 57) rfl, List.length_replicate]
  have l1 : ∀ n, (times "1" n).length = n := fun n => by rw [TL.len_tl, times_tl (c := 49) rfl, List.length_replicate]
  have la : ∀ x y : Str, (x ++ y).length = x.length + y.length := fun x y => by rw [TL.len_tl, TL.tl_append, List.length_append, ← TL.len_tl, ← TL.len_tl]
  refine run_seq (run_asg (d := .lst (fewA.map Da.str)) (ev_new (en_lst ?_ (show 13 ≤ 100000 by decide))) ?_)
  · exact ea_cons ev_str (ea_cons ev_str (ea_cons ev_str (ea_cons ev_str (ea_cons ev_str (ea_cons ev_str (ea_cons ev_str (ea_cons ev_str (ea_cons ev_str (ea_cons ev_str (ea_cons ev_str (ea_cons ev_str (ea_cons ev_str ea_nil))))))))))))
  refine run_seq (run_asg (d := .lst ((fewA ++ fewB).map Da.str)) ((ev_new (en_cat (ds := fewA.map Da.str) (es := fewB.map Da.str) (ev_var rfl) (ev_new (en_lst ?_ (show 11 ≤ 100000 by decide))) (show 13 + 11 ≤ 100000 by decide))).is (by rw [List.map_append])) ?_)
  · exact ea_cons ev_str (ea_cons ev_str (ea_cons ev_str (ea_cons ev_str (ea_cons ev_str (ea_cons ev_str (ea_cons ev_str (ea_cons ev_str (ea_cons ev_str (ea_cons ev_str (ea_cons ev_str ea_nil))))))))))
  refine run_seq (run_asg (d := .lst (((fewA ++ fewB) ++ fewC).map Da.str)) ((ev_new (en_cat (ds := (fewA ++ fewB).map Da.str) (es := fewC.map Da.str) (ev_var rfl) (ev_new (en_lst ?_ (show 2 ≤ 100000 by decide))) (show 24 + 2 ≤ 100000 by decide))).is (by rw [List.map_append (l₁ := fewA ++ fewB)])) ?_)
  · exact ea_cons ev_str (ea_cons ev_str ea_nil)
  refine run_seq (run_asg (d := .lst ((((fewA ++ fewB) ++ fewC) ++ fewD).map Da.str)) ((ev_new (en_cat (ds := ((fewA ++ fewB) ++ fewC).map Da.str) (es := fewD.map Da.str) (ev_var rfl) (ev_new (en_lst ?_ (show 7 ≤ 100000 by decide))) (show 26 + 7 ≤ 100000 by decide))).is (by rw [List.map_append (l₁ := (fewA ++ fewB) ++ fewC)])) ?_)
  · refine ea_cons ev_str (ea_cons ev_str (ea_cons ev_str (ea_cons ev_str (ea_cons ?_ (ea_cons ?_ (ea_cons ?_ ea_nil))))))
    · exact ev_catS (x := ("-" : Str) ++ times "9" 60) (y := ":1") (ev_catS ev_str (n9 60 (by decide) (by decide)) (by rw [l9]; decide)) ev_str (by rw [la, l9]; decide)
    · exact ev_catS (x := ("-" : Str) ++ times "9" 61) (y := ":1") (ev_catS ev_str (n9 61 (by decide) (by decide)) (by rw [l9]; decide)) ev_str (by rw [la, l9]; decide)
    · exact ev_catS ev_str (n9 60 (by decide) (by decide)) (by rw [l9]; decide)
  refine run_retN ((en_cat (ds := (((fewA ++ fewB) ++ fewC) ++ fewD).map Da.str) (es := fewE.map Da.str) (ev_var rfl) (ev_new (en_lst ?_ (show 3 ≤ 100000 by decide))) (show 33 + 3 ≤ 100000 by decide))) ?_
  · refine ea_cons ?_ (ea_cons ?_ (ea_cons ?_ ea_nil))
    · exact ev_catS ev_str (n9 61 (by decide) (by decide)) (by rw [l9]; decide)
    · exact ev_catS (n1 4000 (by decide) (by decide)) ev_str (by rw [l1]; decide)
    · exact ev_catS (x := ("0:1 " : Str) ++ times "9" 60) (y := ":2") (ev_catS ev_str (n9 60 (by decide) (by decide)) (by rw [l9]; decide)) ev_str (by rw [la, l9]; decide)
  · show _ = fewS.map Da.str
    unfold fewS
    rw [List.map_append (l₁ := ((fewA ++ fewB) ++ fewC) ++ fewD)]
end
end FX

/-! law_k07: the law itself. -/
namespace FX
open PySem L2 Evl FR
open PySem.Spec PyProof.Rows
theorem okr_one {p h : Int} (hh : 0 < h) : Okr [(p, h)] where
  pos := fun i hi => by
    have : i = 0 := by
      have : i < 1 := hi
      omega
    subst this
    exact hh
  inc := fun i j hij hj => by
    have : j < 1 := hj
    omega
  few := by
    show 1 ≤ 1000
    decide
theorem okr_snoc {r : List (Int × Int)} {p : Int × Int} (ok : Okr r) (hl : r.length ≤ 900) (hp : 0 < p.2) (h : ∀ q ∈ r, q.1 < p.1) : Okr (r ++ [p]) := by
  have hb : rowB (rowD (r ++ [p])) = true := by
    refine (rowB_snoc (rowB_of ok)).mpr ⟨hp, ?_⟩
    by_cases e : r = []
    · exact .inl e
    · right
      have hr : 0 < r.length := List.length_pos_iff.mpr e
      have hg : r[r.length - 1]? = some (r[r.length - 1]) := List.getElem?_eq_getElem (by omega)
      have := h _ (List.mem_of_getElem? hg)
      rw [plc_get hg] at this
      exact this
  obtain ⟨row', e, ok'⟩ := row_cases (kn3_row (row := r ++ [p]) (by rw [List.length_append, List.length_singleton]; omega)) hb
  have : rowOf (rowL (r ++ [p])) = rowOf (rowL row') := congrArg (fun d => match d with | .lst ds => rowOf ds | _ => []) e
  rw [rowOf_row, rowOf_row] at this
  rw [this]
  exact ok'
abbrev T60 : Int := 10 ^ (60 : Int).toNat
theorem T60_is : T60 = 10 ^ 60 := by decide +kernel
theorem t60_pos : (0 : Int) < T60 := by decide +kernel
theorem not_small {r : List (Int × Int)} {p : Int × Int} (hp : p ∈ r) (h : ¬ ((if p.1 < 0 then -p.1 else p.1) < 10 ^ 60 ∧ p.2 < 10 ^ 60)) : smallB r = false := by
  cases z : smallB r with
  | false => rfl
  | true =>
    have := List.all_eq_true.mp z p hp
    rw [Bool.and_eq_true, decide_eq_true_eq, decide_eq_true_eq] at this
    exact absurd this h
def nines : Cs := List.replicate 60 57
theorem nines_ok : okW (45 :: nines) = true ∧ okW nines = true := by decide +kernel
theorem nines_val : valW (45 :: nines) = 1 - T60 ∧ valW nines = T60 - 1 := by decide +kernel
def endS : Str := (("-" : Str) ++ times "9" 60 ++ (":" : Str)) ++ times "9" 60
theorem tl_endS : TL.tl endS = writ [(1 - T60, T60 - 1)] := by
  have e1 := text_ofW nines_ok.1
  have e2 := text_ofW nines_ok.2
  rw [nines_val.1] at e1
  rw [nines_val.2] at e2
  show _ = numT (1 - T60) ++ 58 :: numT (T60 - 1)
  rw [e1, e2]
  unfold endS
  rw [TL.tl_append, TL.tl_append, TL.tl_append, times_tl (c := 57) rfl]
  show ([45] ++ nines ++ [58]) ++ nines = _
  simp
theorem end_lt : ∀ p ∈ [((1 : Int) - T60, T60 - 1)], lt60 p := by
  intro p hp
  rw [List.mem_singleton] at hp
  subst hp
  unfold lt60
  have h := T60_is
  have := t60_pos
  generalize T60 = t at *
  generalize (10 : Int) ^ 60 = m at *
  have : (1 : Int) ≤ t := by omega
  simp only
  omega
def signs : Cs := [48, 49, 50, 51, 52, 53, 54, 55, 56, 57, 58, 45, 32, 43, 10]
theorem signs_is : TL.tl ("0123456789:- +\n" : Str) = signs := rfl
theorem sign_at {i : Int} (h : 0 ≤ i ∧ i < 15) : ∃ c, atI (TL.tl ("0123456789:- +\n" : Str)) i = some c := by
  rw [signs_is]
  have hl : i.toNat < signs.length := by
    show i.toNat < 15
    omega
  refine ⟨signs[i.toNat], ?_⟩
  have e := getD_atI (xs := signs) (d := 0) h.1 (by show i < ((15 : Nat) : Int); omega)
  rw [e, List.getD_eq_getElem?_getD, List.getElem?_eq_getElem hl]
  rfl
theorem pick_len {α β : Type} {xs : List α} {ys : List β} (h : xs.length = ys.length) : ∀ ix : List Nat, (ix.filterMap (xs[·]?)).length = (ix.filterMap (ys[·]?)).length
  | [] => rfl
  | i :: ix => by
    by_cases hi : i < xs.length
    · rw [List.filterMap_cons_some (List.getElem?_eq_getElem hi), List.filterMap_cons_some (List.getElem?_eq_getElem (by omega : i < ys.length)), List.length_cons, List.length_cons, pick_len h ix]
    · rw [List.filterMap_cons_none (List.getElem?_eq_none (by omega)), List.filterMap_cons_none (List.getElem?_eq_none (by omega)), pick_len h ix]
theorem pick_le (ns : List Int) (j c : Nat) : (pickA ns j c).length ≤ ns.length := by
  have h1 := PySem.slicePick_size_le (ns.map fun i => Value.int i 0).toArray (some (j : Int)) none (some (c : Int))
  have e : slicePick (ns.map fun i => Value.int i 0).toArray (some (j : Int)) none (some (c : Int)) = (pickA (ns.map fun i => Value.int i 0) j c).toArray := by
    unfold slicePick pickA
    simp
  rw [e, List.size_toArray, List.size_toArray, List.length_map] at h1
  have h2 : (pickA ns j c).length = (pickA (ns.map fun i => Value.int i 0) j c).length := by
    unfold pickA
    rw [List.length_map]
    exact pick_len (by rw [List.length_map]) _
  omega
section
variable {K : PySem.W.Frag} {C : CS}
theorem ev_right {env : En} {te : TE} {x : Str} (h : EvE K te env (.str x)) (ok : okT x) : EvE K (tCall (sp_law_right K C) [] E0 (tCons te tNil)) env (.bl true) := ev_call (ds := [.str x]) (ea_cons h ea_nil) ⟨x, rfl, ok, rfl⟩
theorem run_law {ds : List Da} {d : Da} (h : P_law ds d) : Run K (t_law K C) (ent ds 12) (retD d) := by
  obtain ⟨ns, rfl, hn, rfl⟩ := h
  have ok := lrow_ok hn
  have hl : (lrow ns).length ≤ 63 := by
    rw [lrow_len]
    exact hn
  have hlt := (lrow_lt hn).1
  refine run_seq (run_asg (d := rowD (lrow ns)) (ev_new (en_call (ds := [.sq (intL ns)]) (ea_cons (ev_var rfl) ea_nil) ⟨ns, rfl, hn, rfl⟩)) ?_)
  generalize lrow ns = row at ok hl hlt
  refine run_seq (run_asg (d := .str (wrS row)) (ev_writ (row := row) (ev_var rfl) (by omega) hlt fun a b => ⟨rfl, rfl⟩) ?_)
  have fw := few_wrS hlt hl
  have okw : okT (wrS row) := few_ok fw (by decide) (by decide)
  have hwr : P_written C [rowD row] (.rt (.str (wrS row))) := ⟨row, rfl, ⟨ok, by omega⟩, .inr ⟨lt_small hlt, wrS row, tl_wrS row, rfl⟩⟩
  refine run_seq (run_asg (d := rowD row) (ev_new (en_listL (ds := rowL row) (ev_var rfl))) ?_)
  refine run_seq (run_if (b := !decide (wrS row = wrS row) || (!decide (row = row) || !true)) (eb_or (eb_test (ev_neS (ev_callR (ds := [rowD row]) (ea_cons (ev_var rfl) ea_nil) hwr) (ev_var rfl))) fun _ => eb_or (eb_test (ev_neRow (ev_var rfl) (ev_var rfl))) fun _ => eb_not (eb_B (ev_right (ev_var rfl) okw))) (fun z => by rw [decide_eq_true rfl, decide_eq_true rfl] at z; cases z) fun _ => run_next ?_)
  -- one sign gone, another one, one put in
  refine run_seq (run_for (ds := cutD (intL ns) none (some 20) ++ pickA (intL ns) 20 5) (wk_list (ev_new (en_cat (ev_new (en_slQ (ev_var rfl) eo_none (eo_some ev_int))) (ev_new (en_step (j := 20) (c := 5) (ev_var rfl) (eo_some ev_int) (eo_some ev_int) (by decide))) ?_))) (fun _ e => ∃ y4 y5 y6, e = [.im (.sq (intL ns)), .im (rowD row), .im (.str (wrS row)), .im (rowD row), y4, y5, y6, .no, .no, .no, .no, .no, .no]) ⟨.no, .no, .no, rfl⟩ ?_ ?_)
  · have h1 : (cutD (intL ns) none (some 20)).length ≤ ns.length := by
      unfold FR.cutD
      rw [List.length_take, List.length_drop, List.length_map]
      omega
    have h2 := pick_le ns 20 5
    rw [pick_ints, List.length_map]
    omega
  · rintro n dd e hd ⟨y4, y5, y6, rfl⟩
    obtain ⟨c, rfl⟩ : ∃ c : Int, dd = .int c := by
      have hm := List.mem_of_getElem? hd
      rcases List.mem_append.mp hm with hm | hm
      · have := List.mem_of_mem_drop (List.mem_of_mem_take hm)
        obtain ⟨c, _, e⟩ := List.mem_map.mp this
        exact ⟨c, e.symm⟩
      · rw [pick_ints] at hm
        obtain ⟨c, _, e⟩ := List.mem_map.mp hm
        exact ⟨c, e.symm⟩
    refine ⟨_, ts_name, ?_⟩
    show Run K _ [.im (.sq (intL ns)), .im (rowD row), .im (.str (wrS row)), .im (rowD row), .im (.int c), y5, y6, .no, .no, .no, .no, .no, .no] _
    refine run_seq (run_asg (d := .int (c / 41 % (((wrS row).length : Int) + 1))) (ev_mod (ev_div (ev_var rfl) ev_int ⟨by decide, by decide⟩) (ev_add (ev_lenS (ev_var rfl) (by have := okw.1; omega)) ev_int) (by omega)) ?_)
    generalize c / 41 % (((wrS row).length : Int) + 1) = at_
    obtain ⟨cs, hcs⟩ := sign_at (i := c / 3 % 15) ⟨Int.emod_nonneg _ (by decide), Int.emod_lt_of_pos _ (by decide)⟩
    obtain ⟨sg, hsg, fsg⟩ : ∃ sg : Str, atI [Da.str "", .str ⟨#[cs]⟩] (c / 7 % 2) = some (.str sg) ∧ few sg 1 1 := by
      have h0 := Int.emod_nonneg (c / 7) (by decide : (2 : Int) ≠ 0)
      have h1 := Int.emod_lt_of_pos (c / 7) (by decide : (0 : Int) < 2)
      rcases (by omega : c / 7 % 2 = 0 ∨ c / 7 % 2 = 1) with e | e
      · rw [e]
        exact ⟨"", rfl, ⟨by decide, by decide⟩⟩
      · rw [e]
        exact ⟨⟨#[cs]⟩, rfl, few_sign cs⟩
    refine run_seq (run_asg (d := .str sg) (ev_ixT (ds := [.str "", .str ⟨#[cs]⟩]) (ev_tup (ea_cons ev_str (ea_cons (ev_ixS (x := "0123456789:- +\n") (i := c / 3 % 15) ev_str (ev_mod (ev_div (ev_var rfl) ev_int ⟨by decide, by decide⟩) ev_int (by decide)) (by decide) hcs) ea_nil))) (ev_mod (ev_div (ev_var rfl) ev_int ⟨by decide, by decide⟩) ev_int (by decide)) hsg) ?_)
    have f1 := few_cut fw none (some at_)
    have f2 := few_cut fw (some (at_ + c / 13 % 2)) none
    have f3 := few_app (few_app f1 fsg) f2
    have l1 := f1.1
    have l2 := f2.1
    have l3 := fsg.1
    have lw := fw.1
    refine run_if (b := !true) (eb_not (eb_B (ev_right (x := (cutS (wrS row) none (some at_) ++ sg) ++ cutS (wrS row) (some (at_ + c / 13 % 2)) none) ?_ (few_ok f3 (by decide) (by decide))))) (fun z => by cases z) fun _ => run_next ⟨_, _, _, rfl⟩
    have lz : (wrS row).length ≤ 1000000 := by have := okw.1; omega
    refine ev_catS (ev_catS (ev_slS (z := wrS row) (ev_var rfl) lz eo_none (eo_some (ev_var rfl))) (ev_var rfl) ?_) (ev_slS (z := wrS row) (ev_var rfl) lz (eo_some (ev_add (ev_var rfl) (ev_mod (ev_div (ev_var rfl) ev_int ⟨by decide, by decide⟩) ev_int (by decide)))) eo_none) ?_
    · rw [TL.len_tl, TL.len_tl sg]
      omega
    · rw [TL.len_tl, TL.len_tl (cutS (wrS row) (some (at_ + c / 13 % 2)) none), TL.tl_append, List.length_append]
      omega
  rintro e ⟨y4, y5, y6, rfl⟩
  -- thirty other texts
  refine run_seq (run_if (b := !true) (eb_not (eb_B ?_)) (fun z => by cases z) fun _ => run_next ?_)
  · refine (ev_all (bs := (fewS.filter fun _ => true).map fun _ => true) (ev_new ?_)).is (by rw [List.filter_eq_self.mpr fun _ _ => rfl]; exact congrArg Da.bl (by rw [List.all_map]; exact List.all_eq_true.mpr fun _ _ => rfl))
    refine (en_lc (us := [11]) Da.str (fun _ => true) (fun p => Da.bl true) fewS (wk_list (ev_new (en_call (ds := []) ea_nil ⟨rfl, rfl⟩))) (by simp) (show 36 ≤ 50000 by decide) fun x hx => ⟨_, tc_name, eb_yes, fun _ => ev_right (ev_var rfl) (few_all x hx)⟩).is (by rw [List.map_map]; rfl)
  -- numbers that are too long
  refine run_seq (run_asg (d := .int T60) (ev_pow (j := 60) ev_int ev_int ⟨by decide, by decide, by decide⟩) ?_)
  have e60 := T60_is
  have p60' := t60_pos
  have hrows : ∀ r ∈ [[(T60, 1)], [(-T60, 1)], [(0, T60)], row ++ [(2 * T60, 1)]], P_written C [rowD r] (.ex C.BadRow) := by
    intro r hr
    simp only [List.mem_cons, List.not_mem_nil, or_false] at hr
    rcases hr with rfl | rfl | rfl | rfl
    · refine ⟨_, rfl, ⟨okr_one (by decide), show 1 ≤ 910 by decide⟩, .inl ⟨not_small (p := (T60, 1)) (by simp) ?_, rfl⟩⟩
      rw [← e60]
      show ¬ ((if T60 < 0 then -T60 else T60) < T60 ∧ _)
      generalize T60 = t at *
      rw [if_neg (by omega)]
      omega
    · refine ⟨_, rfl, ⟨okr_one (by decide), show 1 ≤ 910 by decide⟩, .inl ⟨not_small (p := (-T60, 1)) (by simp) ?_, rfl⟩⟩
      rw [← e60]
      show ¬ ((if -T60 < 0 then - -T60 else -T60) < T60 ∧ _)
      generalize T60 = t at *
      rw [if_pos (by omega)]
      omega
    · refine ⟨_, rfl, ⟨okr_one p60', show 1 ≤ 910 by decide⟩, .inl ⟨not_small (p := (0, T60)) (by simp) ?_, rfl⟩⟩
      rw [← e60]
      show ¬ (_ ∧ T60 < T60)
      omega
    · refine ⟨_, rfl, ⟨okr_snoc ok (by omega) (by show (0 : Int) < 1; decide) fun q hq => ?_, by rw [List.length_append, List.length_singleton]; omega⟩, .inl ⟨not_small (p := (2 * T60, 1)) (by simp) ?_, rfl⟩⟩
      · have := (hlt q hq).1.2
        rw [← e60] at this
        show q.1 < 2 * T60
        generalize T60 = t at *
        omega
      · rw [← e60]
        show ¬ ((if 2 * T60 < 0 then -(2 * T60) else 2 * T60) < T60 ∧ _)
        generalize T60 = t at *
        rw [if_neg (by omega)]
        omega
  refine run_seq (run_for (ds := [[(T60, 1)], [(-T60, 1)], [(0, T60)], row ++ [(2 * T60, 1)]].map rowD) (wk_list (ev_new (en_lst ?_ (show 4 ≤ 100000 by decide)))) (fun _ e => ∃ y8, e = [.im (.sq (intL ns)), .im (rowD row), .im (.str (wrS row)), .im (rowD row), y4, y5, y6, .im (.int T60), y8, .no, .no, .no, .no]) ⟨.no, rfl⟩ ?_ ?_)
  · have one : ∀ {env : En} {ta tb : TE} {a b : Int}, EvE K ta env (.int a) → EvE K tb env (.int b) → EvE K (tLst (tCons (tTup (tCons ta (tCons tb tNil))) tNil)) env (rowD [(a, b)]) := fun h1 h2 => ev_new (en_lst (ea_cons (ev_tup (ea_cons h1 (ea_cons h2 ea_nil))) ea_nil))
    refine ea_cons (one (ev_var rfl) ev_int) (ea_cons (one (ev_neg (ev_var rfl)) ev_int) (ea_cons (one ev_int (ev_var rfl)) (ea_cons ?_ ea_nil)))
    refine (ev_new (en_cat (ds := rowL row) (es := rowL [(2 * T60, 1)]) (ev_var rfl) (one (ev_mul ev_int (ev_var rfl) (.inl ⟨by decide, by decide⟩)) ev_int) (by rw [List.length_map]; show _ + 1 ≤ _; omega))).is ?_
    rw [← List.map_append]
  · rintro n dd e hd ⟨y8, rfl⟩
    obtain ⟨r, hr, rfl⟩ := List.mem_map.mp (List.mem_of_getElem? hd)
    refine ⟨_, ts_name, ?_⟩
    refine run_if (b := !true) (eb_not (eb_B (ev_call (ds := [.cls (fa C 0), rowD r, .int 0]) (ea_cons ev_cls (ea_cons (ev_var rfl) (ea_cons ev_int ea_nil))) ⟨0, rowD r, 0, rfl, .inl ⟨rfl, rfl, hrows r hr⟩, rfl⟩))) (fun z => by cases z) fun _ => run_next ⟨_, rfl⟩
  rintro e ⟨y8, rfl⟩
  have l9 : ∀ n, (times "9" n).length = n := fun n => by rw [TL.len_tl, times_tl (c := 57) rfl, List.length_replicate]
  have la : ∀ x y : Str, (x ++ y).length = x.length + y.length := fun x y => by rw [TL.len_tl, TL.tl_append, List.length_append, ← TL.len_tl, ← TL.len_tl]
  have n9 : ∀ {env : En}, EvE K (tOp rMulS (tC (.str "9")) (tC (.int 60))) env (.str (times "9" 60)) := ev_mulS (n := 60) ev_str ev_int ⟨by decide, by decide⟩ ⟨by decide, by decide⟩
  have hend : P_written C [rowD [(1 - T60, T60 - 1)]] (.rt (.str endS)) := ⟨_, rfl, ⟨okr_one (by show (0 : Int) < T60 - 1; decide +kernel), show 1 ≤ 910 by decide⟩, .inr ⟨lt_small end_lt, endS, tl_endS, rfl⟩⟩
  refine run_seq (run_if (b := !decide (endS = endS)) (eb_test (ev_neS (ev_callR (ds := [rowD [(1 - T60, T60 - 1)]]) (ea_cons (ev_new (en_lst (ea_cons (ev_tup (ea_cons (ev_sub ev_int (ev_var rfl)) (ea_cons (ev_sub (ev_var rfl) ev_int) ea_nil))) ea_nil))) ea_nil) hend) ?_)) (fun z => by rw [decide_eq_true rfl] at z; cases z) fun _ => run_next ?_)
  · refine ev_catS (x := ("-" : Str) ++ times "9" 60 ++ (":" : Str)) (y := times "9" 60) (ev_catS (x := ("-" : Str) ++ times "9" 60) (y := ":") (ev_catS ev_str n9 (by rw [l9]; decide)) ev_str (by rw [la, l9]; decide)) n9 (by rw [la, la, l9]; decide)
  -- what is no text
  refine run_retF (d := .bl true) ?_ rfl rfl
  refine (ev_all (bs := ([Da.non, .int 5, .lst [.str "0:1"], .bl true].filter fun _ => true).map fun _ => true) (ev_new ?_)).is rfl
  refine (en_lc (us := [12]) (fun d : Da => d) (fun _ => true) (fun p => Da.bl true) [Da.non, .int 5, .lst [.str "0:1"], .bl true] (wk_list (ev_new (en_lst (ea_cons ev_non (ea_cons ev_int (ea_cons (ev_new (en_lst (ea_cons ev_str ea_nil))) (ea_cons ev_bl ea_nil))))))) (by simp) (by decide) fun x hx => ⟨_, tc_name, eb_yes, fun _ => ?_⟩).is rfl
  have hk : kn1 x = true ∧ isStrD x = false := by
    simp only [List.mem_cons, List.not_mem_nil, or_false] at hx
    rcases hx with rfl | rfl | rfl | rfl <;> exact ⟨rfl, rfl⟩
  exact ev_call (ds := [.cls (fa C 1), x, .int 1]) (ea_cons ev_cls (ea_cons (ev_var rfl) (ea_cons ev_int ea_nil))) ⟨1, x, 1, rfl, .inr ⟨rfl, rfl, x, rfl, hk.1, .inl ⟨hk.2, rfl⟩⟩, rfl⟩
end
end FX

namespace FX
open PySem L2 Evl FR
open PySem.Spec PyProof.Rows
section
variable {K : PySem.W.Frag} {C : CS} {vs : List V} {H : Hp} {Q : VK} {E : XK}
theorem lenP_is_number {ds : List Da} {d : Da} (h : P_is_number ds d) : ds.length = 1 := by
  repeat (rcases h with ⟨z, h⟩; first | (subst z; rfl) | skip)
theorem len_is_number (h : sp_is_number K C vs H Q E) : vs.length = 1 := len_P (m := 1) (fun _ _ p => lenP_is_number p) h
theorem pure_is_number (h : sp_is_number K C vs H Q E) : t_is_number K C { nx := fun _ H' => Q .non H', rt := Q } (start ["thing"] vs) H := fnP_of 0 (fun _ _ p => by rw [lenP_is_number p] <;> rfl) (fun _ _ p => run_is_number p) h
theorem lenP_is_pair {ds : List Da} {d : Da} (h : P_is_pair ds d) : ds.length = 1 := by
  repeat (rcases h with ⟨z, h⟩; first | (subst z; rfl) | skip)
theorem len_is_pair (h : sp_is_pair K C vs H Q E) : vs.length = 1 := len_P (m := 1) (fun _ _ p => lenP_is_pair p) h
theorem pure_is_pair (h : sp_is_pair K C vs H Q E) : t_is_pair K C { nx := fun _ H' => Q .non H', rt := Q } (start ["thing"] vs) H := fnP_of 0 (fun _ _ p => by rw [lenP_is_pair p] <;> rfl) (fun _ _ p => run_is_pair p) h
theorem lenP_check_row {ds : List Da} {o : Out} (h : P_check_row C ds o) : ds.length = 1 := by
  repeat (rcases h with ⟨z, h⟩; first | (subst z; rfl) | skip)
theorem len_check_row (h : sp_check_row K C vs H Q E) : vs.length = 1 := len_R (m := 1) (fun _ _ p => lenP_check_row p) h
theorem pure_check_row (h : sp_check_row K C vs H Q E) : t_check_row K C E { nx := fun _ H' => Q .non H', rt := Q } (start ["row", "stone", "at"] vs) H := fnR_of (t := t_check_row K C) 2 (fun _ _ p => by rw [lenP_check_row p] <;> rfl) (fun _ _ _ p => run_check_row p) h
theorem lenP_written {ds : List Da} {o : Out} (h : P_written C ds o) : ds.length = 1 := by
  repeat (rcases h with ⟨z, h⟩; first | (subst z; rfl) | skip)
theorem len_written (h : sp_written K C vs H Q E) : vs.length = 1 := len_R (m := 1) (fun _ _ p => lenP_written p) h
theorem pure_written (h : sp_written K C vs H Q E) : t_written K C E { nx := fun _ H' => Q .non H', rt := Q } (start ["row", "place", "height"] vs) H := fnR_of (t := t_written K C) 2 (fun _ _ p => by rw [lenP_written p] <;> rfl) (fun _ _ _ p => run_written p) h
theorem lenP_number_in {ds : List Da} {o : Out} (h : P_number_in C ds o) : ds.length = 1 := by
  repeat (rcases h with ⟨z, h⟩; first | (subst z; rfl) | skip)
theorem len_number_in (h : sp_number_in K C vs H Q E) : vs.length = 1 := len_R (m := 1) (fun _ _ p => lenP_number_in p) h
theorem pure_number_in (h : sp_number_in K C vs H Q E) : t_number_in K C E { nx := fun _ H' => Q .non H', rt := Q } (start ["word", "figures"] vs) H := fnR_of (t := t_number_in K C) 1 (fun _ _ p => by rw [lenP_number_in p] <;> rfl) (fun _ _ _ p => run_number_in p) h
theorem lenP_read {ds : List Da} {o : Out} (h : P_read C ds o) : ds.length = 1 := by
  repeat (rcases h with ⟨z, h⟩; first | (subst z; rfl) | skip)
theorem len_read (h : sp_read K C vs H Q E) : vs.length = 1 := len_R (m := 1) (fun _ _ p => lenP_read p) h
theorem pure_read (A : ExcFs K C) (h : sp_read K C vs H Q E) : t_read K C E { nx := fun _ H' => Q .non H', rt := Q } (start ["text", "row", "word", "place", "sign", "height"] vs) H := fnR_of (t := t_read K C) 5 (fun _ _ p => by rw [lenP_read p] <;> rfl) (fun _ _ _ p => run_read A p) h
theorem lenP_law_row {ds es : List Da} (h : P_law_row ds es) : ds.length = 1 := by
  repeat (rcases h with ⟨z, h⟩; first | (subst z; rfl) | skip)
theorem len_law_row (h : sp_law_row K C vs H Q E) : vs.length = 1 := len_L (m := 1) (fun _ _ p => lenP_law_row p) h
theorem pure_law_row (h : sp_law_row K C vs H Q E) : t_law_row K C { nx := fun _ H' => Q .non H', rt := Q } (start ["_law_script", "_law_code", "_law_apart", "_law_high", "_law_place", "_law_found", "_law_cell"] vs) H := fnL_of 6 (fun _ _ p => by rw [lenP_law_row p] <;> rfl) (fun _ _ p => run_law_row p) h
theorem lenP_law_number {ds : List Da} {d : Da} (h : P_law_number ds d) : ds.length = 1 := by
  repeat (rcases h with ⟨z, h⟩; first | (subst z; rfl) | skip)
theorem len_law_number (h : sp_law_number K C vs H Q E) : vs.length = 1 := len_P (m := 1) (fun _ _ p => lenP_law_number p) h
theorem pure_law_number (h : sp_law_number K C vs H Q E) : t_law_number K C { nx := fun _ H' => Q .non H', rt := Q } (start ["_law_word", "_law_figures", "_law_sign"] vs) H := fnP_of 2 (fun _ _ p => by rw [lenP_law_number p] <;> rfl) (fun _ _ p => run_law_number p) h
theorem lenP_law_in {ds : List Da} {o : Out} (h : P_law_in ds o) : ds.length = 1 := by
  repeat (rcases h with ⟨z, h⟩; first | (subst z; rfl) | skip)
theorem len_law_in (h : sp_law_in K C vs H Q E) : vs.length = 1 := len_R (m := 1) (fun _ _ p => lenP_law_in p) h
theorem pure_law_in (h : sp_law_in K C vs H Q E) : t_law_in K C { nx := fun _ H' => Q .non H', rt := Q } (start ["_law_text", "_law_row_here", "_law_word", "_law_parts", "_law_part"] vs) H := fnR_of (t := fun _ => t_law_in K C) 4 (fun _ _ p => by rw [lenP_law_in p] <;> rfl) (fun _ _ _ p => run_law_in p) h
theorem lenP_law_refused {ds : List Da} {d : Da} (h : P_law_refused C ds d) : ds.length = 3 := by
  repeat (rcases h with ⟨z, h⟩; first | (subst z; rfl) | skip)
theorem len_law_refused (h : sp_law_refused K C vs H Q E) : vs.length = 3 := len_P (m := 3) (fun _ _ p => lenP_law_refused p) h
theorem pure_law_refused (A : ExcFs K C) (h : sp_law_refused K C vs H Q E) : t_law_refused K C { nx := fun _ H' => Q .non H', rt := Q } (start ["_law_ask", "_law_thing", "_law_due", "error", "_law_found"] vs) H := fnP_of 2 (fun _ _ p => by rw [lenP_law_refused p] <;> rfl) (fun _ _ p => run_law_refused A p) h
theorem lenP_law_right {ds : List Da} {d : Da} (h : P_law_right C ds d) : ds.length = 1 := by
  repeat (rcases h with ⟨z, h⟩; first | (subst z; rfl) | skip)
theorem len_law_right (h : sp_law_right K C vs H Q E) : vs.length = 1 := len_P (m := 1) (fun _ _ p => lenP_law_right p) h
theorem pure_law_right (h : sp_law_right K C vs H Q E) : t_law_right K C { nx := fun _ H' => Q .non H', rt := Q } (start ["_law_text", "_law_due", "_law_found", "_law_stone"] vs) H := fnP_of 3 (fun _ _ p => by rw [lenP_law_right p] <;> rfl) (fun _ _ p => run_law_right p) h
theorem lenP_law_few {ds es : List Da} (h : P_law_few ds es) : ds.length = 0 := by
  repeat (rcases h with ⟨z, h⟩; first | (subst z; rfl) | skip)
theorem len_law_few (h : sp_law_few K C vs H Q E) : vs.length = 0 := len_L (m := 0) (fun _ _ p => lenP_law_few p) h
theorem pure_law_few (h : sp_law_few K C vs H Q E) : t_law_few K C { nx := fun _ H' => Q .non H', rt := Q } (start ["_law_some"] vs) H := fnL_of 1 (fun _ _ p => by rw [lenP_law_few p] <;> rfl) (fun _ _ p => run_law_few p) h
theorem lenP_law {ds : List Da} {d : Da} (h : P_law ds d) : ds.length = 1 := by
  repeat (rcases h with ⟨z, h⟩; first | (subst z; rfl) | skip)
theorem len_law (h : sp_law K C vs H Q E) : vs.length = 1 := len_P (m := 1) (fun _ _ p => lenP_law p) h
theorem pure_law (h : sp_law K C vs H Q E) : t_law K C { nx := fun _ H' => Q .non H', rt := Q } (start ["_law_script", "_law_row_here", "_law_text", "_law_handed", "_law_cell", "_law_at", "_law_sign", "_law_great", "_law_stones", "_law_place", "_law_height", "_law_other", "_law_thing"] vs) H := fnP_of 12 (fun _ _ p => by rw [lenP_law p] <;> rfl) (fun _ _ p => run_law p) h
end
end FX

namespace FX
open PySem L2 Evl FR
open PySem.Spec PyProof.Rows
def topS (i : Nat) : Stmt := PySem.Challenge.pw_fallrow_k07_texts.main.body.getD i (.Pass ⟨0, 0, 0, 0⟩)
abbrev s_is_number : Stmt := topS 7
abbrev s_is_pair : Stmt := topS 8
abbrev s_check_row : Stmt := topS 9
abbrev s_written : Stmt := topS 13
abbrev s_number_in : Stmt := topS 14
abbrev s_read : Stmt := topS 15
abbrev s_law_row : Stmt := topS 17
abbrev s_law_number : Stmt := topS 18
abbrev s_law_in : Stmt := topS 19
abbrev s_law_refused : Stmt := topS 20
abbrev s_law_right : Stmt := topS 21
abbrev s_law_few : Stmt := topS 22
abbrev s_law : Stmt := topS 23
theorem sc_is_number : FnScope ["thing"] ["thing"] (defScope s_is_number) := ⟨rfl, rfl, rfl, by decide +kernel, rfl, by decide +kernel, by decide +kernel⟩
theorem sc_is_pair : FnScope ["thing"] ["thing"] (defScope s_is_pair) := ⟨rfl, rfl, rfl, by decide +kernel, rfl, by decide +kernel, by decide +kernel⟩
theorem sc_check_row : FnScope ["row", "stone", "at"] ["row"] (defScope s_check_row) := ⟨rfl, rfl, rfl, by decide +kernel, rfl, by decide +kernel, by decide +kernel⟩
theorem sc_written : FnScope ["row", "place", "height"] ["row"] (defScope s_written) := ⟨rfl, rfl, rfl, by decide +kernel, rfl, by decide +kernel, by decide +kernel⟩
theorem sc_number_in : FnScope ["word", "figures"] ["word"] (defScope s_number_in) := ⟨rfl, rfl, rfl, by decide +kernel, rfl, by decide +kernel, by decide +kernel⟩
theorem sc_read : FnScope ["text", "row", "word", "place", "sign", "height"] ["text"] (defScope s_read) := ⟨rfl, rfl, rfl, by decide +kernel, rfl, by decide +kernel, by decide +kernel⟩
theorem sc_law_row : FnScope ["_law_script", "_law_code", "_law_apart", "_law_high", "_law_place", "_law_found", "_law_cell"] ["_law_script"] (defScope s_law_row) := ⟨rfl, rfl, rfl, by decide +kernel, rfl, by decide +kernel, by decide +kernel⟩
theorem sc_law_number : FnScope ["_law_word", "_law_figures", "_law_sign"] ["_law_word"] (defScope s_law_number) := ⟨rfl, rfl, rfl, by decide +kernel, rfl, by decide +kernel, by decide +kernel⟩
theorem sc_law_in : FnScope ["_law_text", "_law_row_here", "_law_word", "_law_parts", "_law_part"] ["_law_text"] (defScope s_law_in) := ⟨rfl, rfl, rfl, by decide +kernel, rfl, by decide +kernel, by decide +kernel⟩
theorem sc_law_refused : FnScope ["_law_ask", "_law_thing", "_law_due", "error", "_law_found"] ["_law_ask", "_law_thing", "_law_due"] (defScope s_law_refused) := ⟨rfl, rfl, rfl, by decide +kernel, rfl, by decide +kernel, by decide +kernel⟩
theorem sc_law_right : FnScope ["_law_text", "_law_due", "_law_found", "_law_stone"] ["_law_text"] (defScope s_law_right) := ⟨rfl, rfl, rfl, by decide +kernel, rfl, by decide +kernel, by decide +kernel⟩
theorem sc_law_few : FnScope ["_law_some"] [] (defScope s_law_few) := ⟨rfl, rfl, rfl, by decide +kernel, rfl, by decide +kernel, by decide +kernel⟩
theorem sc_law : FnScope ["_law_script", "_law_row_here", "_law_text", "_law_handed", "_law_cell", "_law_at", "_law_sign", "_law_great", "_law_stones", "_law_place", "_law_height", "_law_other", "_law_thing"] ["_law_script"] (defScope s_law) := ⟨rfl, rfl, rfl, by decide +kernel, rfl, by decide +kernel, by decide +kernel⟩
structure Txt (w : World) (K : PySem.W.Frag) (mg : Str → Option Value) (C : CS) : Prop where
  hw : w = C.w
  b_abs : mg "abs" = none
  b_all : mg "all" = none
  b_any : mg "any" = none
  b_bool : mg "bool" = none
  b_int : mg "int" = none
  b_isinstance : mg "isinstance" = none
  b_len : mg "len" = none
  b_list : mg "list" = none
  b_max : mg "max" = none
  b_range : mg "range" = none
  b_str : mg "str" = none
  b_sum : mg "sum" = none
  b_tuple : mg "tuple" = none
  g_FIGURES : ∃ t, mg "FIGURES" = some (.str "0123456789" t)
  g_MOST : ∃ t, mg "MOST" = some (.int 60 t)
  e_BadRow : ExcCls K mg "BadRow" C.BadRow
  e_BadSide : ExcCls K mg "BadSide" C.BadSide
  e_BadStone : ExcCls K mg "BadStone" C.BadStone
  e_BadText : ExcCls K mg "BadText" C.BadText
  e_FallError : ExcCls K mg "FallError" C.FallError
  v_read : mg "read" = some (.ref (fa C 1))
  v_written : mg "written" = some (.ref (fa C 0))
  xf : ExcFs K C
section
variable {P : Program} {w : World} {K : PySem.W.Frag} {mg : Str → Option Value} {base : Heap} {C : CS}
theorem ok_is_number {f : Addr} {fd : FuncData} (F : Fun K "is_number" "is_number" s_is_number f fd) (T : Txt w K mg C) : FnOk P w K mg base (L2N.CX P w) 1 f fd ["thing"] (sp_is_number K C) := by
  obtain rfl := T.hw
  refine okN F sc_is_number (fun vs H Q E h => len_is_number h) (fun cdv A outer s H vs Q E hr h => ⟨t_is_number K C, PSs.nox (?_), pure_is_number h⟩)
  exact (pss_one (ps_ret (pe_and (pe_callB call_isi (by rfl) T.b_isinstance (by decide +kernel) (pa_cons (pv 0) (pa_cons (pe_bltn (v := .ty "int") (by rfl) T.b_int (by decide +kernel) rfl) pa_nil))) (pe_one (pe_not (pe_callB call_isi (by rfl) T.b_isinstance (by decide +kernel) (pa_cons (pv 0) (pa_cons (pe_bltn (v := .ty "bool") (by rfl) T.b_bool (by decide +kernel) rfl) pa_nil))))))))
theorem ok_is_pair {f : Addr} {fd : FuncData} (F : Fun K "is_pair" "is_pair" s_is_pair f fd) (T : Txt w K mg C) (g_is_number : Cal P w K mg base (L2N.CX P w) 1 "is_number" ["thing"] (sp_is_number K C)) : FnOk P w K mg base (L2N.CX P w) 2 f fd ["thing"] (sp_is_pair K C) := by
  obtain rfl := T.hw
  refine okN F sc_is_pair (fun vs H Q E h => len_is_pair h) (fun cdv A outer s H vs Q E hr h => ⟨t_is_pair K C, PSs.nox (?_), pure_is_pair h⟩)
  exact (pss_one (ps_ret (pe_and (pe_callB call_isi (by rfl) T.b_isinstance (by decide +kernel) (pa_cons (pv 0) (pa_cons (pe_bltn (v := .ty "tuple") (by rfl) T.b_tuple (by decide +kernel) rfl) pa_nil))) (pe_and (pe_cmpR op_eq (pe_callB call_len_seq (by rfl) T.b_len (by decide +kernel) (pa_cons (pv 0) pa_nil)) pe_int (nomark _)) (pe_and (pe_cal g_is_number (hr.mono (by decide)) (by rfl) passN (pa_cons (pe_ix ix_tup (pv 0) pe_int (fun _ _ => rfl)) pa_nil)) (pe_one (pe_cal g_is_number (hr.mono (by decide)) (by rfl) passN (pa_cons (pe_ix ix_tup (pv 0) pe_int (fun _ _ => rfl)) pa_nil))))))))
theorem ok_check_row {f : Addr} {fd : FuncData} (F : Fun K "check_row" "check_row" s_check_row f fd) (T : Txt w K mg C) (g_is_pair : Cal P w K mg base (L2N.CX P w) 2 "is_pair" ["thing"] (sp_is_pair K C)) : FnOk P w K mg base (L2N.CX P w) 3 f fd ["row"] (sp_check_row K C) := by
  obtain rfl := T.hw
  refine okN F sc_check_row (fun vs H Q E h => len_check_row h) (fun cdv A outer s H vs Q E hr h => ⟨t_check_row K C E, ?_, pure_check_row h⟩)
  exact (pss_cons (ps_if (PW.pt (pw_or (pt_not (pt_val (pe_callB call_isi (by rfl) T.b_isinstance (by decide +kernel) (pa_cons (pv 0) (pa_cons (pe_bltn (v := .ty "list") (by rfl) T.b_list (by decide +kernel) rfl) pa_nil))))) (pw_or1 (pt_not (pt_val (pe_callB (cr_all rfl) (by rfl) T.b_all (by decide +kernel) (pa_cons (pe_lc (own := [("stone", 1)]) (g := (gName 1)) (tt := tYes) (by rfl) sc_check_row.nd (pi_list (pv 0)) (blkOk_by (own := [("stone", 1)]) (N := ["row", "stone", "at"]) (sc := defScope s_check_row) (by decide +kernel)) (fun _ _ _ _ _ => (pg_name (i := 1) sc_check_row.nd rfl (.inl rfl))) (fun _ _ _ _ _ => pts_nil) (fun _ _ _ _ _ => (pe_and (pe_cal g_is_pair (hr.mono (by decide)) (by rfl) passN (pa_cons (pv 1) pa_nil)) (pe_one (pe_cmpR op_gt (pe_ix ix_tup (pv 1) pe_int (fun _ _ => rfl)) pe_int (nomark _)))))) pa_nil))))))) (pss_one (ps_raiseO rfl (L2N.takes_of rfl rfl rfl rfl) T.e_BadRow (by rfl))) pss_nil) (pss_one (ps_if (pt_not (pt_val (pe_callB (cr_all rfl) (by rfl) T.b_all (by decide +kernel) (pa_cons (pe_lc (own := [("at", 2)]) (g := (gName 2)) (tt := tYes) (by rfl) sc_check_row.nd (pi_range2 rfl T.b_range (pa_cons pe_int (pa_cons (pe_callB call_len_seq (by rfl) T.b_len (by decide +kernel) (pa_cons (pv 0) pa_nil)) pa_nil))) (blkOk_by (own := [("at", 2)]) (N := ["row", "stone", "at"]) (sc := defScope s_check_row) (by decide +kernel)) (fun _ _ _ _ _ => (pg_name (i := 2) sc_check_row.nd rfl (.inl rfl))) (fun _ _ _ _ _ => pts_nil) (fun _ _ _ _ _ => (pe_cmpR op_lt (pe_ix ix_tup (pe_ix ix_list (pv 0) (pe_op op_sub (pv 2) pe_int) (fun _ _ => rfl)) pe_int (fun _ _ => rfl)) (pe_ix ix_tup (pe_ix ix_list (pv 0) (pv 2) (fun _ _ => rfl)) pe_int (fun _ _ => rfl)) (nomark _)))) pa_nil)))) (pss_one (ps_raiseO rfl (L2N.takes_of rfl rfl rfl rfl) T.e_BadRow (by rfl))) pss_nil)))
theorem ok_written {f : Addr} {fd : FuncData} (F : Fun K "written" "written" s_written f fd) (T : Txt w K mg C) (g_check_row : Cal P w K mg base (L2N.CX P w) 3 "check_row" ["row"] (sp_check_row K C)) : FnOk P w K mg base (L2.CX P w) 4 f fd ["row"] (sp_written K C) := by
  obtain rfl := T.hw
  refine F.okX sc_written (fun vs H Q E h => len_written h) (fun cdv A outer s H vs Q E hr h => ⟨t_written K C E, ?_, pure_written h⟩)
  exact (pss_cons (ps_expr (pe_calL (cal_NL g_check_row) (hr.mono (by decide)) (by rfl) (L2.takes_of rfl rfl rfl rfl) (pa_cons (pv 0) pa_nil))) (pss_cons (ps_if (pt_val (pe_callB (cr_any rfl) (by rfl) T.b_any (by decide +kernel) (pa_cons (pe_lc (own := [("place", 1), ("height", 2)]) (g := (gTup K 2 (gCons (gName 1) (gCons (gName 2) gNil)))) (tt := tYes) (by rfl) sc_written.nd (pi_list (pv 0)) (blkOk_by (own := [("place", 1), ("height", 2)]) (N := ["row", "place", "height"]) (sc := defScope s_written) (by decide +kernel)) (fun _ _ _ _ _ => (pg_tup rfl (pgs_cons (pg_name (i := 1) sc_written.nd rfl (.inl rfl)) (pgs_cons (pg_name (i := 2) sc_written.nd rfl (.inl rfl)) pgs_nil)))) (fun _ _ _ _ _ => pts_nil) (fun _ _ _ _ _ => (pe_cmpR op_ge (pe_callB (call_max2 rfl) (by rfl) T.b_max (by decide +kernel) (pa_cons (pe_callB call_abs (by rfl) T.b_abs (by decide +kernel) (pa_cons (pv 1) pa_nil)) (pa_cons (pv 2) pa_nil))) (pe_op op_pow pe_int pe_int) (nomark _)))) pa_nil))) (pss_one (ps_raiseL rfl (L2.takes_of rfl rfl rfl rfl) T.e_BadRow (by rfl))) pss_nil) (pss_one (ps_ret (pe_join pe_str (pe_lc (own := [("place", 1), ("height", 2)]) (g := (gTup K 2 (gCons (gName 1) (gCons (gName 2) gNil)))) (tt := tYes) (by rfl) sc_written.nd (pi_list (pv 0)) (blkOk_by (own := [("place", 1), ("height", 2)]) (N := ["row", "place", "height"]) (sc := defScope s_written) (by decide +kernel)) (fun _ _ _ _ _ => (pg_tup rfl (pgs_cons (pg_name (i := 1) sc_written.nd rfl (.inl rfl)) (pgs_cons (pg_name (i := 2) sc_written.nd rfl (.inl rfl)) pgs_nil)))) (fun _ _ _ _ _ => pts_nil) (fun _ _ _ _ _ => (pe_op op_add_str (pe_op op_add_str (pe_callTy call_str_int (by rfl) T.b_str (by decide +kernel) (pa_cons (pv 1) pa_nil)) pe_str) (pe_callTy call_str_int (by rfl) T.b_str (by decide +kernel) (pa_cons (pv 2) pa_nil))))))))))
theorem ok_number_in {f : Addr} {fd : FuncData} (F : Fun K "number_in" "number_in" s_number_in f fd) (T : Txt w K mg C) : FnOk P w K mg base (L2.CX P w) 1 f fd ["word"] (sp_number_in K C) := by
  obtain rfl := T.hw
  refine F.okX sc_number_in (fun vs H Q E h => len_number_in h) (fun cdv A outer s H vs Q E hr h => ⟨t_number_in K C E, ?_, pure_number_in h⟩)
  exact (pss_cons (ps_set (i := 1) sc_number_in.nd rfl (.inl rfl) (pe_ifExp (pt_val (pe_m1 PySem.F.slot_str_startswith PySem.F.type_str_startswith mt_startswith (pv 0) pe_str)) (pe_slice sl_str (pv 0) (po_some pe_int) po_none) (pv 0))) (pss_cons (ps_if (PW.pt (pw_or (pt_not (pt_chain op_le op_le pe_int (pe_callB call_len_str (by rfl) T.b_len (by decide +kernel) (pa_cons (pv 1) pa_nil)) (pe_glob (v := c_MOST) (by rfl) T.g_MOST.choose_spec ⟨_, rfl⟩))) (pw_or (pt_cmpR op_ne (pe_m1 PySem.F.slot_str_strip PySem.F.type_str_strip mt_stripChars (pv 1) (pe_glob (v := c_FIGURES) (by rfl) T.g_FIGURES.choose_spec ⟨_, rfl⟩)) pe_str (nomark _)) (pw_or1 (PW.pt (pw_and (pt_cmpR op_eq (pe_ix ix_str (pv 1) pe_int (fun _ _ => rfl)) pe_str (nomark _)) (pw_and1 (pt_cmpR op_ne (pv 0) pe_str (nomark _))))))))) (pss_one (ps_raiseL rfl (L2.takes_of rfl rfl rfl rfl) T.e_BadText (by rfl))) pss_nil) (pss_one (ps_ret (pe_callTy call_int_str (by rfl) T.b_int (by decide +kernel) (pa_cons (pv 0) pa_nil))))))
theorem ok_read {f : Addr} {fd : FuncData} (F : Fun K "read" "read" s_read f fd) (T : Txt w K mg C) (g_number_in : Cal P w K mg base (L2.CX P w) 1 "number_in" ["word"] (sp_number_in K C)) (g_check_row : Cal P w K mg base (L2N.CX P w) 3 "check_row" ["row"] (sp_check_row K C)) : FnOk P w K mg base (L2.CX P w) 4 f fd ["text"] (sp_read K C) := by
  obtain rfl := T.hw
  refine F.okX sc_read (fun vs H Q E h => len_read h) (fun cdv A outer s H vs Q E hr h => ⟨t_read K C E, ?_, pure_read T.xf h⟩)
  exact (pss_cons (ps_if (pt_not (pt_val (pe_callB call_isi (by rfl) T.b_isinstance (by decide +kernel) (pa_cons (pv 0) (pa_cons (pe_bltn (v := .ty "str") (by rfl) T.b_str (by decide +kernel) rfl) pa_nil))))) (pss_one (ps_raiseL rfl (L2.takes_of rfl rfl rfl rfl) T.e_BadText (by rfl))) pss_nil) (pss_cons (ps_if (pt_cmpR op_eq (pv 0) pe_str (nomark _)) (pss_one (ps_ret (pe_lst pa_nil))) pss_nil) (pss_cons (ps_set (i := 1) sc_read.nd rfl (.inl rfl) (pe_lst pa_nil)) (pss_cons (ps_for (passes_of rfl) rfl (pi_list (pe_split (pv 0) pe_str)) (pg_name (i := 2) sc_read.nd rfl (.inl rfl)) (pss_cons (ps_asg (pe_partition (pv 2) pe_str) (pg_tup rfl (pgs_cons (pg_name (i := 3) sc_read.nd rfl (.inl rfl)) (pgs_cons (pg_name (i := 4) sc_read.nd rfl (.inl rfl)) (pgs_cons (pg_name (i := 5) sc_read.nd rfl (.inl rfl)) pgs_nil))))) (pss_one (ps_expr (pe_bm PySem.F.plainAttrs_list PySem.F.slot_list_append PySem.F.type_list_append mt_append (pv 1) (pa_cons (pe_tup (pa_cons (pe_calL g_number_in (hr.mono (by decide)) (by rfl) (L2.takes_of rfl rfl rfl rfl) (pa_cons (pv 3) pa_nil)) (pa_cons (pe_calL g_number_in (hr.mono (by decide)) (by rfl) (L2.takes_of rfl rfl rfl rfl) (pa_cons (pv 5) pa_nil)) pa_nil))) pa_nil)))))) (pss_cons (L2H.ps_try_onlyX (ts := (fun _ _ _ => (tRaise (WofE E) C.BadText))) (tb := fun W => (tDrop (tCallS (sp_check_row K C) (WE W) (tCons (tVar 1) tNil)))) rfl rfl ⟨by rfl, by decide, .inl T.e_BadRow.g⟩ (L2H.passesAt_of rfl) (L2.takes_of rfl rfl rfl rfl) (fun W pn xe tk _ own => (pss_one (ps_expr (pe_calS g_check_row (hr.mono (by decide)) (by rfl) tk (pa_cons (pv 1) pa_nil))))) (fun a oe cls d pn hz hf tkS hot => (pss_one (ps_raiseHot hot tkS T.e_BadText (by rfl))))) (pss_one (ps_ret (pv 1))))))))
theorem ok_law_row {f : Addr} {fd : FuncData} (F : Fun K "_law_row" "_law_row" s_law_row f fd) (T : Txt w K mg C) : FnOk P w K mg base CX0 1 f fd ["_law_script"] (sp_law_row K C) := by
  obtain rfl := T.hw
  refine F.ok sc_law_row (fun vs H Q E h => len_law_row h) (fun cdv A outer s H vs Q E hr h => ⟨t_law_row K C, ?_, pure_law_row h⟩)
  exact (pss_cons (ps_set (i := 1) sc_law_row.nd rfl (.inl rfl) (pe_callB (cr_sum rfl) (by rfl) T.b_sum (by decide +kernel) (pa_cons (pv 0) pa_nil))) (pss_cons (ps_asg (pe_ix ix_tup (pe_tup (pa_cons (pe_tup (pa_cons pe_int (pa_cons pe_int pa_nil))) (pa_cons (pe_tup (pa_cons pe_int (pa_cons pe_int pa_nil))) (pa_cons (pe_tup (pa_cons (pe_op op_pow pe_int pe_int) (pa_cons (pe_op op_pow pe_int pe_int) pa_nil))) (pa_cons (pe_tup (pa_cons pe_int (pa_cons pe_int pa_nil))) pa_nil))))) (pe_op op_mod (pv 1) pe_int) (fun _ _ => rfl)) (pg_tup rfl (pgs_cons (pg_name (i := 2) sc_law_row.nd rfl (.inl rfl)) (pgs_cons (pg_name (i := 3) sc_law_row.nd rfl (.inl rfl)) pgs_nil)))) (pss_cons (ps_set (i := 4) sc_law_row.nd rfl (.inl rfl) (pe_un un_neg (pe_op op_mod (pe_op op_fdiv (pv 1) pe_int) pe_int))) (pss_cons (ps_set (i := 5) sc_law_row.nd rfl (.inl rfl) (pe_lst pa_nil)) (pss_cons (ps_for PassesOwn.never rfl (pi_list (pv 0)) (pg_name (i := 6) sc_law_row.nd rfl (.inl rfl)) (pss_cons (ps_set (i := 4) sc_law_row.nd rfl (.inl rfl) (pe_op op_add (pe_op op_add (pv 4) pe_int) (pe_op op_mod (pv 6) (pv 2)))) (pss_one (ps_expr (pe_bm PySem.F.plainAttrs_list PySem.F.slot_list_append PySem.F.type_list_append mt_append (pv 5) (pa_cons (pe_tup (pa_cons (pv 4) (pa_cons (pe_op op_add pe_int (pe_op op_mod (pe_op op_add (pe_op op_fdivW (pv 6) (pv 2)) (pe_op op_fdiv (pv 6) pe_int)) (pv 3))) pa_nil))) pa_nil)))))) (pss_one (ps_ret (pv 5))))))))
theorem ok_law_number {f : Addr} {fd : FuncData} (F : Fun K "_law_number" "_law_number" s_law_number f fd) (T : Txt w K mg C) : FnOk P w K mg base CX0 1 f fd ["_law_word"] (sp_law_number K C) := by
  obtain rfl := T.hw
  refine F.ok sc_law_number (fun vs H Q E h => len_law_number h) (fun cdv A outer s H vs Q E hr h => ⟨t_law_number K C, ?_, pure_law_number h⟩)
  exact (pss_cons (ps_set (i := 1) sc_law_number.nd rfl (.inl rfl) (pe_ifExp (pt_cmpR op_eq (pe_slice sl_str (pv 0) po_none (po_some pe_int)) pe_str (nomark _)) (pe_slice sl_str (pv 0) (po_some pe_int) po_none) (pv 0))) (pss_cons (ps_if (PW.pt (pw_or (pt_not (pt_chain op_lt op_lt pe_int (pe_callB call_len_str (by rfl) T.b_len (by decide +kernel) (pa_cons (pv 1) pa_nil)) pe_int)) (pw_or1 (pt_not (pt_val (pe_callB (cr_all rfl) (by rfl) T.b_all (by decide +kernel) (pa_cons (pe_lc (own := [("_law_sign", 2)]) (g := (gName 2)) (tt := tYes) (by rfl) sc_law_number.nd (pi_str (pv 1)) (blkOk_by (own := [("_law_sign", 2)]) (N := ["_law_word", "_law_figures", "_law_sign"]) (sc := defScope s_law_number) (by decide +kernel)) (fun _ _ _ _ _ => (pg_name (i := 2) sc_law_number.nd rfl (.inl rfl))) (fun _ _ _ _ _ => pts_nil) (fun _ _ _ _ _ => (pe_cmpR op_in_sign (pv 2) pe_str (by rfl)))) pa_nil))))))) (pss_one (ps_ret pe_non)) pss_nil) (pss_cons (ps_if (PW.pt (pw_and (pt_cmpR op_eq (pe_ix ix_str (pv 1) pe_int (fun _ _ => rfl)) pe_str (nomark _)) (pw_and1 (pt_cmpR op_ne (pv 0) pe_str (nomark _))))) (pss_one (ps_ret pe_non)) pss_nil) (pss_one (ps_ret (pe_callTy call_int_str (by rfl) T.b_int (by decide +kernel) (pa_cons (pv 0) pa_nil)))))))
theorem ok_law_in {f : Addr} {fd : FuncData} (F : Fun K "_law_in" "_law_in" s_law_in f fd) (T : Txt w K mg C) (g_law_number : Cal P w K mg base CX0 1 "_law_number" ["_law_word"] (sp_law_number K C)) : FnOk P w K mg base CX0 2 f fd ["_law_text"] (sp_law_in K C) := by
  obtain rfl := T.hw
  refine F.ok sc_law_in (fun vs H Q E h => len_law_in h) (fun cdv A outer s H vs Q E hr h => ⟨t_law_in K C, ?_, pure_law_in h⟩)
  exact (pss_cons (ps_set (i := 1) sc_law_in.nd rfl (.inl rfl) (pe_lst pa_nil)) (pss_cons (ps_for PassesOwn.never rfl (pi_list (pe_ifExp (pt_cmpR op_ne (pv 0) pe_str (nomark _)) (pe_split (pv 0) pe_str) (pe_lst pa_nil))) (pg_name (i := 2) sc_law_in.nd rfl (.inl rfl)) (pss_cons (ps_set (i := 3) sc_law_in.nd rfl (.inl rfl) (pe_split (pv 2) pe_str)) (pss_cons (ps_if (PW.pt (pw_or (pt_cmpR op_ne (pe_callB call_len_seq (by rfl) T.b_len (by decide +kernel) (pa_cons (pv 3) pa_nil)) pe_int (nomark _)) (pw_or (pt_cmpR op_in_seq pe_non (pe_lc (own := [("_law_part", 4)]) (g := (gName 4)) (tt := tYes) (by rfl) sc_law_in.nd (pi_list (pv 3)) (blkOk_by (own := [("_law_part", 4)]) (N := ["_law_text", "_law_row_here", "_law_word", "_law_parts", "_law_part"]) (sc := defScope s_law_in) (by decide +kernel)) (fun _ _ _ _ _ => (pg_name (i := 4) sc_law_in.nd rfl (.inl rfl))) (fun _ _ _ _ _ => pts_nil) (fun _ _ _ _ _ => (pe_cal g_law_number (hr.mono (by decide)) (by rfl) pass0 (pa_cons (pv 4) pa_nil)))) (by rfl)) (pw_or1 (pt_cmpR op_lt (pe_cal g_law_number (hr.mono (by decide)) (by rfl) pass0 (pa_cons (pe_ix ix_list (pv 3) pe_int (fun _ _ => rfl)) pa_nil)) pe_int (nomark _)))))) (pss_one (ps_ret pe_non)) pss_nil) (pss_cons (ps_if (PW.pt (pw_and (pt_cmpR (op_neD hr.units) (pv 1) (pe_lst pa_nil) (nomark _)) (pw_and1 (pt_cmpR op_ge (pe_ix ix_tup (pe_ix ix_list (pv 1) (pe_un un_neg pe_int) (fun _ _ => rfl)) pe_int (fun _ _ => rfl)) (pe_cal g_law_number (hr.mono (by decide)) (by rfl) pass0 (pa_cons (pe_ix ix_list (pv 3) pe_int (fun _ _ => rfl)) pa_nil)) (nomark _))))) (pss_one (ps_ret pe_non)) pss_nil) (pss_one (ps_expr (pe_bm PySem.F.plainAttrs_list PySem.F.slot_list_append PySem.F.type_list_append mt_append (pv 1) (pa_cons (pe_tup (pa_cons (pe_cal g_law_number (hr.mono (by decide)) (by rfl) pass0 (pa_cons (pe_ix ix_list (pv 3) pe_int (fun _ _ => rfl)) pa_nil)) (pa_cons (pe_cal g_law_number (hr.mono (by decide)) (by rfl) pass0 (pa_cons (pe_ix ix_list (pv 3) pe_int (fun _ _ => rfl)) pa_nil)) pa_nil))) pa_nil)))))))) (pss_one (ps_ret (pv 1)))))
theorem ok_law_refused {f : Addr} {fd : FuncData} (F : Fun K "_law_refused" "_law_refused" s_law_refused f fd) (T : Txt w K mg C) (h_S_ask : ∀ f sp, S_ask K C f sp → HeldS P w K mg base (L2.CX P w) 5 f sp) : FnOk P w K mg base CX0 6 f fd ["_law_ask", "_law_thing", "_law_due"] (sp_law_refused K C) := by
  obtain rfl := T.hw
  refine F.ok sc_law_refused (fun vs H Q E h => len_law_refused h) (fun cdv A outer s H vs Q E hr h => ⟨t_law_refused K C, ?_, pure_law_refused T.xf h⟩)
  exact (pss_cons (L2.ps_try_as (i := 3) (ts := (fun a => tSuite (fun De => ExcC K De) fun De => (tSeq (tAsg (tLst (tCons (tCB (rIsE K De a) (tCons (tVar 3) (tCons (tC (.ref C.BadRow)) tNil))) (tCons (tCB (rIsE K De a) (tCons (tVar 3) (tCons (tC (.ref C.BadText)) tNil))) (tCons (tCB (rIsE K De a) (tCons (tVar 3) (tCons (tC (.ref C.BadSide)) tNil))) tNil)))) (gName 4)) (tRet (tOp (rEqD K) (tOp rCat (tVar 4) (tLst (tCons (tCB (rIsE K De a) (tCons (tVar 3) (tCons (tC (.ref C.BadStone)) tNil))) tNil))) (tLst (tCons (tOp rEq (tVar 2) (tC (.int 0))) (tCons (tOp rEq (tVar 2) (tC (.int 1))) (tCons (tC (.bl false)) (tCons (tC (.bl false)) tNil)))))))))) (tb := fun W => (tDrop (tCallF (S_ask K C) (WE W) (tVar 0) (tCons (tVar 1) tNil)))) rfl rfl sc_law_refused.nd rfl rfl ⟨by rfl, by decide, .inl T.e_FallError.g⟩ takes0 (fun W pn xe tk own => (pss_one (ps_expr (pe_callFN (S := S_ask K C) (E := (WE W)) (i := 0) rfl (by first | exact Or.inl rfl | exact Or.inr (Or.inl rfl) | exact Or.inr (Or.inr rfl)) h_S_ask (hr.mono (by decide)) (fun σ => L2.passAt tk σ) (pa_cons (pv 1) pa_nil))))) (fun a oe cls d pn hz hf => pss_suite fun De e1 e2 hF => (pss_cons (ps_set (i := 4) sc_law_refused.nd rfl (.inl rfl) (pe_lst (pa_cons (pe_callB (call_isE hF (zcL hz e1 e2) hf) (by rfl) T.b_isinstance (by decide +kernel) (pa_cons (pv 3) (pa_cons (pe_glob (v := .ref C.BadRow) (by rfl) T.e_BadRow.g rfl) pa_nil))) (pa_cons (pe_callB (call_isE hF (zcL hz e1 e2) hf) (by rfl) T.b_isinstance (by decide +kernel) (pa_cons (pv 3) (pa_cons (pe_glob (v := .ref C.BadText) (by rfl) T.e_BadText.g rfl) pa_nil))) (pa_cons (pe_callB (call_isE hF (zcL hz e1 e2) hf) (by rfl) T.b_isinstance (by decide +kernel) (pa_cons (pv 3) (pa_cons (pe_glob (v := .ref C.BadSide) (by rfl) T.e_BadSide.g rfl) pa_nil))) pa_nil))))) (pss_one (ps_ret (pe_cmpR (op_eqD hr.units) (pe_op op_cat (pv 4) (pe_lst (pa_cons (pe_callB (call_isE hF (zcL hz e1 e2) hf) (by rfl) T.b_isinstance (by decide +kernel) (pa_cons (pv 3) (pa_cons (pe_glob (v := .ref C.BadStone) (by rfl) T.e_BadStone.g rfl) pa_nil))) pa_nil))) (pe_lst (pa_cons (pe_cmpR op_eq (pv 2) pe_int (nomark _)) (pa_cons (pe_cmpR op_eq (pv 2) pe_int (nomark _)) (pa_cons pe_bl (pa_cons pe_bl pa_nil))))) (nomark _))))))) (pss_one (ps_ret pe_bl)))
theorem ok_law_right {f : Addr} {fd : FuncData} (F : Fun K "_law_right" "_law_right" s_law_right f fd) (T : Txt w K mg C) (g_law_in : Cal P w K mg base CX0 2 "_law_in" ["_law_text"] (sp_law_in K C)) (g_law_refused : Cal P w K mg base CX0 6 "_law_refused" ["_law_ask", "_law_thing", "_law_due"] (sp_law_refused K C)) (g_read : Cal P w K mg base (L2.CX P w) 4 "read" ["text"] (sp_read K C)) (g_written : Cal P w K mg base (L2.CX P w) 4 "written" ["row"] (sp_written K C)) : FnOk P w K mg base CX0 7 f fd ["_law_text"] (sp_law_right K C) := by
  obtain rfl := T.hw
  refine F.ok sc_law_right (fun vs H Q E h => len_law_right h) (fun cdv A outer s H vs Q E hr h => ⟨t_law_right K C, ?_, pure_law_right h⟩)
  exact (pss_cons (ps_set (i := 1) sc_law_right.nd rfl (.inl rfl) (pe_cal g_law_in (hr.mono (by decide)) (by rfl) pass0 (pa_cons (pv 0) pa_nil))) (pss_cons (ps_if (pt_cmpR op_isN1 (pv 1) pe_non (nomark _)) (pss_one (ps_ret (pe_cal g_law_refused (hr.mono (by decide)) (by rfl) pass0 (pa_cons (pe_glob (v := .ref (fa C 1)) (by rfl) T.v_read rfl) (pa_cons (pv 0) (pa_cons pe_int pa_nil)))))) pss_nil) (pss_cons (ps_set (i := 2) sc_law_right.nd rfl (.inl rfl) (pe_cal g_read (hr.mono (by decide)) (by rfl) passL (pa_cons (pv 0) pa_nil))) (pss_cons (ps_if (PW.pt (pw_or (pt_not (pt_val (pe_callB call_isi (by rfl) T.b_isinstance (by decide +kernel) (pa_cons (pv 2) (pa_cons (pe_bltn (v := .ty "list") (by rfl) T.b_list (by decide +kernel) rfl) pa_nil))))) (pw_or (pt_cmpR (op_neD hr.units) (pv 2) (pv 1) (nomark _)) (pw_or1 (pt_cmpR op_ne (pe_cal g_written (hr.mono (by decide)) (by rfl) passL (pa_cons (pv 2) pa_nil)) (pv 0) (nomark _)))))) (pss_one (ps_ret pe_bl)) pss_nil) (pss_cons (ps_if (pt_not (pt_val (pe_callB (cr_all rfl) (by rfl) T.b_all (by decide +kernel) (pa_cons (pe_lc (own := [("_law_stone", 3)]) (g := (gName 3)) (tt := tYes) (by rfl) sc_law_right.nd (pi_list (pv 2)) (blkOk_by (own := [("_law_stone", 3)]) (N := ["_law_text", "_law_due", "_law_found", "_law_stone"]) (sc := defScope s_law_right) (by decide +kernel)) (fun _ _ _ _ _ => (pg_name (i := 3) sc_law_right.nd rfl (.inl rfl))) (fun _ _ _ _ _ => pts_nil) (fun _ _ _ _ _ => (pe_callB call_isi (by rfl) T.b_isinstance (by decide +kernel) (pa_cons (pv 3) (pa_cons (pe_bltn (v := .ty "tuple") (by rfl) T.b_tuple (by decide +kernel) rfl) pa_nil))))) pa_nil)))) (pss_one (ps_ret pe_bl)) pss_nil) (pss_cons (ps_expr (pe_bm PySem.F.plainAttrs_list PySem.F.slot_list_append PySem.F.type_list_append mt_append (pv 2) (pa_cons (pe_tup (pa_cons pe_int (pa_cons pe_int pa_nil))) pa_nil))) (pss_one (ps_ret (pe_cmpR (op_eqD hr.units) (pe_cal g_read (hr.mono (by decide)) (by rfl) passL (pa_cons (pv 0) pa_nil)) (pv 1) (nomark _))))))))))
theorem ok_law_few {f : Addr} {fd : FuncData} (F : Fun K "_law_few" "_law_few" s_law_few f fd) (T : Txt w K mg C) : FnOk P w K mg base CX0 1 f fd [] (sp_law_few K C) := by
  obtain rfl := T.hw
  refine F.ok sc_law_few (fun vs H Q E h => len_law_few h) (fun cdv A outer s H vs Q E hr h => ⟨t_law_few K C, ?_, pure_law_few h⟩)
  exact (pss_cons (ps_set (i := 0) sc_law_few.nd rfl (.inl rfl) (pe_lst (pa_cons pe_str (pa_cons pe_str (pa_cons pe_str (pa_cons pe_str (pa_cons pe_str (pa_cons pe_str (pa_cons pe_str (pa_cons pe_str (pa_cons pe_str (pa_cons pe_str (pa_cons pe_str (pa_cons pe_str (pa_cons pe_str pa_nil))))))))))))))) (pss_cons (ps_set (i := 0) sc_law_few.nd rfl (.inl rfl) (pe_op op_cat (pv 0) (pe_lst (pa_cons pe_str (pa_cons pe_str (pa_cons pe_str (pa_cons pe_str (pa_cons pe_str (pa_cons pe_str (pa_cons pe_str (pa_cons pe_str (pa_cons pe_str (pa_cons pe_str (pa_cons pe_str pa_nil)))))))))))))) (pss_cons (ps_set (i := 0) sc_law_few.nd rfl (.inl rfl) (pe_op op_cat (pv 0) (pe_lst (pa_cons pe_str (pa_cons pe_str pa_nil))))) (pss_cons (ps_set (i := 0) sc_law_few.nd rfl (.inl rfl) (pe_op op_cat (pv 0) (pe_lst (pa_cons pe_str (pa_cons pe_str (pa_cons pe_str (pa_cons pe_str (pa_cons (pe_op op_add_str (pe_op op_add_str pe_str (pe_op op_mulS pe_str pe_int)) pe_str) (pa_cons (pe_op op_add_str (pe_op op_add_str pe_str (pe_op op_mulS pe_str pe_int)) pe_str) (pa_cons (pe_op op_add_str pe_str (pe_op op_mulS pe_str pe_int)) pa_nil)))))))))) (pss_one (ps_ret (pe_op op_cat (pv 0) (pe_lst (pa_cons (pe_op op_add_str pe_str (pe_op op_mulS pe_str pe_int)) (pa_cons (pe_op op_add_str (pe_op op_mulS pe_str pe_int) pe_str) (pa_cons (pe_op op_add_str (pe_op op_add_str pe_str (pe_op op_mulS pe_str pe_int)) pe_str) pa_nil)))))))))))
theorem ok_law {f : Addr} {fd : FuncData} (F : Fun K "law" "law" s_law f fd) (T : Txt w K mg C) (g_law_row : Cal P w K mg base CX0 1 "_law_row" ["_law_script"] (sp_law_row K C)) (g_written : Cal P w K mg base (L2.CX P w) 4 "written" ["row"] (sp_written K C)) (g_law_right : Cal P w K mg base CX0 7 "_law_right" ["_law_text"] (sp_law_right K C)) (g_law_few : Cal P w K mg base CX0 1 "_law_few" [] (sp_law_few K C)) (g_law_refused : Cal P w K mg base CX0 6 "_law_refused" ["_law_ask", "_law_thing", "_law_due"] (sp_law_refused K C)) : FnOk P w K mg base CX0 8 f fd ["_law_script"] (sp_law K C) := by
  obtain rfl := T.hw
  refine F.ok sc_law (fun vs H Q E h => len_law h) (fun cdv A outer s H vs Q E hr h => ⟨t_law K C, ?_, pure_law h⟩)
  exact (pss_cons (ps_set (i := 1) sc_law.nd rfl (.inl rfl) (pe_cal g_law_row (hr.mono (by decide)) (by rfl) pass0 (pa_cons (pv 0) pa_nil))) (pss_cons (ps_set (i := 2) sc_law.nd rfl (.inl rfl) (pe_join pe_str (pe_lc (own := [("_law_place", 9), ("_law_height", 10)]) (g := (gTup K 2 (gCons (gName 9) (gCons (gName 10) gNil)))) (tt := tYes) (by rfl) sc_law.nd (pi_list (pv 1)) (blkOk_by (own := [("_law_place", 9), ("_law_height", 10)]) (N := ["_law_script", "_law_row_here", "_law_text", "_law_handed", "_law_cell", "_law_at", "_law_sign", "_law_great", "_law_stones", "_law_place", "_law_height", "_law_other", "_law_thing"]) (sc := defScope s_law) (by decide +kernel)) (fun _ _ _ _ _ => (pg_tup rfl (pgs_cons (pg_name (i := 9) sc_law.nd rfl (.inl rfl)) (pgs_cons (pg_name (i := 10) sc_law.nd rfl (.inl rfl)) pgs_nil)))) (fun _ _ _ _ _ => pts_nil) (fun _ _ _ _ _ => (pe_op op_add_str (pe_op op_add_str (pe_callTy call_str_int (by rfl) T.b_str (by decide +kernel) (pa_cons (pv 9) pa_nil)) pe_str) (pe_callTy call_str_int (by rfl) T.b_str (by decide +kernel) (pa_cons (pv 10) pa_nil))))))) (pss_cons (ps_set (i := 3) sc_law.nd rfl (.inl rfl) (pe_callTy call_list_of (by rfl) T.b_list (by decide +kernel) (pa_cons (pv 1) pa_nil))) (pss_cons (ps_if (PW.pt (pw_or (pt_cmpR op_ne (pe_cal g_written (hr.mono (by decide)) (by rfl) passL (pa_cons (pv 3) pa_nil)) (pv 2) (nomark _)) (pw_or (pt_cmpR (op_neD hr.units) (pv 3) (pv 1) (nomark _)) (pw_or1 (pt_not (pt_val (pe_cal g_law_right (hr.mono (by decide)) (by rfl) pass0 (pa_cons (pv 2) pa_nil)))))))) (pss_one (ps_ret pe_bl)) pss_nil) (pss_cons (ps_for PassesOwn.never rfl (pi_list (pe_op op_cat (pe_slice sl_list (pv 0) po_none (po_some pe_int)) (pe_sliceStep (pv 0) (po_some pe_int) (po_some pe_int)))) (pg_name (i := 4) sc_law.nd rfl (.inl rfl)) (pss_cons (ps_set (i := 5) sc_law.nd rfl (.inl rfl) (pe_op op_mod (pe_op op_fdiv (pv 4) pe_int) (pe_op op_add (pe_callB call_len_str (by rfl) T.b_len (by decide +kernel) (pa_cons (pv 2) pa_nil)) pe_int))) (pss_cons (ps_set (i := 6) sc_law.nd rfl (.inl rfl) (pe_ix ix_tup (pe_tup (pa_cons pe_str (pa_cons (pe_ix ix_str pe_str (pe_op op_mod (pe_op op_fdiv (pv 4) pe_int) pe_int) (fun _ _ => rfl)) pa_nil))) (pe_op op_mod (pe_op op_fdiv (pv 4) pe_int) pe_int) (fun _ _ => rfl))) (pss_one (ps_if (pt_not (pt_val (pe_cal g_law_right (hr.mono (by decide)) (by rfl) pass0 (pa_cons (pe_op op_add_str (pe_op op_add_str (pe_slice sl_str (pv 2) po_none (po_some (pv 5))) (pv 6)) (pe_slice sl_str (pv 2) (po_some (pe_op op_add (pv 5) (pe_op op_mod (pe_op op_fdiv (pv 4) pe_int) pe_int))) po_none)) pa_nil)))) (pss_one (ps_ret pe_bl)) pss_nil))))) (pss_cons (ps_if (pt_not (pt_val (pe_callB (cr_all rfl) (by rfl) T.b_all (by decide +kernel) (pa_cons (pe_lc (own := [("_law_other", 11)]) (g := (gName 11)) (tt := tYes) (by rfl) sc_law.nd (pi_list (pe_cal0 g_law_few (hr.mono (by decide)) (by rfl) pass0)) (blkOk_by (own := [("_law_other", 11)]) (N := ["_law_script", "_law_row_here", "_law_text", "_law_handed", "_law_cell", "_law_at", "_law_sign", "_law_great", "_law_stones", "_law_place", "_law_height", "_law_other", "_law_thing"]) (sc := defScope s_law) (by decide +kernel)) (fun _ _ _ _ _ => (pg_name (i := 11) sc_law.nd rfl (.inl rfl))) (fun _ _ _ _ _ => pts_nil) (fun _ _ _ _ _ => (pe_cal g_law_right (hr.mono (by decide)) (by rfl) pass0 (pa_cons (pv 11) pa_nil)))) pa_nil)))) (pss_one (ps_ret pe_bl)) pss_nil) (pss_cons (ps_set (i := 7) sc_law.nd rfl (.inl rfl) (pe_op op_pow pe_int pe_int)) (pss_cons (ps_for PassesOwn.never rfl (pi_list (pe_lst (pa_cons (pe_lst (pa_cons (pe_tup (pa_cons (pv 7) (pa_cons pe_int pa_nil))) pa_nil)) (pa_cons (pe_lst (pa_cons (pe_tup (pa_cons (pe_un un_neg (pv 7)) (pa_cons pe_int pa_nil))) pa_nil)) (pa_cons (pe_lst (pa_cons (pe_tup (pa_cons pe_int (pa_cons (pv 7) pa_nil))) pa_nil)) (pa_cons (pe_op op_cat (pv 1) (pe_lst (pa_cons (pe_tup (pa_cons (pe_op op_mul pe_int (pv 7)) (pa_cons pe_int pa_nil))) pa_nil))) pa_nil)))))) (pg_name (i := 8) sc_law.nd rfl (.inl rfl)) (pss_one (ps_if (pt_not (pt_val (pe_cal g_law_refused (hr.mono (by decide)) (by rfl) pass0 (pa_cons (pe_glob (v := .ref (fa C 0)) (by rfl) T.v_written rfl) (pa_cons (pv 8) (pa_cons pe_int pa_nil)))))) (pss_one (ps_ret pe_bl)) pss_nil))) (pss_cons (ps_if (pt_cmpR op_ne (pe_cal g_written (hr.mono (by decide)) (by rfl) passL (pa_cons (pe_lst (pa_cons (pe_tup (pa_cons (pe_op op_sub pe_int (pv 7)) (pa_cons (pe_op op_sub (pv 7) pe_int) pa_nil))) pa_nil)) pa_nil)) (pe_op op_add_str (pe_op op_add_str (pe_op op_add_str pe_str (pe_op op_mulS pe_str pe_int)) pe_str) (pe_op op_mulS pe_str pe_int)) (nomark _)) (pss_one (ps_ret pe_bl)) pss_nil) (pss_one (ps_ret (pe_callB (cr_all rfl) (by rfl) T.b_all (by decide +kernel) (pa_cons (pe_lc (own := [("_law_thing", 12)]) (g := (gName 12)) (tt := tYes) (by rfl) sc_law.nd (pi_list (pe_lst (pa_cons pe_non (pa_cons pe_int (pa_cons (pe_lst (pa_cons pe_str pa_nil)) (pa_cons pe_bl pa_nil)))))) (blkOk_by (own := [("_law_thing", 12)]) (N := ["_law_script", "_law_row_here", "_law_text", "_law_handed", "_law_cell", "_law_at", "_law_sign", "_law_great", "_law_stones", "_law_place", "_law_height", "_law_other", "_law_thing"]) (sc := defScope s_law) (by decide +kernel)) (fun _ _ _ _ _ => (pg_name (i := 12) sc_law.nd rfl (.inl rfl))) (fun _ _ _ _ _ => pts_nil) (fun _ _ _ _ _ => (pe_cal g_law_refused (hr.mono (by decide)) (by rfl) pass0 (pa_cons (pe_glob (v := .ref (fa C 1)) (by rfl) T.v_read rfl) (pa_cons (pv 12) (pa_cons pe_int pa_nil)))))) pa_nil)))))))))))))
end
end FX

namespace FX
open PySem L2 Evl FR
open PySem.Spec PyProof.Rows
theorem law_sp {K : PySem.W.Frag} {H : Hp} {a : Addr} {ns : List Int} {E : XK} (hl : ns.length ≤ 63) (hS : SqL K H a (ns.map V.int)) : FnP K P_law [.ref a] H (fun v _ => v = .bl true) E :=
  ⟨H, [.sq (intL ns)], .bl true, Ex.refl _, .cons (by simp only [Rp]; exact ⟨a, _, rfl, hS, ints_rp ns⟩) .nil, ⟨ns, rfl, hl, rfl⟩, fun v B' H' g r => by simpa only [Rp] using r⟩
theorem all_mk {l : PySem.W.OpenLaw} {w : World} {K : PySem.W.Frag} {h : Heap} {mg : Str → Option Value} {fa : Addr} {CBadRow CBadSide CBadStone CBadText CFallError : Addr} {tF tM : Tok} (X : K.In h) (G : h.Ns mainGlobals mg) (hfa : mg "law" = some (.ref fa))
    (qBadRow : PySem.W.nsIn K mainGlobals "BadRow" = some (some (.ref CBadRow)))
    (qBadSide : PySem.W.nsIn K mainGlobals "BadSide" = some (some (.ref CBadSide)))
    (qBadStone : PySem.W.nsIn K mainGlobals "BadStone" = some (some (.ref CBadStone)))
    (qBadText : PySem.W.nsIn K mainGlobals "BadText" = some (some (.ref CBadText)))
    (qFallError : PySem.W.nsIn K mainGlobals "FallError" = some (some (.ref CFallError)))
    {od0 an0 : Option Addr} {sl0 : Array (Option Value)} {oc0 kV0 dc0 pm0 cd0 ct0 : Value} {f0 : Addr}
    (a0 : PySem.W.nsIn K mainGlobals "is_number" = some (some (.ref f0)))
    (l0 : K.lookup f0 = some ⟨oc0, od0, .func (PySem.W.fnOf "is_number" "is_number" (defArgs s_is_number) (defBody s_is_number) (defScope s_is_number) .none kV0 dc0 pm0 an0 cd0 ct0), sl0⟩) (c0 : PySem.W.codeIn K cd0 "is_number" = true) (k0 : PySem.W.keepIn K (.ref f0) = true)
    {od1 an1 : Option Addr} {sl1 : Array (Option Value)} {oc1 kV1 dc1 pm1 cd1 ct1 : Value} {f1 : Addr}
    (a1 : PySem.W.nsIn K mainGlobals "is_pair" = some (some (.ref f1)))
    (l1 : K.lookup f1 = some ⟨oc1, od1, .func (PySem.W.fnOf "is_pair" "is_pair" (defArgs s_is_pair) (defBody s_is_pair) (defScope s_is_pair) .none kV1 dc1 pm1 an1 cd1 ct1), sl1⟩) (c1 : PySem.W.codeIn K cd1 "is_pair" = true) (k1 : PySem.W.keepIn K (.ref f1) = true)
    {od2 an2 : Option Addr} {sl2 : Array (Option Value)} {oc2 kV2 dc2 pm2 cd2 ct2 : Value} {f2 : Addr}
    (a2 : PySem.W.nsIn K mainGlobals "check_row" = some (some (.ref f2)))
    (l2 : K.lookup f2 = some ⟨oc2, od2, .func (PySem.W.fnOf "check_row" "check_row" (defArgs s_check_row) (defBody s_check_row) (defScope s_check_row) .none kV2 dc2 pm2 an2 cd2 ct2), sl2⟩) (c2 : PySem.W.codeIn K cd2 "check_row" = true) (k2 : PySem.W.keepIn K (.ref f2) = true)
    {od3 an3 : Option Addr} {sl3 : Array (Option Value)} {oc3 kV3 dc3 pm3 cd3 ct3 : Value} {f3 : Addr}
    (a3 : PySem.W.nsIn K mainGlobals "written" = some (some (.ref f3)))
    (l3 : K.lookup f3 = some ⟨oc3, od3, .func (PySem.W.fnOf "written" "written" (defArgs s_written) (defBody s_written) (defScope s_written) .none kV3 dc3 pm3 an3 cd3 ct3), sl3⟩) (c3 : PySem.W.codeIn K cd3 "written" = true) (k3 : PySem.W.keepIn K (.ref f3) = true)
    {od4 an4 : Option Addr} {sl4 : Array (Option Value)} {oc4 kV4 dc4 pm4 cd4 ct4 : Value} {f4 : Addr}
    (a4 : PySem.W.nsIn K mainGlobals "number_in" = some (some (.ref f4)))
    (l4 : K.lookup f4 = some ⟨oc4, od4, .func (PySem.W.fnOf "number_in" "number_in" (defArgs s_number_in) (defBody s_number_in) (defScope s_number_in) .none kV4 dc4 pm4 an4 cd4 ct4), sl4⟩) (c4 : PySem.W.codeIn K cd4 "number_in" = true) (k4 : PySem.W.keepIn K (.ref f4) = true)
    {od5 an5 : Option Addr} {sl5 : Array (Option Value)} {oc5 kV5 dc5 pm5 cd5 ct5 : Value} {f5 : Addr}
    (a5 : PySem.W.nsIn K mainGlobals "read" = some (some (.ref f5)))
    (l5 : K.lookup f5 = some ⟨oc5, od5, .func (PySem.W.fnOf "read" "read" (defArgs s_read) (defBody s_read) (defScope s_read) .none kV5 dc5 pm5 an5 cd5 ct5), sl5⟩) (c5 : PySem.W.codeIn K cd5 "read" = true) (k5 : PySem.W.keepIn K (.ref f5) = true)
    {od6 an6 : Option Addr} {sl6 : Array (Option Value)} {oc6 kV6 dc6 pm6 cd6 ct6 : Value} {f6 : Addr}
    (a6 : PySem.W.nsIn K mainGlobals "_law_row" = some (some (.ref f6)))
    (l6 : K.lookup f6 = some ⟨oc6, od6, .func (PySem.W.fnOf "_law_row" "_law_row" (defArgs s_law_row) (defBody s_law_row) (defScope s_law_row) .none kV6 dc6 pm6 an6 cd6 ct6), sl6⟩) (c6 : PySem.W.codeIn K cd6 "_law_row" = true) (k6 : PySem.W.keepIn K (.ref f6) = true)
    {od7 an7 : Option Addr} {sl7 : Array (Option Value)} {oc7 kV7 dc7 pm7 cd7 ct7 : Value} {f7 : Addr}
    (a7 : PySem.W.nsIn K mainGlobals "_law_number" = some (some (.ref f7)))
    (l7 : K.lookup f7 = some ⟨oc7, od7, .func (PySem.W.fnOf "_law_number" "_law_number" (defArgs s_law_number) (defBody s_law_number) (defScope s_law_number) .none kV7 dc7 pm7 an7 cd7 ct7), sl7⟩) (c7 : PySem.W.codeIn K cd7 "_law_number" = true) (k7 : PySem.W.keepIn K (.ref f7) = true)
    {od8 an8 : Option Addr} {sl8 : Array (Option Value)} {oc8 kV8 dc8 pm8 cd8 ct8 : Value} {f8 : Addr}
    (a8 : PySem.W.nsIn K mainGlobals "_law_in" = some (some (.ref f8)))
    (l8 : K.lookup f8 = some ⟨oc8, od8, .func (PySem.W.fnOf "_law_in" "_law_in" (defArgs s_law_in) (defBody s_law_in) (defScope s_law_in) .none kV8 dc8 pm8 an8 cd8 ct8), sl8⟩) (c8 : PySem.W.codeIn K cd8 "_law_in" = true) (k8 : PySem.W.keepIn K (.ref f8) = true)
    {od9 an9 : Option Addr} {sl9 : Array (Option Value)} {oc9 kV9 dc9 pm9 cd9 ct9 : Value} {f9 : Addr}
    (a9 : PySem.W.nsIn K mainGlobals "_law_refused" = some (some (.ref f9)))
    (l9 : K.lookup f9 = some ⟨oc9, od9, .func (PySem.W.fnOf "_law_refused" "_law_refused" (defArgs s_law_refused) (defBody s_law_refused) (defScope s_law_refused) .none kV9 dc9 pm9 an9 cd9 ct9), sl9⟩) (c9 : PySem.W.codeIn K cd9 "_law_refused" = true) (k9 : PySem.W.keepIn K (.ref f9) = true)
    {od10 an10 : Option Addr} {sl10 : Array (Option Value)} {oc10 kV10 dc10 pm10 cd10 ct10 : Value} {f10 : Addr}
    (a10 : PySem.W.nsIn K mainGlobals "_law_right" = some (some (.ref f10)))
    (l10 : K.lookup f10 = some ⟨oc10, od10, .func (PySem.W.fnOf "_law_right" "_law_right" (defArgs s_law_right) (defBody s_law_right) (defScope s_law_right) .none kV10 dc10 pm10 an10 cd10 ct10), sl10⟩) (c10 : PySem.W.codeIn K cd10 "_law_right" = true) (k10 : PySem.W.keepIn K (.ref f10) = true)
    {od11 an11 : Option Addr} {sl11 : Array (Option Value)} {oc11 kV11 dc11 pm11 cd11 ct11 : Value} {f11 : Addr}
    (a11 : PySem.W.nsIn K mainGlobals "_law_few" = some (some (.ref f11)))
    (l11 : K.lookup f11 = some ⟨oc11, od11, .func (PySem.W.fnOf "_law_few" "_law_few" (defArgs s_law_few) (defBody s_law_few) (defScope s_law_few) .none kV11 dc11 pm11 an11 cd11 ct11), sl11⟩) (c11 : PySem.W.codeIn K cd11 "_law_few" = true) (k11 : PySem.W.keepIn K (.ref f11) = true)
    {od12 an12 : Option Addr} {sl12 : Array (Option Value)} {oc12 kV12 dc12 pm12 cd12 ct12 : Value} {f12 : Addr}
    (a12 : PySem.W.nsIn K mainGlobals "law" = some (some (.ref f12)))
    (l12 : K.lookup f12 = some ⟨oc12, od12, .func (PySem.W.fnOf "law" "law" (defArgs s_law) (defBody s_law) (defScope s_law) .none kV12 dc12 pm12 an12 cd12 ct12), sl12⟩) (c12 : PySem.W.codeIn K cd12 "law" = true) (k12 : PySem.W.keepIn K (.ref f12) = true)
    (x0_BadRow : PySem.W.excIn K CBadRow [.type "ValueError", .type "Exception", .type "BaseException", .type "object"] "ValueError.__new__" = true)
    (x1_BadRow : PySem.W.keepIn K (.ref CBadRow) = true)
    (x2_BadRow : PySem.W.subIn K (.ref CBadRow) (.type "BaseException") = some true)
    (x3_BadRow : PySem.W.typeIn K (.ref CBadRow) = some (.type "type"))
    (x0_BadSide : PySem.W.excIn K CBadSide [.type "ValueError", .type "Exception", .type "BaseException", .type "object"] "ValueError.__new__" = true)
    (x1_BadSide : PySem.W.keepIn K (.ref CBadSide) = true)
    (x2_BadSide : PySem.W.subIn K (.ref CBadSide) (.type "BaseException") = some true)
    (x3_BadSide : PySem.W.typeIn K (.ref CBadSide) = some (.type "type"))
    (x0_BadStone : PySem.W.excIn K CBadStone [.type "ValueError", .type "Exception", .type "BaseException", .type "object"] "ValueError.__new__" = true)
    (x1_BadStone : PySem.W.keepIn K (.ref CBadStone) = true)
    (x2_BadStone : PySem.W.subIn K (.ref CBadStone) (.type "BaseException") = some true)
    (x3_BadStone : PySem.W.typeIn K (.ref CBadStone) = some (.type "type"))
    (x0_BadText : PySem.W.excIn K CBadText [.type "ValueError", .type "Exception", .type "BaseException", .type "object"] "ValueError.__new__" = true)
    (x1_BadText : PySem.W.keepIn K (.ref CBadText) = true)
    (x2_BadText : PySem.W.subIn K (.ref CBadText) (.type "BaseException") = some true)
    (x3_BadText : PySem.W.typeIn K (.ref CBadText) = some (.type "type"))
    (x0_FallError : PySem.W.excIn K CFallError [.type "ValueError", .type "Exception", .type "BaseException", .type "object"] "ValueError.__new__" = true)
    (x1_FallError : PySem.W.keepIn K (.ref CFallError) = true)
    (x2_FallError : PySem.W.subIn K (.ref CFallError) (.type "BaseException") = some true)
    (x3_FallError : PySem.W.typeIn K (.ref CFallError) = some (.type "type"))
    (y0_BadRow : PySem.W.findIn K (.ref CBadRow) "__getattribute__" = some (some (.builtin "BaseException.__getattribute__")))
    (y1_BadRow : PySem.W.findIn K (.ref CBadRow) "__getattr__" = some none)
    (y3_BadRow : PySem.W.hasDictIn K CBadRow = true)
    (y4_BadRow : PySem.W.findIn K (.ref CBadRow) "__class__" = some (some (.builtin "object.__class__")))
    (y7_BadRow : PySem.W.mroIn K CBadRow (.type "object") = some true)
    (y8_BadRow : PySem.W.isClsIn K CBadRow = true)
    (y9_BadRow : PySem.W.subIn K (.ref CBadRow) (.ref CFallError) = some true)
    (yv_BadRow : PySem.W.subIn K (.ref CBadRow) (.type "ValueError") = some true)
    (z_BadRow_BadRow : PySem.W.subIn K (.ref CBadRow) (.ref CBadRow) = some true)
    (z_BadRow_BadStone : PySem.W.subIn K (.ref CBadRow) (.ref CBadStone) = some false)
    (z_BadRow_BadSide : PySem.W.subIn K (.ref CBadRow) (.ref CBadSide) = some false)
    (z_BadRow_BadText : PySem.W.subIn K (.ref CBadRow) (.ref CBadText) = some false)
    (y0_BadStone : PySem.W.findIn K (.ref CBadStone) "__getattribute__" = some (some (.builtin "BaseException.__getattribute__")))
    (y1_BadStone : PySem.W.findIn K (.ref CBadStone) "__getattr__" = some none)
    (y3_BadStone : PySem.W.hasDictIn K CBadStone = true)
    (y4_BadStone : PySem.W.findIn K (.ref CBadStone) "__class__" = some (some (.builtin "object.__class__")))
    (y7_BadStone : PySem.W.mroIn K CBadStone (.type "object") = some true)
    (y8_BadStone : PySem.W.isClsIn K CBadStone = true)
    (y9_BadStone : PySem.W.subIn K (.ref CBadStone) (.ref CFallError) = some true)
    (yv_BadStone : PySem.W.subIn K (.ref CBadStone) (.type "ValueError") = some true)
    (z_BadStone_BadRow : PySem.W.subIn K (.ref CBadStone) (.ref CBadRow) = some false)
    (z_BadStone_BadStone : PySem.W.subIn K (.ref CBadStone) (.ref CBadStone) = some true)
    (z_BadStone_BadSide : PySem.W.subIn K (.ref CBadStone) (.ref CBadSide) = some false)
    (z_BadStone_BadText : PySem.W.subIn K (.ref CBadStone) (.ref CBadText) = some false)
    (y0_BadSide : PySem.W.findIn K (.ref CBadSide) "__getattribute__" = some (some (.builtin "BaseException.__getattribute__")))
    (y1_BadSide : PySem.W.findIn K (.ref CBadSide) "__getattr__" = some none)
    (y3_BadSide : PySem.W.hasDictIn K CBadSide = true)
    (y4_BadSide : PySem.W.findIn K (.ref CBadSide) "__class__" = some (some (.builtin "object.__class__")))
    (y7_BadSide : PySem.W.mroIn K CBadSide (.type "object") = some true)
    (y8_BadSide : PySem.W.isClsIn K CBadSide = true)
    (y9_BadSide : PySem.W.subIn K (.ref CBadSide) (.ref CFallError) = some true)
    (yv_BadSide : PySem.W.subIn K (.ref CBadSide) (.type "ValueError") = some true)
    (z_BadSide_BadRow : PySem.W.subIn K (.ref CBadSide) (.ref CBadRow) = some false)
    (z_BadSide_BadStone : PySem.W.subIn K (.ref CBadSide) (.ref CBadStone) = some false)
    (z_BadSide_BadSide : PySem.W.subIn K (.ref CBadSide) (.ref CBadSide) = some true)
    (z_BadSide_BadText : PySem.W.subIn K (.ref CBadSide) (.ref CBadText) = some false)
    (y0_BadText : PySem.W.findIn K (.ref CBadText) "__getattribute__" = some (some (.builtin "BaseException.__getattribute__")))
    (y1_BadText : PySem.W.findIn K (.ref CBadText) "__getattr__" = some none)
    (y3_BadText : PySem.W.hasDictIn K CBadText = true)
    (y4_BadText : PySem.W.findIn K (.ref CBadText) "__class__" = some (some (.builtin "object.__class__")))
    (y7_BadText : PySem.W.mroIn K CBadText (.type "object") = some true)
    (y8_BadText : PySem.W.isClsIn K CBadText = true)
    (y9_BadText : PySem.W.subIn K (.ref CBadText) (.ref CFallError) = some true)
    (yv_BadText : PySem.W.subIn K (.ref CBadText) (.type "ValueError") = some true)
    (z_BadText_BadRow : PySem.W.subIn K (.ref CBadText) (.ref CBadRow) = some false)
    (z_BadText_BadStone : PySem.W.subIn K (.ref CBadText) (.ref CBadStone) = some false)
    (z_BadText_BadSide : PySem.W.subIn K (.ref CBadText) (.ref CBadSide) = some false)
    (z_BadText_BadText : PySem.W.subIn K (.ref CBadText) (.ref CBadText) = some true)
    (y5 : PySem.W.specialIn K (.builtin "object.__class__") "__get__" = some (some (.builtin "getset_descriptor.__get__")))
    (y6 : PySem.W.takesIn K (.builtin "object.__class__") = some true)
    (yd : PySem.W.hasDictIn K CFallError = true)
    (z_abs : PySem.W.nsIn K mainGlobals "abs" = some none)
    (z_all : PySem.W.nsIn K mainGlobals "all" = some none)
    (z_any : PySem.W.nsIn K mainGlobals "any" = some none)
    (z_bool : PySem.W.nsIn K mainGlobals "bool" = some none)
    (z_int : PySem.W.nsIn K mainGlobals "int" = some none)
    (z_isinstance : PySem.W.nsIn K mainGlobals "isinstance" = some none)
    (z_len : PySem.W.nsIn K mainGlobals "len" = some none)
    (z_list : PySem.W.nsIn K mainGlobals "list" = some none)
    (z_max : PySem.W.nsIn K mainGlobals "max" = some none)
    (z_range : PySem.W.nsIn K mainGlobals "range" = some none)
    (z_str : PySem.W.nsIn K mainGlobals "str" = some none)
    (z_sum : PySem.W.nsIn K mainGlobals "sum" = some none)
    (z_tuple : PySem.W.nsIn K mainGlobals "tuple" = some none)
    (qFIGURES : PySem.W.nsIn K mainGlobals "FIGURES" = some (some (.str "0123456789" tF)))
    (qMOST : PySem.W.nsIn K mainGlobals "MOST" = some (some (.int 60 tM))) :
    ∃ fd : FuncData, (∀ (s : Shared) (v : Value), BindsTo s fd ⟨[v], []⟩ [("_law_script", v)]) ∧ ∀ base : Heap, K.In base → base.Ns mainGlobals mg → FnOk l.prog w K mg base CX0 8 fa fd ["_law_script"] (FnP K P_law) := by
  have e := hfa.symm.trans (PySem.W.mg_of X G a12)
  cases e
  let C : CS := { w := w, Answer := 0, Chain := 0, Stands := 0, Fewest := 0, Rights := 0, Higher := 0, BadRow := CBadRow, BadSide := CBadSide, BadStone := CBadStone, BadText := CBadText, FallError := CFallError, fn := [f3, f5] }
  have EBadRow : ExcCls K mg "BadRow" CBadRow := ⟨x0_BadRow, PySem.W.mg_of X G qBadRow, x1_BadRow, x2_BadRow, x3_BadRow⟩
  have EBadSide : ExcCls K mg "BadSide" CBadSide := ⟨x0_BadSide, PySem.W.mg_of X G qBadSide, x1_BadSide, x2_BadSide, x3_BadSide⟩
  have EBadStone : ExcCls K mg "BadStone" CBadStone := ⟨x0_BadStone, PySem.W.mg_of X G qBadStone, x1_BadStone, x2_BadStone, x3_BadStone⟩
  have EBadText : ExcCls K mg "BadText" CBadText := ⟨x0_BadText, PySem.W.mg_of X G qBadText, x1_BadText, x2_BadText, x3_BadText⟩
  have EFallError : ExcCls K mg "FallError" CFallError := ⟨x0_FallError, PySem.W.mg_of X G qFallError, x1_FallError, x2_FallError, x3_FallError⟩
  have XF_BadRow : ExcF K C CBadRow true false false false := ⟨⟨y0_BadRow, y1_BadRow, x2_BadRow, y3_BadRow, y4_BadRow, y5, y6, y7_BadRow⟩, PySem.W.exm_ref x2_FallError yd x3_FallError y9_BadRow, kit_x y8_BadRow x3_BadRow z_BadRow_BadRow z_BadRow_BadRow, kit_x y8_BadStone x3_BadStone z_BadRow_BadStone z_BadRow_BadRow, kit_x y8_BadSide x3_BadSide z_BadRow_BadSide z_BadRow_BadRow, kit_x y8_BadText x3_BadText z_BadRow_BadText z_BadRow_BadRow, kit_v yv_BadRow⟩
  have XF_BadStone : ExcF K C CBadStone false true false false := ⟨⟨y0_BadStone, y1_BadStone, x2_BadStone, y3_BadStone, y4_BadStone, y5, y6, y7_BadStone⟩, PySem.W.exm_ref x2_FallError yd x3_FallError y9_BadStone, kit_x y8_BadRow x3_BadRow z_BadStone_BadRow z_BadStone_BadStone, kit_x y8_BadStone x3_BadStone z_BadStone_BadStone z_BadStone_BadStone, kit_x y8_BadSide x3_BadSide z_BadStone_BadSide z_BadStone_BadStone, kit_x y8_BadText x3_BadText z_BadStone_BadText z_BadStone_BadStone, kit_v yv_BadStone⟩
  have XF_BadSide : ExcF K C CBadSide false false true false := ⟨⟨y0_BadSide, y1_BadSide, x2_BadSide, y3_BadSide, y4_BadSide, y5, y6, y7_BadSide⟩, PySem.W.exm_ref x2_FallError yd x3_FallError y9_BadSide, kit_x y8_BadRow x3_BadRow z_BadSide_BadRow z_BadSide_BadSide, kit_x y8_BadStone x3_BadStone z_BadSide_BadStone z_BadSide_BadSide, kit_x y8_BadSide x3_BadSide z_BadSide_BadSide z_BadSide_BadSide, kit_x y8_BadText x3_BadText z_BadSide_BadText z_BadSide_BadSide, kit_v yv_BadSide⟩
  have XF_BadText : ExcF K C CBadText false false false true := ⟨⟨y0_BadText, y1_BadText, x2_BadText, y3_BadText, y4_BadText, y5, y6, y7_BadText⟩, PySem.W.exm_ref x2_FallError yd x3_FallError y9_BadText, kit_x y8_BadRow x3_BadRow z_BadText_BadRow z_BadText_BadText, kit_x y8_BadStone x3_BadStone z_BadText_BadStone z_BadText_BadText, kit_x y8_BadSide x3_BadSide z_BadText_BadSide z_BadText_BadText, kit_x y8_BadText x3_BadText z_BadText_BadText z_BadText_BadText, kit_v yv_BadText⟩
  have T : Txt w K mg C := ⟨rfl, PySem.W.mg_none_of X G z_abs, PySem.W.mg_none_of X G z_all, PySem.W.mg_none_of X G z_any, PySem.W.mg_none_of X G z_bool, PySem.W.mg_none_of X G z_int, PySem.W.mg_none_of X G z_isinstance, PySem.W.mg_none_of X G z_len, PySem.W.mg_none_of X G z_list, PySem.W.mg_none_of X G z_max, PySem.W.mg_none_of X G z_range, PySem.W.mg_none_of X G z_str, PySem.W.mg_none_of X G z_sum, PySem.W.mg_none_of X G z_tuple, ⟨_, PySem.W.mg_of X G qFIGURES⟩, ⟨_, PySem.W.mg_of X G qMOST⟩, EBadRow, EBadSide, EBadStone, EBadText, EFallError, PySem.W.mg_of X G a5, PySem.W.mg_of X G a3, ⟨XF_BadRow, XF_BadStone, XF_BadSide, XF_BadText, PySem.W.exm_ref x2_BadRow y3_BadRow x3_BadRow z_BadRow_BadRow⟩⟩
  have F0 := fun_mk (st := s_is_number) l0 c0 k0
  have b0 := F0.binds (ps := ["thing"]) fun _ _ _ _ _ _ us hl => match us, hl with | [_], _ => rfl
  have F1 := fun_mk (st := s_is_pair) l1 c1 k1
  have b1 := F1.binds (ps := ["thing"]) fun _ _ _ _ _ _ us hl => match us, hl with | [_], _ => rfl
  have F2 := fun_mk (st := s_check_row) l2 c2 k2
  have b2 := F2.binds (ps := ["row"]) fun _ _ _ _ _ _ us hl => match us, hl with | [_], _ => rfl
  have F3 := fun_mk (st := s_written) l3 c3 k3
  have b3 := F3.binds (ps := ["row"]) fun _ _ _ _ _ _ us hl => match us, hl with | [_], _ => rfl
  have F4 := fun_mk (st := s_number_in) l4 c4 k4
  have b4 := F4.binds (ps := ["word"]) fun _ _ _ _ _ _ us hl => match us, hl with | [_], _ => rfl
  have F5 := fun_mk (st := s_read) l5 c5 k5
  have b5 := F5.binds (ps := ["text"]) fun _ _ _ _ _ _ us hl => match us, hl with | [_], _ => rfl
  have F6 := fun_mk (st := s_law_row) l6 c6 k6
  have b6 := F6.binds (ps := ["_law_script"]) fun _ _ _ _ _ _ us hl => match us, hl with | [_], _ => rfl
  have F7 := fun_mk (st := s_law_number) l7 c7 k7
  have b7 := F7.binds (ps := ["_law_word"]) fun _ _ _ _ _ _ us hl => match us, hl with | [_], _ => rfl
  have F8 := fun_mk (st := s_law_in) l8 c8 k8
  have b8 := F8.binds (ps := ["_law_text"]) fun _ _ _ _ _ _ us hl => match us, hl with | [_], _ => rfl
  have F9 := fun_mk (st := s_law_refused) l9 c9 k9
  have b9 := F9.binds (ps := ["_law_ask", "_law_thing", "_law_due"]) fun _ _ _ _ _ _ us hl => match us, hl with | [_, _, _], _ => rfl
  have F10 := fun_mk (st := s_law_right) l10 c10 k10
  have b10 := F10.binds (ps := ["_law_text"]) fun _ _ _ _ _ _ us hl => match us, hl with | [_], _ => rfl
  have F11 := fun_mk (st := s_law_few) l11 c11 k11
  have b11 := F11.binds (ps := []) fun _ _ _ _ _ _ us hl => match us, hl with | [], _ => rfl
  have F12 := fun_mk (st := s_law) l12 c12 k12
  have b12 := F12.binds (ps := ["_law_script"]) fun _ _ _ _ _ _ us hl => match us, hl with | [_], _ => rfl
  refine ⟨PySem.W.fnOf "law" "law" (defArgs s_law) (defBody s_law) (defScope s_law) .none kV12 dc12 pm12 an12 cd12 ct12, fun s v => .of_eq rfl, fun base _ _ => ?_⟩
  have o_is_number : FnOk l.prog w K mg base (L2N.CX l.prog w) 1 f0 _ ["thing"] (sp_is_number K C) := ok_is_number F0 T
  have g_is_number : Cal l.prog w K mg base (L2N.CX l.prog w) 1 "is_number" ["thing"] (sp_is_number K C) := ⟨_, _, o_is_number, PySem.W.mg_of X G a0, k0, b0⟩
  have o_is_pair : FnOk l.prog w K mg base (L2N.CX l.prog w) 2 f1 _ ["thing"] (sp_is_pair K C) := ok_is_pair F1 T g_is_number
  have g_is_pair : Cal l.prog w K mg base (L2N.CX l.prog w) 2 "is_pair" ["thing"] (sp_is_pair K C) := ⟨_, _, o_is_pair, PySem.W.mg_of X G a1, k1, b1⟩
  have o_check_row : FnOk l.prog w K mg base (L2N.CX l.prog w) 3 f2 _ ["row"] (sp_check_row K C) := ok_check_row F2 T g_is_pair
  have g_check_row : Cal l.prog w K mg base (L2N.CX l.prog w) 3 "check_row" ["row"] (sp_check_row K C) := ⟨_, _, o_check_row, PySem.W.mg_of X G a2, k2, b2⟩
  have o_written : FnOk l.prog w K mg base (L2.CX l.prog w) 4 f3 _ ["row"] (sp_written K C) := ok_written F3 T g_check_row
  have g_written : Cal l.prog w K mg base (L2.CX l.prog w) 4 "written" ["row"] (sp_written K C) := ⟨_, _, o_written, PySem.W.mg_of X G a3, k3, b3⟩
  have o_number_in : FnOk l.prog w K mg base (L2.CX l.prog w) 1 f4 _ ["word"] (sp_number_in K C) := ok_number_in F4 T
  have g_number_in : Cal l.prog w K mg base (L2.CX l.prog w) 1 "number_in" ["word"] (sp_number_in K C) := ⟨_, _, o_number_in, PySem.W.mg_of X G a4, k4, b4⟩
  have o_read : FnOk l.prog w K mg base (L2.CX l.prog w) 4 f5 _ ["text"] (sp_read K C) := ok_read F5 T g_number_in g_check_row
  have g_read : Cal l.prog w K mg base (L2.CX l.prog w) 4 "read" ["text"] (sp_read K C) := ⟨_, _, o_read, PySem.W.mg_of X G a5, k5, b5⟩
  have o_law_row : FnOk l.prog w K mg base CX0 1 f6 _ ["_law_script"] (sp_law_row K C) := ok_law_row F6 T
  have g_law_row : Cal l.prog w K mg base CX0 1 "_law_row" ["_law_script"] (sp_law_row K C) := ⟨_, _, o_law_row, PySem.W.mg_of X G a6, k6, b6⟩
  have o_law_number : FnOk l.prog w K mg base CX0 1 f7 _ ["_law_word"] (sp_law_number K C) := ok_law_number F7 T
  have g_law_number : Cal l.prog w K mg base CX0 1 "_law_number" ["_law_word"] (sp_law_number K C) := ⟨_, _, o_law_number, PySem.W.mg_of X G a7, k7, b7⟩
  have o_law_in : FnOk l.prog w K mg base CX0 2 f8 _ ["_law_text"] (sp_law_in K C) := ok_law_in F8 T g_law_number
  have g_law_in : Cal l.prog w K mg base CX0 2 "_law_in" ["_law_text"] (sp_law_in K C) := ⟨_, _, o_law_in, PySem.W.mg_of X G a8, k8, b8⟩
  have h_S_ask : ∀ f sp, S_ask K C f sp → HeldS l.prog w K mg base (L2.CX l.prog w) 5 f sp := by
    intro f sp hS
    rcases hS with ⟨rfl, rfl⟩ | ⟨rfl, rfl⟩
    · exact ⟨_, _, FnOk.mono o_written (by decide), k3, b3⟩
    · exact ⟨_, _, FnOk.mono o_read (by decide), k5, b5⟩
  have o_law_refused : FnOk l.prog w K mg base CX0 6 f9 _ ["_law_ask", "_law_thing", "_law_due"] (sp_law_refused K C) := ok_law_refused F9 T h_S_ask
  have g_law_refused : Cal l.prog w K mg base CX0 6 "_law_refused" ["_law_ask", "_law_thing", "_law_due"] (sp_law_refused K C) := ⟨_, _, o_law_refused, PySem.W.mg_of X G a9, k9, b9⟩
  have o_law_right : FnOk l.prog w K mg base CX0 7 f10 _ ["_law_text"] (sp_law_right K C) := ok_law_right F10 T g_law_in g_law_refused g_read g_written
  have g_law_right : Cal l.prog w K mg base CX0 7 "_law_right" ["_law_text"] (sp_law_right K C) := ⟨_, _, o_law_right, PySem.W.mg_of X G a10, k10, b10⟩
  have o_law_few : FnOk l.prog w K mg base CX0 1 f11 _ [] (sp_law_few K C) := ok_law_few F11 T
  have g_law_few : Cal l.prog w K mg base CX0 1 "_law_few" [] (sp_law_few K C) := ⟨_, _, o_law_few, PySem.W.mg_of X G a11, k11, b11⟩
  exact ok_law F12 T g_law_row g_written g_law_right g_law_few g_law_refused
end FX
open PySem PySem.W PyProof.Rows
set_option maxHeartbeats 0 in
theorem PySem.Challenge.cw_fallrow_k07_texts_holds : PySem.Challenge.rw_fallrow_k07_texts.Holds := by
  w_on; o_law; k_head; (case hw => w_witness2)
  k_fill
  refine L2.walk_of (l := PySem.Challenge.rw_fallrow_k07_texts) (n := 63) (k := 8) (x := "_law_script") (CX := fun _ => L2.CX0) (sp := fun w => FR.FnP _ FX.P_law) rfl (by decide) rfl ⟨rfl, by decide, by decide⟩ (fun w h Y => PySem.W.kIn_of Y) ?F (fun _ _ a ns hl _ hS => FX.law_sp hl hS) (fun _ _ _ _ _ h => h)
  case F =>
    intro w mg fa h KX G hmg
    refine' FX.all_mk KX G hmg ?qBadRow ?qBadSide ?qBadStone ?qBadText ?qFallError ?a0 ?l0 ?c0 ?k0 ?a1 ?l1 ?c1 ?k1 ?a2 ?l2 ?c2 ?k2 ?a3 ?l3 ?c3 ?k3 ?a4 ?l4 ?c4 ?k4 ?a5 ?l5 ?c5 ?k5 ?a6 ?l6 ?c6 ?k6 ?a7 ?l7 ?c7 ?k7 ?a8 ?l8 ?c8 ?k8 ?a9 ?l9 ?c9 ?k9 ?a10 ?l10 ?c10 ?k10 ?a11 ?l11 ?c11 ?k11 ?a12 ?l12 ?c12 ?k12 ?x0_BadRow ?x1_BadRow ?x2_BadRow ?x3_BadRow ?x0_BadSide ?x1_BadSide ?x2_BadSide ?x3_BadSide ?x0_BadStone ?x1_BadStone ?x2_BadStone ?x3_BadStone ?x0_BadText ?x1_BadText ?x2_BadText ?x3_BadText ?x0_FallError ?x1_FallError ?x2_FallError ?x3_FallError ?y0_BadRow ?y1_BadRow ?y3_BadRow ?y4_BadRow ?y7_BadRow ?y8_BadRow ?y9_BadRow ?yv_BadRow ?z_BadRow_BadRow ?z_BadRow_BadStone ?z_BadRow_BadSide ?z_BadRow_BadText ?y0_BadStone ?y1_BadStone ?y3_BadStone ?y4_BadStone ?y7_BadStone ?y8_BadStone ?y9_BadStone ?yv_BadStone ?z_BadStone_BadRow ?z_BadStone_BadStone ?z_BadStone_BadSide ?z_BadStone_BadText ?y0_BadSide ?y1_BadSide ?y3_BadSide ?y4_BadSide ?y7_BadSide ?y8_BadSide ?y9_BadSide ?yv_BadSide ?z_BadSide_BadRow ?z_BadSide_BadStone ?z_BadSide_BadSide ?z_BadSide_BadText ?y0_BadText ?y1_BadText ?y3_BadText ?y4_BadText ?y7_BadText ?y8_BadText ?y9_BadText ?yv_BadText ?z_BadText_BadRow ?z_BadText_BadStone ?z_BadText_BadSide ?z_BadText_BadText ?y5 ?y6 ?yd ?z_abs ?z_all ?z_any ?z_bool ?z_int ?z_isinstance ?z_len ?z_list ?z_max ?z_range ?z_str ?z_sum ?z_tuple ?qFIGURES ?qMOST
    (case qBadRow => k_is)
    (case qBadSide => k_is)
    (case qBadStone => k_is)
    (case qBadText => k_is)
    (case qFallError => k_is)
    (case a0 => k_is)
    (case l0 => k_is)
    (case c0 => k_is)
    (case k0 => k_is)
    (case a1 => k_is)
    (case l1 => k_is)
    (case c1 => k_is)
    (case k1 => k_is)
    (case a2 => k_is)
    (case l2 => k_is)
    (case c2 => k_is)
    (case k2 => k_is)
    (case a3 => k_is)
    (case l3 => k_is)
    (case c3 => k_is)
    (case k3 => k_is)
    (case a4 => k_is)
    (case l4 => k_is)
    (case c4 => k_is)
    (case k4 => k_is)
    (case a5 => k_is)
    (case l5 => k_is)
    (case c5 => k_is)
    (case k5 => k_is)
    (case a6 => k_is)
    (case l6 => k_is)
    (case c6 => k_is)
    (case k6 => k_is)
    (case a7 => k_is)
    (case l7 => k_is)
    (case c7 => k_is)
    (case k7 => k_is)
    (case a8 => k_is)
    (case l8 => k_is)
    (case c8 => k_is)
    (case k8 => k_is)
    (case a9 => k_is)
    (case l9 => k_is)
    (case c9 => k_is)
    (case k9 => k_is)
    (case a10 => k_is)
    (case l10 => k_is)
    (case c10 => k_is)
    (case k10 => k_is)
    (case a11 => k_is)
    (case l11 => k_is)
    (case c11 => k_is)
    (case k11 => k_is)
    (case a12 => k_is)
    (case l12 => k_is)
    (case c12 => k_is)
    (case k12 => k_is)
    (case x0_BadRow => k_exc)
    (case x1_BadRow => k_is)
    (case x2_BadRow => k_is)
    (case x3_BadRow => k_is)
    (case x0_BadSide => k_exc)
    (case x1_BadSide => k_is)
    (case x2_BadSide => k_is)
    (case x3_BadSide => k_is)
    (case x0_BadStone => k_exc)
    (case x1_BadStone => k_is)
    (case x2_BadStone => k_is)
    (case x3_BadStone => k_is)
    (case x0_BadText => k_exc)
    (case x1_BadText => k_is)
    (case x2_BadText => k_is)
    (case x3_BadText => k_is)
    (case x0_FallError => k_exc)
    (case x1_FallError => k_is)
    (case x2_FallError => k_is)
    (case x3_FallError => k_is)
    (case y0_BadRow => k_is)
    (case y1_BadRow => k_is)
    (case y3_BadRow => k_is)
    (case y4_BadRow => k_is)
    (case y7_BadRow => k_is)
    (case y8_BadRow => k_is)
    (case y9_BadRow => k_is)
    (case yv_BadRow => k_is)
    (case z_BadRow_BadRow => first | k_is | rfl)
    (case z_BadRow_BadStone => first | k_is | rfl)
    (case z_BadRow_BadSide => first | k_is | rfl)
    (case z_BadRow_BadText => first | k_is | rfl)
    (case y0_BadStone => k_is)
    (case y1_BadStone => k_is)
    (case y3_BadStone => k_is)
    (case y4_BadStone => k_is)
    (case y7_BadStone => k_is)
    (case y8_BadStone => k_is)
    (case y9_BadStone => k_is)
    (case yv_BadStone => k_is)
    (case z_BadStone_BadRow => first | k_is | rfl)
    (case z_BadStone_BadStone => first | k_is | rfl)
    (case z_BadStone_BadSide => first | k_is | rfl)
    (case z_BadStone_BadText => first | k_is | rfl)
    (case y0_BadSide => k_is)
    (case y1_BadSide => k_is)
    (case y3_BadSide => k_is)
    (case y4_BadSide => k_is)
    (case y7_BadSide => k_is)
    (case y8_BadSide => k_is)
    (case y9_BadSide => k_is)
    (case yv_BadSide => k_is)
    (case z_BadSide_BadRow => first | k_is | rfl)
    (case z_BadSide_BadStone => first | k_is | rfl)
    (case z_BadSide_BadSide => first | k_is | rfl)
    (case z_BadSide_BadText => first | k_is | rfl)
    (case y0_BadText => k_is)
    (case y1_BadText => k_is)
    (case y3_BadText => k_is)
    (case y4_BadText => k_is)
    (case y7_BadText => k_is)
    (case y8_BadText => k_is)
    (case y9_BadText => k_is)
    (case yv_BadText => k_is)
    (case z_BadText_BadRow => first | k_is | rfl)
    (case z_BadText_BadStone => first | k_is | rfl)
    (case z_BadText_BadSide => first | k_is | rfl)
    (case z_BadText_BadText => first | k_is | rfl)
    (case y5 => k_is)
    (case y6 => k_is)
    (case yd => k_is)
    (case z_abs => k_is)
    (case z_all => k_is)
    (case z_any => k_is)
    (case z_bool => k_is)
    (case z_int => k_is)
    (case z_isinstance => k_is)
    (case z_len => k_is)
    (case z_list => k_is)
    (case z_max => k_is)
    (case z_range => k_is)
    (case z_str => k_is)
    (case z_sum => k_is)
    (case z_tuple => k_is)
    (case qFIGURES => k_is)
    (case qMOST => k_is)

