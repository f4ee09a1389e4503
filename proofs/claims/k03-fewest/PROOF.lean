import PyProof.Rows.All
import Wide.All
import OpenK.AllK
import Wide.FinOn
import HandS.ForMost
import HandS.Evl
import HandS.Steps
import HandS.Style
import HandS.IsInst
import HandS.Strs
import HandS.SortInts
import HandS.Conv
import HandS.Wide
import HandS.Walk
import HandS.SetFor
import HandS.Zip
import KE.DatumOrd
import PySem.Challenge.RW_fallrow_k03_whole_fewest
set_option Elab.async false
set_option linter.all false
set_option maxRecDepth 100000
set_option maxHeartbeats 8000000
/-! Values as data: what a slot holds is told as a tree of data, the heap stays behind. -/
namespace FR
open PySem L2 Evl

/-! ### data -/
inductive Da where
  | non | bl (b : Bool) | int (i : Int) | str (s : Str) | ty (n : String) | cls (C : Addr)
  | lst (ds : List Da) | sq (ds : List Da) | tup (ds : List Da) | obj (C : Addr) (ns : List Str) (ds : List Da)

mutual
def Rp (K : PySem.W.Frag) (B : Hp) : Da → V → Prop
  | .non, v => v = .non
  | .bl b, v => v = .bl b
  | .int i, v => v = .int i
  | .str s, v => v = .str s
  | .ty n, v => v = .ty n
  | .cls C, v => v = .ref C
  | .lst ds, v => ∃ a xs, v = .ref a ∧ B a = some (.lst xs) ∧ RpAll K B ds xs
  | .sq ds, v => ∃ a xs, v = .ref a ∧ SqL K B a xs ∧ RpAll K B ds xs
  | .tup ds, v => ∃ a xs, v = .ref a ∧ B a = some (.tup xs) ∧ RpAll K B ds xs
  | .obj C ns ds, v => ∃ a dx xs, v = .ref a ∧ B a = some (.ins C dx (ns.zip xs)) ∧ xs.length = ns.length ∧ RpAll K B ds xs
def RpAll (K : PySem.W.Frag) (B : Hp) : List Da → List V → Prop
  | [], vs => vs = []
  | d :: ds, vs => ∃ v r, vs = v :: r ∧ Rp K B d v ∧ RpAll K B ds r
end
section
variable {K : PySem.W.Frag} {B B' H H' H1 H2 : Hp}
mutual
theorem Rp.mono (e : Ex B B') : ∀ (d : Da) (v : V), Rp K B d v → Rp K B' d v
  | .non, v, h => by simpa only [Rp] using h
  | .bl b, v, h => by simpa only [Rp] using h
  | .int i, v, h => by simpa only [Rp] using h
  | .str s, v, h => by simpa only [Rp] using h
  | .ty n, v, h => by simpa only [Rp] using h
  | .cls C, v, h => by simpa only [Rp] using h
  | .lst ds, v, h => by
    simp only [Rp] at h ⊢
    obtain ⟨a, xs, h1, h2, h3⟩ := h
    exact ⟨a, xs, h1, e _ _ h2, RpAll.mono e ds xs h3⟩
  | .sq ds, v, h => by
    simp only [Rp] at h ⊢
    obtain ⟨a, xs, h1, h2, h3⟩ := h
    exact ⟨a, xs, h1, ex_l e h2, RpAll.mono e ds xs h3⟩
  | .tup ds, v, h => by
    simp only [Rp] at h ⊢
    obtain ⟨a, xs, h1, h2, h3⟩ := h
    exact ⟨a, xs, h1, e _ _ h2, RpAll.mono e ds xs h3⟩
  | .obj C ns ds, v, h => by
    simp only [Rp] at h ⊢
    obtain ⟨a, dx, xs, h1, h2, h3, h4⟩ := h
    exact ⟨a, dx, xs, h1, e _ _ h2, h3, RpAll.mono e ds xs h4⟩
theorem RpAll.mono (e : Ex B B') : ∀ (ds : List Da) (vs : List V), RpAll K B ds vs → RpAll K B' ds vs
  | [], vs, h => by simpa only [RpAll] using h
  | d :: ds, vs, h => by
    simp only [RpAll] at h ⊢
    obtain ⟨v, r, h1, h2, h3⟩ := h
    exact ⟨v, r, h1, Rp.mono e d v h2, RpAll.mono e ds r h3⟩
end
theorem RpAll.nil : RpAll K B [] [] := by simp only [RpAll]
theorem RpAll.cons {d : Da} {v : V} {ds : List Da} {vs : List V} (h : Rp K B d v) (t : RpAll K B ds vs) : RpAll K B (d :: ds) (v :: vs) := by
  simp only [RpAll]
  exact ⟨v, vs, rfl, h, t⟩
theorem RpAll.uncons {d : Da} {ds : List Da} {vs : List V} (h : RpAll K B (d :: ds) vs) : ∃ v r, vs = v :: r ∧ Rp K B d v ∧ RpAll K B ds r := by
  simpa only [RpAll] using h
theorem RpAll.len : ∀ {ds : List Da} {vs : List V}, RpAll K B ds vs → vs.length = ds.length
  | [], vs, h => by
    have e : vs = [] := by simpa only [RpAll] using h
    rw [e]
    rfl
  | d :: ds, vs, h => by
    obtain ⟨v, r, rfl, _, h3⟩ := h.uncons
    rw [List.length_cons, List.length_cons, h3.len]
theorem RpAll.get : ∀ {ds : List Da} {vs : List V} {i : Nat} {d : Da}, RpAll K B ds vs → ds[i]? = some d → ∃ v, vs[i]? = some v ∧ Rp K B d v
  | [], vs, i, d, h, e => by simp at e
  | x :: ds, vs, 0, d, h, e => by
    obtain ⟨v, r, rfl, h2, h3⟩ := h.uncons
    simp only [List.getElem?_cons_zero, Option.some.injEq] at e
    subst e
    exact ⟨v, rfl, h2⟩
  | x :: ds, vs, i + 1, d, h, e => by
    obtain ⟨v, r, rfl, h2, h3⟩ := h.uncons
    simp only [List.getElem?_cons_succ] at e ⊢
    exact h3.get e
theorem RpAll.getV : ∀ {ds : List Da} {vs : List V} {i : Nat} {v : V}, RpAll K B ds vs → vs[i]? = some v → ∃ d, ds[i]? = some d ∧ Rp K B d v
  | [], vs, i, v, h, e => by
    have q : vs = [] := by simpa only [RpAll] using h
    subst q
    simp at e
  | x :: ds, vs, 0, v, h, e => by
    obtain ⟨w, r, rfl, h2, h3⟩ := h.uncons
    simp only [List.getElem?_cons_zero, Option.some.injEq] at e
    subst e
    exact ⟨x, rfl, h2⟩
  | x :: ds, vs, i + 1, v, h, e => by
    obtain ⟨w, r, rfl, h2, h3⟩ := h.uncons
    simp only [List.getElem?_cons_succ] at e ⊢
    exact h3.getV e
theorem RpAll.app : ∀ {ds es : List Da} {vs us : List V}, RpAll K B ds vs → RpAll K B es us → RpAll K B (ds ++ es) (vs ++ us)
  | [], es, vs, us, h, t => by
    have q : vs = [] := by simpa only [RpAll] using h
    subst q
    exact t
  | x :: ds, es, vs, us, h, t => by
    obtain ⟨w, r, rfl, h2, h3⟩ := h.uncons
    exact RpAll.cons h2 (h3.app t)
theorem RpAll.drop : ∀ {ds : List Da} {vs : List V} (n : Nat), RpAll K B ds vs → RpAll K B (ds.drop n) (vs.drop n)
  | ds, vs, 0, h => h
  | [], vs, n + 1, h => by
    have q : vs = [] := by simpa only [RpAll] using h
    subst q
    exact h
  | x :: ds, vs, n + 1, h => by
    obtain ⟨w, r, rfl, h2, h3⟩ := h.uncons
    exact h3.drop n
theorem RpAll.take : ∀ {ds : List Da} {vs : List V} (n : Nat), RpAll K B ds vs → RpAll K B (ds.take n) (vs.take n)
  | ds, vs, 0, h => by
    rw [List.take_zero, List.take_zero]
    exact .nil
  | [], vs, n + 1, h => by
    have q : vs = [] := by simpa only [RpAll] using h
    subst q
    exact h
  | x :: ds, vs, n + 1, h => by
    obtain ⟨w, r, rfl, h2, h3⟩ := h.uncons
    exact .cons h2 (h3.take n)
theorem RpAll.rev : ∀ {ds : List Da} {vs : List V}, RpAll K B ds vs → RpAll K B ds.reverse vs.reverse
  | [], vs, h => by
    have q : vs = [] := by simpa only [RpAll] using h
    subst q
    exact h
  | x :: ds, vs, h => by
    obtain ⟨w, r, rfl, h2, h3⟩ := h.uncons
    rw [List.reverse_cons, List.reverse_cons]
    exact h3.rev.app (.cons h2 .nil)
theorem RpAll.set : ∀ {ds : List Da} {vs : List V} {d : Da} {v : V} (i : Nat), RpAll K B ds vs → Rp K B d v → RpAll K B (ds.set i d) (vs.set i v)
  | [], vs, d, v, i, h, g => by
    have q : vs = [] := by simpa only [RpAll] using h
    subst q
    exact h
  | x :: ds, vs, d, v, 0, h, g => by
    obtain ⟨w, r, rfl, h2, h3⟩ := h.uncons
    exact .cons g h3
  | x :: ds, vs, d, v, i + 1, h, g => by
    obtain ⟨w, r, rfl, h2, h3⟩ := h.uncons
    exact .cons h2 (h3.set i g)
theorem RpAll.dropLast {ds : List Da} {vs : List V} (h : RpAll K B ds vs) : RpAll K B ds.dropLast vs.dropLast := by
  rw [List.dropLast_eq_take, List.dropLast_eq_take, h.len]
  exact h.take _
/-- scalars: the heap does not matter -/
def isSc : Da → Bool
  | .non | .bl _ | .int _ | .str _ | .ty _ | .cls _ => true
  | _ => false
theorem Rp.sc {d : Da} {v : V} (hs : isSc d = true) (h : Rp K B d v) : Rp K B' d v := by
  cases d <;> first | (simpa only [Rp] using h) | (cases hs)
theorem RpAll.sc : ∀ {ds : List Da} {vs : List V}, ds.all isSc = true → RpAll K B ds vs → RpAll K B' ds vs
  | [], vs, _, h => by simpa only [RpAll] using h
  | d :: ds, vs, hs, h => by
    obtain ⟨v, r, rfl, h2, h3⟩ := h.uncons
    rw [List.all_cons, Bool.and_eq_true] at hs
    exact .cons (h2.sc hs.1) (h3.sc hs.2)
theorem rp_ints : ∀ {ns : List Int} {vs : List V}, RpAll K B (ns.map Da.int) vs → vs = ns.map V.int
  | [], vs, h => by simpa only [RpAll, List.map_nil] using h
  | n :: ns, vs, h => by
    rw [List.map_cons] at h ⊢
    obtain ⟨v, r, rfl, h2, h3⟩ := h.uncons
    have e : v = V.int n := by simpa only [Rp] using h2
    rw [e, rp_ints h3]
theorem ints_rp : ∀ (ns : List Int), RpAll K B (ns.map Da.int) (ns.map V.int)
  | [] => .nil
  | n :: ns => .cons (by simp only [Rp]) (ints_rp ns)
theorem rp_bls : ∀ {ns : List Bool} {vs : List V}, RpAll K B (ns.map Da.bl) vs → vs = ns.map V.bl
  | [], vs, h => by simpa only [RpAll, List.map_nil] using h
  | n :: ns, vs, h => by
    rw [List.map_cons] at h ⊢
    obtain ⟨v, r, rfl, h2, h3⟩ := h.uncons
    have e : v = V.bl n := by simpa only [Rp] using h2
    rw [e, rp_bls h3]
theorem rp_atI {ds : List Da} {vs : List V} {i : Int} {d : Da} (h : RpAll K B ds vs) (e : atI ds i = some d) : ∃ v, atI vs i = some v ∧ Rp K B d v := by
  unfold atI at e ⊢
  rw [h.len]
  cases hx : ixN ds.length i with
  | none =>
    rw [hx] at e
    cases e
  | some j =>
    rw [hx] at e
    exact h.get e
def cutD (ds : List Da) (lo hi : Option Int) : List Da := (ds.drop (HT.sIx ds.length 0 lo)).take (HT.sIx ds.length ds.length hi - HT.sIx ds.length 0 lo)
theorem rp_cut {ds : List Da} {vs : List V} {lo hi : Option Int} (h : RpAll K B ds vs) : RpAll K B (cutD ds lo hi) (cutV vs lo hi) := by
  unfold cutD cutV
  rw [h.len]
  exact (h.drop _).take _
/-- a dict's pairs -/
def KvR (K : PySem.W.Frag) (B : Hp) : List (Int × Da) → List (Key × V) → Prop
  | [], ws => ws = []
  | (k, d) :: r, ws => ∃ v t, ws = (Sum.inl k, v) :: t ∧ Rp K B d v ∧ KvR K B r t
theorem KvR.mono (e : Ex B B') : ∀ {kvs : List (Int × Da)} {ws : List (Key × V)}, KvR K B kvs ws → KvR K B' kvs ws
  | [], ws, h => h
  | (k, d) :: r, ws, h => by
    obtain ⟨v, t, h1, h2, h3⟩ := h
    exact ⟨v, t, h1, h2.mono e, h3.mono e⟩
theorem KvR.len : ∀ {kvs : List (Int × Da)} {ws : List (Key × V)}, KvR K B kvs ws → ws.length = kvs.length
  | [], ws, h => by
    have e : ws = [] := h
    rw [e]
    rfl
  | (k, d) :: r, ws, h => by
    obtain ⟨v, t, rfl, h2, h3⟩ := h
    rw [List.length_cons, List.length_cons, h3.len]
def valD : List (Int × Da) → Int → Option Da
  | [], _ => none
  | (k, d) :: r, j => if k = j then some d else valD r j
def putD (kvs : List (Int × Da)) (k : Int) (d : Da) : List (Int × Da) :=
  if (kvs.any fun kv => decide (kv.1 = k)) = true then kvs.map (fun kv => if kv.1 = k then (kv.1, d) else kv) else kvs ++ [(k, d)]
end

/-! ### slots -/
inductive Sl where
  | no
  | im (d : Da)
  | mu (ds : List Da)
  | md (kvs : List (Int × Da))
  | ob (C : Addr) (ns : List Str) (dss : List (List Da))
abbrev En := List Sl
def imm1 : Sl → Sl
  | .im d => .im d
  | _ => .no
def frz1 : Sl → Sl
  | .im d => .im d
  | .mu ds => .im (.lst ds)
  | .md kvs => .md kvs
  | .ob C ns dss => .im (.obj C ns (dss.map Da.lst))
  | .no => .no
abbrev imm (env : En) : En := env.map imm1
abbrev frz (env : En) : En := env.map frz1
/-- a view: no slot of one's own but dicts that are read -/
def SlV (K : PySem.W.Frag) (B : Hp) (o : Option (Option V)) : Sl → Prop
  | .im d => ∃ v, o = some (some v) ∧ Rp K B d v
  | .md kvs => ∃ a ws, o = some (some (.ref a)) ∧ B a = some (.dK ws) ∧ KvR K B kvs ws
  | _ => True
structure SD (K : PySem.W.Frag) (B : Hp) (σ : L2.St) (env : En) : Prop where
  len : env.length = σ.length
  sl : ∀ (i : Nat) s, env[i]? = some s → SlV K B (σ[i]?) s
structure Gr (B H1 B' H2 : Hp) : Prop where
  b : Ex B B'
  h : Ex B' H2
  k : Ex H1 H2
  n : ∀ a, H1 a ≠ none → B' a = B a
section
variable {K : PySem.W.Frag} {B B' B1 B2 H H' H1 H2 H3 : Hp}
theorem Gr.refl (e : Ex B H) : Gr B H B H := ⟨Ex.refl _, e, Ex.refl _, fun _ _ => rfl⟩
theorem Gr.keep (e : Ex B H1) (k : Ex H1 H2) : Gr B H1 B H2 := ⟨Ex.refl _, e.trans k, k, fun _ _ => rfl⟩
theorem Gr.trans (g : Gr B H1 B1 H2) (g' : Gr B1 H2 B2 H3) : Gr B H1 B2 H3 := ⟨g.b.trans g'.b, g'.h, g.k.trans g'.k, fun a h => by
  have h2 : H2 a ≠ none := fun z => by
    cases e : H1 a with
    | none => exact h e
    | some o =>
      rw [g.k a o e] at z
      cases z
  rw [g'.n a h2, g.n a h]⟩
theorem Gr.lay (e : Ex B H1) {p : Addr} {o : HO} (hp : H1 p = none) : Gr B H1 (upd B p o) (upd H1 p o) := by
  have hb : B p = none := fresh_back e hp
  refine ⟨Ex.new hb, fun a u h => ?_, Ex.new hp, fun a h => ?_⟩
  · by_cases q : a = p
    · subst q
      rw [upd_same] at h ⊢
      exact h
    · rw [upd_ne q] at h ⊢
      exact e a u h
  · exact upd_ne fun q => h (q ▸ hp)
/-- a new place, not (yet) told as data -/
theorem Gr.put (e : Ex B H1) {p : Addr} {o : HO} (hp : H1 p = none) : Gr B H1 B (upd H1 p o) := Gr.keep e (Ex.new hp)
theorem SlV.mono {o : Option (Option V)} {s : Sl} (e : Ex B B') (h : SlV K B o s) : SlV K B' o s := by
  cases s with
  | im d =>
    obtain ⟨v, h1, h2⟩ := h
    exact ⟨v, h1, h2.mono e⟩
  | md kvs =>
    obtain ⟨a, ws, h1, h2, h3⟩ := h
    exact ⟨a, ws, h1, e _ _ h2, h3.mono e⟩
  | _ => trivial
theorem SD.mono {σ : L2.St} {env : En} (e : Ex B B') (h : SD K B σ env) : SD K B' σ env := ⟨h.len, fun i s q => (h.sl i s q).mono e⟩
theorem SD.set {σ : L2.St} {env : En} {i : Nat} {v : V} {d : Da} (h : SD K B σ env) (hd : Rp K B d v) : SD K B (σ.set i (some v)) (env.set i (.im d)) := by
  refine ⟨by rw [List.length_set, List.length_set, h.len], fun j s q => ?_⟩
  by_cases e : i = j
  · subst e
    rw [List.getElem?_set_self'] at q
    cases hi : env[i]? with
    | none =>
      rw [hi] at q
      cases q
    | some t =>
      rw [hi] at q
      cases q
      have hl : i < σ.length := by
        rw [← h.len]
        exact (List.getElem?_eq_some_iff.mp hi).1
      exact ⟨v, by rw [List.getElem?_set_self hl], hd⟩
  · rw [List.getElem?_set_ne e] at q ⊢
    exact h.sl j s q
theorem SD.unset {σ : L2.St} {env : En} {i : Nat} {o : Option V} (h : SD K B σ env) : SD K B (σ.set i o) (env.set i .no) := by
  refine ⟨by rw [List.length_set, List.length_set, h.len], fun j s q => ?_⟩
  by_cases e : i = j
  · subst e
    rw [List.getElem?_set_self'] at q
    cases hi : env[i]? with
    | none =>
      rw [hi] at q
      cases q
    | some t =>
      rw [hi] at q
      cases q
      trivial
  · rw [List.getElem?_set_ne e] at q ⊢
    exact h.sl j s q
def wipeE (env : En) : List Nat → En
  | [] => env
  | v :: vs => (wipeE env vs).set v .no
theorem SD.wipe {σ : L2.St} {env : En} (h : SD K B σ env) : ∀ vs : List Nat, SD K B (L2.wipe σ vs) (wipeE env vs)
  | [] => h
  | v :: vs => (h.wipe vs).unset
end

/-! ### expressions -/
section
variable (K : PySem.W.Frag)
def EvE (te : TE) (env : En) (d : Da) : Prop := ∀ σ B, SD K B σ env → ∀ H1, Ex B H1 → ∀ Q : VK, (∀ v B' H2, Gr B H1 B' H2 → Rp K B' d v → Q v H2) → te σ H1 Q
def EvN (te : TE) (env : En) (ds : List Da) : Prop := ∀ σ B, SD K B σ env → ∀ H1, Ex B H1 → ∀ Q : VK, (∀ p xs B' H2, Gr B H1 B' H2 → H1 p = none → B' p = none → H2 p = some (.lst xs) → RpAll K B' ds xs → Q (.ref p) H2) → te σ H1 Q
def EvD (te : TE) (env : En) (kvs : List (Int × Da)) : Prop := ∀ σ B, SD K B σ env → ∀ H1, Ex B H1 → ∀ Q : VK, (∀ p ws B' H2, Gr B H1 B' H2 → H1 p = none → B' p = none → H2 p = some (.dK ws) → KvR K B' kvs ws → Q (.ref p) H2) → te σ H1 Q
def EvB (tt : TT) (env : En) (b : Bool) : Prop := ∀ σ B, SD K B σ env → ∀ H1, Ex B H1 → ∀ Q : Bool → Hp → Prop, (∀ H2, Ex H1 H2 → Q b H2) → tt σ H1 Q
def EvA (ta : TA) (env : En) (ds : List Da) : Prop := ∀ σ B, SD K B σ env → ∀ H1, Ex B H1 → ∀ Q : List V → Hp → Prop, (∀ vs B' H2, Gr B H1 B' H2 → RpAll K B' ds vs → Q vs H2) → ta σ H1 Q
end
section
variable {K : PySem.W.Frag} {env : En} {te ta tb tc : TE} {tt tu : TT} {d : Da} {ds es : List Da} {i j : Int}
theorem EvE.is {d' : Da} (h : EvE K te env d) (e : d = d') : EvE K te env d' := e ▸ h
theorem EvN.is {ds' : List Da} (h : EvN K te env ds) (e : ds = ds') : EvN K te env ds' := e ▸ h
theorem EvB.is {b b' : Bool} (h : EvB K tt env b) (e : b = b') : EvB K tt env b' := e ▸ h
theorem ev_new (h : EvN K te env ds) : EvE K te env (.lst ds) := fun σ B s H1 e Q q => h σ B s H1 e Q fun p xs B' H2 g h1 hb h2 r => by
  have eb : Ex B' (upd B' p (.lst xs)) := Ex.new hb
  refine q _ (upd B' p (.lst xs)) H2 ⟨g.b.trans eb, fun a u h => ?_, g.k, fun a h => ?_⟩ ?_
  · by_cases z : a = p
    · subst z
      rw [upd_same] at h
      rw [h2]
      exact h
    · rw [upd_ne z] at h
      exact g.h a u h
  · rw [upd_ne (show a ≠ p from fun z => h (by rw [z]; exact h1))]
    exact g.n a h
  · simp only [Rp]
    exact ⟨p, xs, rfl, upd_same, r.mono eb⟩
theorem ev_var {i : Nat} (h : env[i]? = some (.im d)) : EvE K (tVar i) env d := fun σ B s H1 e Q q => by
  obtain ⟨v, h1, h2⟩ := s.sl i _ h
  exact ⟨v, h1, q v B H1 (Gr.refl e) h2⟩
theorem ev_c {v : V} (h : ∀ B, Rp K B d v) : EvE K (tC v) env d := fun σ B s H1 e Q q => q v B H1 (Gr.refl e) (h B)
theorem ev_int : EvE K (tC (.int i)) env (.int i) := ev_c fun _ => by simp only [Rp]
theorem ev_bl {b : Bool} : EvE K (tC (.bl b)) env (.bl b) := ev_c fun _ => by simp only [Rp]
theorem ev_non : EvE K (tC .non) env .non := ev_c fun _ => by simp only [Rp]
theorem ev_str {s : Str} : EvE K (tC (.str s)) env (.str s) := ev_c fun _ => by simp only [Rp]
theorem ev_ty {n : String} : EvE K (tC (.ty n)) env (.ty n) := ev_c fun _ => by simp only [Rp]
theorem ev_cls {C : Addr} : EvE K (tC (.ref C)) env (.cls C) := ev_c fun _ => by simp only [Rp]
/-- two operands, the answer by values and heap -/
theorem ev_op {r : R2} {x y z : Da} (ha : EvE K ta env x) (hb : EvE K tb env y)
    (hr : ∀ B H v w, Ex B H → Rp K B x v → Rp K B y w → ∀ Q : VK, (∀ u B' H2, Gr B H B' H2 → Rp K B' z u → Q u H2) → r v w H Q) : EvE K (tOp r ta tb) env z := fun σ B s H1 e Q q =>
  ha σ B s H1 e _ fun v B2 H2 g2 r2 => hb σ B2 (s.mono g2.b) H2 g2.h _ fun w B3 H3 g3 r3 =>
    hr B3 H3 v w g3.h (r2.mono g3.b) r3 Q fun u B4 H4 g4 r4 => q u B4 H4 ((g2.trans g3).trans g4) r4
theorem ev_opN {r : R2} {x y : Da} {zs : List Da} (ha : EvE K ta env x) (hb : EvE K tb env y)
    (hr : ∀ B H v w, Ex B H → Rp K B x v → Rp K B y w → ∀ Q : VK, (∀ p xs B' H2, Gr B H B' H2 → H p = none → B' p = none → H2 p = some (.lst xs) → RpAll K B' zs xs → Q (.ref p) H2) → r v w H Q) : EvN K (tOp r ta tb) env zs := fun σ B s H1 e Q q =>
  ha σ B s H1 e _ fun v B2 H2 g2 r2 => hb σ B2 (s.mono g2.b) H2 g2.h _ fun w B3 H3 g3 r3 =>
    hr B3 H3 v w g3.h (r2.mono g3.b) r3 Q fun p xs B4 H4 g4 h1 h2 h3 h4 => q p xs B4 H4 ((g2.trans g3).trans g4) (fresh_back (g2.k.trans g3.k) h1) h2 h3 h4
theorem ev_I0 {g : Int → Int → V} {z : Da} (hz : ∀ B, Rp K B z (g i j)) (ha : EvE K ta env (.int i)) (hb : EvE K tb env (.int j)) : EvE K (tOp (rI0 g) ta tb) env z :=
  ev_op ha hb fun B H v w e r1 r2 Q q => by
    simp only [Rp] at r1 r2
    subst r1 r2
    exact ⟨i, j, rfl, rfl, q _ B H (Gr.refl e) (hz B)⟩
theorem ev_IC {C : Int → Int → Prop} {g : Int → Int → V} {z : Da} (hz : ∀ B, Rp K B z (g i j)) (ha : EvE K ta env (.int i)) (hb : EvE K tb env (.int j)) (hc : C i j) : EvE K (tOp (rI C g) ta tb) env z :=
  ev_op ha hb fun B H v w e r1 r2 Q q => by
    simp only [Rp] at r1 r2
    subst r1 r2
    exact ⟨i, j, rfl, rfl, hc, q _ B H (Gr.refl e) (hz B)⟩
end
/-! ### the readings' names -/
abbrev rAddI : R2 := rI0 fun i j => .int (i + j)
abbrev rSubI : R2 := rI0 fun i j => .int (i - j)
abbrev rMulI : R2 := rI CMul fun i j => .int (i * j)
abbrev rModI : R2 := rI (fun _ j => 0 < j) fun i j => .int (i % j)
abbrev rDivI : R2 := rI CDiv fun i j => .int (i / j)
abbrev rDivW : R2 := rI CDivW fun i j => .int (i / j)
abbrev rPowI : R2 := rI CPow fun i j => .int (i ^ j.toNat)
abbrev rLtI : R2 := rI0 fun i j => .bl (decide (i < j))
abbrev rLeI : R2 := rI0 fun i j => .bl (decide (i ≤ j))
abbrev rGtI : R2 := rI0 fun i j => .bl (decide (j < i))
abbrev rGeI : R2 := rI0 fun i j => .bl (decide (j ≤ i))
abbrev rCatS : R2 := fun x y H Q => ∃ i j, x = .str i ∧ y = .str j ∧ i.length + j.length ≤ sizeLine ∧ Q (.str (i ++ j)) H
section
variable {K : PySem.W.Frag} {env : En} {te ta tb tc : TE} {tt tu : TT} {d : Da} {ds es : List Da} {i j : Int}
theorem ev_add (ha : EvE K ta env (.int i)) (hb : EvE K tb env (.int j)) : EvE K (tOp rAddI ta tb) env (.int (i + j)) := ev_I0 (fun _ => by simp only [Rp]) ha hb
theorem ev_sub (ha : EvE K ta env (.int i)) (hb : EvE K tb env (.int j)) : EvE K (tOp rSubI ta tb) env (.int (i - j)) := ev_I0 (fun _ => by simp only [Rp]) ha hb
theorem ev_mul (ha : EvE K ta env (.int i)) (hb : EvE K tb env (.int j)) (hc : CMul i j) : EvE K (tOp rMulI ta tb) env (.int (i * j)) := ev_IC (fun _ => by simp only [Rp]) ha hb hc
theorem ev_mod (ha : EvE K ta env (.int i)) (hb : EvE K tb env (.int j)) (hc : 0 < j) : EvE K (tOp rModI ta tb) env (.int (i % j)) := ev_IC (fun _ => by simp only [Rp]) ha hb hc
theorem ev_div (ha : EvE K ta env (.int i)) (hb : EvE K tb env (.int j)) (hc : 0 < j ∧ j < 1073741824) : EvE K (tOp rDivI ta tb) env (.int (i / j)) := ev_IC (fun _ => by simp only [Rp]) ha hb hc
theorem ev_divW (ha : EvE K ta env (.int i)) (hb : EvE K tb env (.int j)) (hc : CDivW i j) : EvE K (tOp rDivW ta tb) env (.int (i / j)) := ev_IC (fun _ => by simp only [Rp]) ha hb hc
theorem ev_pow (ha : EvE K ta env (.int i)) (hb : EvE K tb env (.int j)) (hc : CPow i j) : EvE K (tOp rPowI ta tb) env (.int (i ^ j.toNat)) := ev_IC (fun _ => by simp only [Rp]) ha hb hc
theorem ev_lt (ha : EvE K ta env (.int i)) (hb : EvE K tb env (.int j)) : EvE K (tOp rLtI ta tb) env (.bl (decide (i < j))) := ev_I0 (fun _ => by simp only [Rp]) ha hb
theorem ev_le (ha : EvE K ta env (.int i)) (hb : EvE K tb env (.int j)) : EvE K (tOp rLeI ta tb) env (.bl (decide (i ≤ j))) := ev_I0 (fun _ => by simp only [Rp]) ha hb
theorem ev_gt (ha : EvE K ta env (.int i)) (hb : EvE K tb env (.int j)) : EvE K (tOp rGtI ta tb) env (.bl (decide (j < i))) := ev_I0 (fun _ => by simp only [Rp]) ha hb
theorem ev_ge (ha : EvE K ta env (.int i)) (hb : EvE K tb env (.int j)) : EvE K (tOp rGeI ta tb) env (.bl (decide (j ≤ i))) := ev_I0 (fun _ => by simp only [Rp]) ha hb
theorem ev_neg (ha : EvE K ta env (.int i)) : EvE K (tUn (rU fun i => .int (-i)) ta) env (.int (-i)) := fun σ B s H1 e Q q =>
  ha σ B s H1 e _ fun v B2 H2 g2 r2 => by
    simp only [Rp] at r2
    subst r2
    exact ⟨i, rfl, q _ B2 H2 g2 (by simp only [Rp])⟩
/-- == of scalars -/
theorem ev_eqI (ha : EvE K ta env (.int i)) (hb : EvE K tb env (.int j)) : EvE K (tOp rEq ta tb) env (.bl (decide (i = j))) :=
  ev_op ha hb fun B H v w e r1 r2 Q q => by
    simp only [Rp] at r1 r2
    subst r1 r2
    refine ⟨rfl, q _ B H (Gr.refl e) ?_⟩
    simp only [Rp, V.int.injEq]
theorem ev_neI (ha : EvE K ta env (.int i)) (hb : EvE K tb env (.int j)) : EvE K (tOp rNe ta tb) env (.bl (!decide (i = j))) :=
  ev_op ha hb fun B H v w e r1 r2 Q q => by
    simp only [Rp] at r1 r2
    subst r1 r2
    refine ⟨rfl, q _ B H (Gr.refl e) ?_⟩
    simp only [Rp, V.int.injEq]
theorem ev_eqB {a b : Bool} (ha : EvE K ta env (.bl a)) (hb : EvE K tb env (.bl b)) : EvE K (tOp rEq ta tb) env (.bl (decide (a = b))) :=
  ev_op ha hb fun B H v w e r1 r2 Q q => by
    simp only [Rp] at r1 r2
    subst r1 r2
    refine ⟨rfl, q _ B H (Gr.refl e) ?_⟩
    simp only [Rp, V.bl.injEq]
theorem ev_neB {a b : Bool} (ha : EvE K ta env (.bl a)) (hb : EvE K tb env (.bl b)) : EvE K (tOp rNe ta tb) env (.bl (!decide (a = b))) :=
  ev_op ha hb fun B H v w e r1 r2 Q q => by
    simp only [Rp] at r1 r2
    subst r1 r2
    refine ⟨rfl, q _ B H (Gr.refl e) ?_⟩
    simp only [Rp, V.bl.injEq]
/-- xs[i], t[i] -/
theorem ev_ixL (ha : EvE K ta env (.lst ds)) (hb : EvE K tb env (.int i)) (h : atI ds i = some d) : EvE K (tOp (rIxL K) ta tb) env d :=
  ev_op ha hb fun B H v w e r1 r2 Q q => by
    simp only [Rp] at r1 r2
    obtain ⟨a, xs, rfl, h2, h3⟩ := r1
    subst r2
    obtain ⟨u, hu, ru⟩ := rp_atI h3 h
    exact ⟨a, xs, i, u, rfl, rfl, sq_of (e _ _ h2), hu, q u B H (Gr.refl e) ru⟩
theorem ev_ixT (ha : EvE K ta env (.tup ds)) (hb : EvE K tb env (.int i)) (h : atI ds i = some d) : EvE K (tOp (rIxT K) ta tb) env d :=
  ev_op ha hb fun B H v w e r1 r2 Q q => by
    simp only [Rp] at r1 r2
    obtain ⟨a, xs, rfl, h2, h3⟩ := r1
    subst r2
    obtain ⟨u, hu, ru⟩ := rp_atI h3 h
    exact ⟨a, xs, i, u, rfl, rfl, st_of (e _ _ h2), hu, q u B H (Gr.refl e) ru⟩
/-- arguments, displays -/
theorem ea_nil : EvA K tNil env [] := fun σ B s H1 e Q q => q [] B H1 (Gr.refl e) .nil
theorem ea_cons {tr : TA} (h : EvE K te env d) (hr : EvA K tr env ds) : EvA K (tCons te tr) env (d :: ds) := fun σ B s H1 e Q q =>
  h σ B s H1 e _ fun v B2 H2 g2 r2 => hr σ B2 (s.mono g2.b) H2 g2.h _ fun vs B3 H3 g3 r3 => q (v :: vs) B3 H3 (g2.trans g3) (.cons (r2.mono g3.b) r3)
theorem ev_tup {t : TA} (h : EvA K t env ds) (hl : ds.length ≤ 100000 := by first | decide | simp) : EvE K (tTup t) env (.tup ds) := fun σ B s H1 e Q q =>
  h σ B s H1 e _ fun vs B2 H2 g2 r2 => ⟨sz_of (by rw [r2.len]; exact hl), fun p hp => q _ (upd B2 p (.tup vs)) _ (g2.trans (Gr.lay g2.h hp)) (by
    simp only [Rp]
    exact ⟨p, vs, rfl, upd_same, r2.mono (Ex.new (fresh_back g2.h hp))⟩)⟩
theorem en_lst {t : TA} (h : EvA K t env ds) (hl : ds.length ≤ 100000 := by first | decide | simp) : EvN K (tLst t) env ds := fun σ B s H1 e Q q =>
  h σ B s H1 e _ fun vs B2 H2 g2 r2 => ⟨sz_of (by rw [r2.len]; exact hl), fun p hp => q p vs B2 _ (g2.trans (Gr.put g2.h hp)) (fresh_back g2.k hp) (fresh_back g2.h hp) upd_same r2⟩
/-- built-ins by values -/
theorem ev_cb {r : List V → Hp → VK → Prop} {t : TA} (h : EvA K t env ds) (hr : ∀ B H vs, Ex B H → RpAll K B ds vs → ∀ Q : VK, (∀ u B' H2, Gr B H B' H2 → Rp K B' d u → Q u H2) → r vs H Q) : EvE K (tCB r t) env d := fun σ B s H1 e Q q =>
  h σ B s H1 e _ fun vs B2 H2 g2 r2 => hr B2 H2 vs g2.h r2 Q fun u B3 H3 g3 r3 => q u B3 H3 (g2.trans g3) r3
theorem en_cb {r : List V → Hp → VK → Prop} {t : TA} (h : EvA K t env ds) (hr : ∀ B H vs, Ex B H → RpAll K B ds vs → ∀ Q : VK, (∀ p xs B' H2, Gr B H B' H2 → H p = none → B' p = none → H2 p = some (.lst xs) → RpAll K B' es xs → Q (.ref p) H2) → r vs H Q) : EvN K (tCB r t) env es := fun σ B s H1 e Q q =>
  h σ B s H1 e _ fun vs B2 H2 g2 r2 => hr B2 H2 vs g2.h r2 Q fun p xs B3 H3 g3 h1 h2 h3 r3 => q p xs B3 H3 (g2.trans g3) (fresh_back g2.k h1) h2 h3 r3
theorem one_rp {B : Hp} {vs : List V} (h : RpAll K B [d] vs) : ∃ v, vs = [v] ∧ Rp K B d v := by
  obtain ⟨v, r, rfl, h2, h3⟩ := h.uncons
  have e : r = [] := by simpa only [RpAll] using h3
  subst e
  exact ⟨v, rfl, h2⟩
theorem two_rp {B : Hp} {vs : List V} {d' : Da} (h : RpAll K B [d, d'] vs) : ∃ v w, vs = [v, w] ∧ Rp K B d v ∧ Rp K B d' w := by
  obtain ⟨v, r, rfl, h2, h3⟩ := h.uncons
  obtain ⟨w, rfl, h4⟩ := one_rp h3
  exact ⟨v, w, rfl, h2, h4⟩
theorem ev_max2 (ha : EvE K ta env (.int i)) (hb : EvE K tb env (.int j)) : EvE K (tCB rMax2 (tCons ta (tCons tb tNil))) env (.int (if j > i then j else i)) :=
  ev_cb (ea_cons ha (ea_cons hb ea_nil)) fun B H vs e r Q q => by
    obtain ⟨v, w, rfl, h1, h2⟩ := two_rp r
    simp only [Rp] at h1 h2
    subst h1 h2
    exact ⟨i, j, rfl, q _ B H (Gr.refl e) (by simp only [Rp])⟩
def rMin2 : List V → Hp → VK → Prop := fun xs H Q => ∃ i j, xs = [.int i, .int j] ∧ Q (.int (if j < i then j else i)) H
theorem ev_min2 (ha : EvE K ta env (.int i)) (hb : EvE K tb env (.int j)) : EvE K (tCB rMin2 (tCons ta (tCons tb tNil))) env (.int (if j < i then j else i)) :=
  ev_cb (ea_cons ha (ea_cons hb ea_nil)) fun B H vs e r Q q => by
    obtain ⟨v, w, rfl, h1, h2⟩ := two_rp r
    simp only [Rp] at h1 h2
    subst h1 h2
    exact ⟨i, j, rfl, q _ B H (Gr.refl e) (by simp only [Rp])⟩
def rAbs : List V → Hp → VK → Prop := fun xs H Q => ∃ i, xs = [.int i] ∧ Q (.int (if i < 0 then -i else i)) H
theorem ev_abs (ha : EvE K ta env (.int i)) : EvE K (tCB rAbs (tCons ta tNil)) env (.int (if i < 0 then -i else i)) :=
  ev_cb (ea_cons ha ea_nil) fun B H vs e r Q q => by
    obtain ⟨v, rfl, h1⟩ := one_rp r
    simp only [Rp] at h1
    subst h1
    exact ⟨i, rfl, q _ B H (Gr.refl e) (by simp only [Rp])⟩
theorem ev_lenL (ha : EvE K ta env (.lst ds)) : EvE K (tCB (rLenS K) (tCons ta tNil)) env (.int (ds.length : Int)) :=
  ev_cb (ea_cons ha ea_nil) fun B H vs e r Q q => by
    obtain ⟨v, rfl, h1⟩ := one_rp r
    simp only [Rp] at h1
    obtain ⟨a, xs, rfl, h2, h3⟩ := h1
    exact ⟨a, xs, rfl, .inl (sq_of (e _ _ h2)), q _ B H (Gr.refl e) (by simp only [Rp]; rw [h3.len])⟩
theorem ev_lenQ (ha : EvE K ta env (.sq ds)) : EvE K (tCB (rLenS K) (tCons ta tNil)) env (.int (ds.length : Int)) :=
  ev_cb (ea_cons ha ea_nil) fun B H vs e r Q q => by
    obtain ⟨v, rfl, h1⟩ := one_rp r
    simp only [Rp] at h1
    obtain ⟨a, xs, rfl, h2, h3⟩ := h1
    exact ⟨a, xs, rfl, .inl (ex_l e h2), q _ B H (Gr.refl e) (by simp only [Rp]; rw [h3.len])⟩
theorem ev_lenT (ha : EvE K ta env (.tup ds)) : EvE K (tCB (rLenS K) (tCons ta tNil)) env (.int (ds.length : Int)) :=
  ev_cb (ea_cons ha ea_nil) fun B H vs e r Q q => by
    obtain ⟨v, rfl, h1⟩ := one_rp r
    simp only [Rp] at h1
    obtain ⟨a, xs, rfl, h2, h3⟩ := h1
    exact ⟨a, xs, rfl, .inr (st_of (e _ _ h2)), q _ B H (Gr.refl e) (by simp only [Rp]; rw [h3.len])⟩
theorem en_listL (ha : EvE K ta env (.lst ds)) : EvN K (tCB (rListS K) (tCons ta tNil)) env ds :=
  en_cb (ea_cons ha ea_nil) fun B H vs e r Q q => by
    obtain ⟨v, rfl, h1⟩ := one_rp r
    simp only [Rp] at h1
    obtain ⟨a, xs, rfl, h2, h3⟩ := h1
    exact ⟨a, xs, rfl, .inl (sq_of (e _ _ h2)), fun l hl => q l xs B _ (Gr.put e hl) hl (fresh_back e hl) upd_same h3⟩
theorem en_listT (ha : EvE K ta env (.tup ds)) : EvN K (tCB (rListS K) (tCons ta tNil)) env ds :=
  en_cb (ea_cons ha ea_nil) fun B H vs e r Q q => by
    obtain ⟨v, rfl, h1⟩ := one_rp r
    simp only [Rp] at h1
    obtain ⟨a, xs, rfl, h2, h3⟩ := h1
    exact ⟨a, xs, rfl, .inr (st_of (e _ _ h2)), fun l hl => q l xs B _ (Gr.put e hl) hl (fresh_back e hl) upd_same h3⟩
theorem ev_sumQ {ns : List Int} (ha : EvE K ta env (.sq (ns.map Da.int))) : EvE K (tCB (rSum K) (tCons ta tNil)) env (.int ns.sum) :=
  ev_cb (ea_cons ha ea_nil) fun B H vs e r Q q => by
    obtain ⟨v, rfl, h1⟩ := one_rp r
    simp only [Rp] at h1
    obtain ⟨a, xs, rfl, h2, h3⟩ := h1
    have z := rp_ints h3
    subst z
    exact ⟨a, ns, rfl, ex_l e h2, q _ B H (Gr.refl e) (by simp only [Rp])⟩
theorem ev_sumL {ns : List Int} (ha : EvE K ta env (.lst (ns.map Da.int))) : EvE K (tCB (rSum K) (tCons ta tNil)) env (.int ns.sum) :=
  ev_cb (ea_cons ha ea_nil) fun B H vs e r Q q => by
    obtain ⟨v, rfl, h1⟩ := one_rp r
    simp only [Rp] at h1
    obtain ⟨a, xs, rfl, h2, h3⟩ := h1
    have z := rp_ints h3
    subst z
    exact ⟨a, ns, rfl, sq_of (e _ _ h2), q _ B H (Gr.refl e) (by simp only [Rp])⟩
theorem ev_all {bs : List Bool} (ha : EvE K ta env (.lst (bs.map Da.bl))) : EvE K (tCB (L2.rAll K) (tCons ta tNil)) env (.bl (bs.all id)) :=
  ev_cb (ea_cons ha ea_nil) fun B H vs e r Q q => by
    obtain ⟨v, rfl, h1⟩ := one_rp r
    simp only [Rp] at h1
    obtain ⟨a, xs, rfl, h2, h3⟩ := h1
    have z := rp_bls h3
    subst z
    exact ⟨a, bs, rfl, sq_of (e _ _ h2), q _ B H (Gr.refl e) (by simp only [Rp])⟩
theorem ev_any {bs : List Bool} (ha : EvE K ta env (.lst (bs.map Da.bl))) : EvE K (tCB (L2.rAny K) (tCons ta tNil)) env (.bl (bs.any id)) :=
  ev_cb (ea_cons ha ea_nil) fun B H vs e r Q q => by
    obtain ⟨v, rfl, h1⟩ := one_rp r
    simp only [Rp] at h1
    obtain ⟨a, xs, rfl, h2, h3⟩ := h1
    have z := rp_bls h3
    subst z
    exact ⟨a, bs, rfl, sq_of (e _ _ h2), q _ B H (Gr.refl e) (by simp only [Rp])⟩
/-- isinstance -/
def tyD : Da → Option String
  | .non => some "NoneType"
  | .bl _ => some "bool"
  | .int _ => some "int"
  | .str _ => some "str"
  | .lst _ => some "list"
  | .sq _ => some "list"
  | .tup _ => some "tuple"
  | _ => none
theorem tyx_of {B H : Hp} {v : V} {n : String} (e : Ex B H) (h : Rp K B d v) (hn : tyD d = some n) : TyX K H v (.type n) := by
  cases d with
  | non => simp only [Rp] at h; subst h; cases hn; exact .base .non
  | bl b => simp only [Rp] at h; subst h; cases hn; exact .base (.bl b)
  | int i => simp only [Rp] at h; subst h; cases hn; exact .base (.int i)
  | str s => simp only [Rp] at h; subst h; cases hn; exact .base (.str s)
  | ty n => cases hn
  | cls C => cases hn
  | lst ds =>
    simp only [Rp] at h
    obtain ⟨a, xs, rfl, h2, h3⟩ := h
    cases hn
    exact .base (.lst (e _ _ h2))
  | sq ds =>
    simp only [Rp] at h
    obtain ⟨a, xs, rfl, h2, h3⟩ := h
    cases hn
    rcases ex_l e h2 with (h2 | ⟨o, h2⟩) | ⟨o, its, n, h2, h4, _⟩
    · exact .base (.lst h2)
    · exact .base (.frz h2)
    · exact .kList h2 h4
  | tup ds =>
    simp only [Rp] at h
    obtain ⟨a, xs, rfl, h2, h3⟩ := h
    cases hn
    exact .base (.tup (e _ _ h2))
  | obj C ns ds => cases hn
theorem ev_isiB {n m : String} {b : Bool} (ha : EvE K ta env d) (hb : EvE K tb env (.ty m)) (hn : tyD d = some n) (hk : kitB n m = some b) : EvE K (tCB (rIsi K) (tCons ta (tCons tb tNil))) env (.bl b) :=
  ev_cb (ea_cons ha (ea_cons hb ea_nil)) fun B H vs e r Q q => by
    obtain ⟨v, w, rfl, h1, h2⟩ := two_rp r
    simp only [Rp] at h2
    subst h2
    exact ⟨v, .ty m, .type n, .type m, b, rfl, .ty m, tyx_of e h1 hn, kit_ty hk, q _ B H (Gr.refl e) (by simp only [Rp])⟩
/-- and, or, not, if by values -/
theorem ev_andV {a b : Bool} (h1 : EvE K ta env (.bl a)) (h2 : a = true → EvE K tb env (.bl b)) : EvE K (tAndV ta tb) env (.bl (a && b)) := fun σ B s H1 e Q q =>
  h1 σ B s H1 e _ fun v B2 H2 g2 r2 => by
    simp only [Rp] at r2
    subst r2
    refine ⟨a, rfl, ?_⟩
    cases a with
    | true =>
      show tb σ H2 Q
      exact h2 rfl σ B2 (s.mono g2.b) H2 g2.h Q fun w B3 H3 g3 r3 => q w B3 H3 (g2.trans g3) r3
    | false =>
      show Q (.bl false) H2
      exact q _ B2 H2 g2 (by simp only [Rp, Bool.false_and])
theorem ev_orV {a b : Bool} (h1 : EvE K ta env (.bl a)) (h2 : a = false → EvE K tb env (.bl b)) : EvE K (tOrV ta tb) env (.bl (a || b)) := fun σ B s H1 e Q q =>
  h1 σ B s H1 e _ fun v B2 H2 g2 r2 => by
    simp only [Rp] at r2
    subst r2
    refine ⟨a, rfl, ?_⟩
    cases a with
    | false =>
      show tb σ H2 Q
      exact h2 rfl σ B2 (s.mono g2.b) H2 g2.h Q fun w B3 H3 g3 r3 => q w B3 H3 (g2.trans g3) r3
    | true =>
      show Q (.bl true) H2
      exact q _ B2 H2 g2 (by simp only [Rp, Bool.true_or])
theorem ev_notV {a : Bool} (h1 : EvE K ta env (.bl a)) : EvE K (tNotV ta) env (.bl (!a)) := fun σ B s H1 e Q q =>
  h1 σ B s H1 e _ fun v B2 H2 g2 r2 => by
    simp only [Rp] at r2
    subst r2
    exact ⟨a, rfl, q _ B2 H2 g2 (by simp only [Rp])⟩
theorem ev_ifE {b : Bool} (h : EvB K tt env b) (h1 : b = true → EvE K ta env d) (h2 : b = false → EvE K tb env d) : EvE K (tIf tt ta tb) env d := fun σ B s H1 e Q q =>
  h σ B s H1 e _ fun H2 e2 => by
    have gt : ∀ v B' H3, Gr B H2 B' H3 → Rp K B' d v → Q v H3 := fun v B' H3 g r => q v B' H3 ((Gr.keep e e2).trans g) r
    cases b with
    | true =>
      show ta σ H2 Q
      exact h1 rfl σ B s H2 (e.trans e2) Q gt
    | false =>
      show tb σ H2 Q
      exact h2 rfl σ B s H2 (e.trans e2) Q gt
/-- a chain of two -/
theorem ev_chain {r r' : R2} {x y z : Da} {k b : Bool} (ha : EvE K ta env x) (hb : EvE K tb env y) (hc : k = true → EvE K tc env z)
    (h1 : ∀ B H v w, Ex B H → Rp K B x v → Rp K B y w → ∀ Q : VK, (∀ u B' H2, Gr B H B' H2 → Rp K B' (.bl k) u → Q u H2) → r v w H Q)
    (h2 : k = true → ∀ B H v w, Ex B H → Rp K B y v → Rp K B z w → ∀ Q : VK, (∀ u B' H2, Gr B H B' H2 → Rp K B' (.bl b) u → Q u H2) → r' v w H Q) : EvE K (tChain r r' ta tb tc) env (.bl (k && b)) := fun σ B s H1 e Q q =>
  ha σ B s H1 e _ fun v B2 H2 g2 r2 => hb σ B2 (s.mono g2.b) H2 g2.h _ fun w B3 H3 g3 r3 =>
    h1 B3 H3 v w g3.h (r2.mono g3.b) r3 _ fun u B4 H4 g4 r4 => by
      simp only [Rp] at r4
      subst r4
      have g := (g2.trans g3).trans g4
      refine ⟨k, rfl, ?_⟩
      cases k with
      | true =>
        show tc σ H4 fun w' H4 => r' w w' H4 Q
        exact hc rfl σ B4 (s.mono g.b) H4 g.h _ fun w' B5 H5 g5 r5 => h2 rfl B5 H5 w w' g5.h ((r3.mono g4.b).mono g5.b) r5 Q fun u B6 H6 g6 r6 => q u B6 H6 ((g.trans g5).trans g6) (by simpa only [Bool.true_and] using r6)
      | false =>
        show Q (.bl false) H4
        exact q _ B4 H4 g (by simp only [Rp, Bool.false_and])
theorem ru_I {g : Int → Int → V} {b : Bool} (hg : g i j = .bl b) (B H : Hp) (v w : V) (e : Ex B H) (r1 : Rp K B (.int i) v) (r2 : Rp K B (.int j) w) (Q : VK) (q : ∀ u B' H2, Gr B H B' H2 → Rp K B' (.bl b) u → Q u H2) : rI0 g v w H Q := by
  simp only [Rp] at r1 r2
  subst r1 r2
  refine ⟨i, j, rfl, rfl, q _ B H (Gr.refl e) ?_⟩
  simp only [Rp]
  exact hg
theorem ev_chainI {g g' : Int → Int → V} {l : Int} {k b : Bool} (hg : g i j = .bl k) (hg' : g' j l = .bl b) (ha : EvE K ta env (.int i)) (hb : EvE K tb env (.int j)) (hc : k = true → EvE K tc env (.int l)) : EvE K (tChain (rI0 g) (rI0 g') ta tb tc) env (.bl (k && b)) :=
  ev_chain ha hb hc (ru_I hg) (fun _ => ru_I hg')

/-! ### tests -/
theorem eb_test {b : Bool} (h : EvE K te env (.bl b)) : EvB K (tTest te) env b := fun σ B s H1 e Q q =>
  h σ B s H1 e _ fun v B2 H2 g2 r2 => by
    simp only [Rp] at r2
    exact ⟨b, r2, q H2 g2.k⟩
theorem eb_B {b : Bool} (h : EvE K te env (.bl b)) : EvB K (tB te) env b := fun σ B s H1 e Q q =>
  h σ B s H1 e _ fun v B2 H2 g2 r2 => by
    simp only [Rp] at r2
    exact ⟨b, r2, q H2 g2.k⟩
theorem eb_not {a : Bool} (h : EvB K tt env a) : EvB K (tNot tt) env (!a) := fun σ B s H1 e Q q => h σ B s H1 e _ fun H2 e2 => q H2 e2
theorem eb_and {a b : Bool} (h1 : EvB K tt env a) (h2 : a = true → EvB K tu env b) : EvB K (tAnd tt tu) env (a && b) := fun σ B s H1 e Q q => h1 σ B s H1 e _ fun H2 e2 => by
  cases a with
  | true =>
    show tu σ H2 Q
    exact h2 rfl σ B s H2 (e.trans e2) Q fun H3 e3 => q H3 (e2.trans e3)
  | false =>
    show Q false H2
    exact q H2 e2
theorem eb_or {a b : Bool} (h1 : EvB K tt env a) (h2 : a = false → EvB K tu env b) : EvB K (tOr tt tu) env (a || b) := fun σ B s H1 e Q q => h1 σ B s H1 e _ fun H2 e2 => by
  cases a with
  | true =>
    show Q true H2
    exact q H2 e2
  | false =>
    show tu σ H2 Q
    exact h2 rfl σ B s H2 (e.trans e2) Q fun H3 e3 => q H3 (e2.trans e3)
theorem eb_yes : EvB K tYes env true := fun σ B s H1 e Q q => q H1 (Ex.refl _)

/-! ### slices -/
def EvO (K : PySem.W.Frag) (to : TO) (env : En) (o : Option Int) : Prop := ∀ σ B, SD K B σ env → ∀ H1, Ex B H1 → ∀ Q : Option Int → Hp → Prop, (∀ H2, Ex H1 H2 → Q o H2) → to σ H1 Q
theorem eo_none : EvO K tNoPart env none := fun σ B s H1 e Q q => q H1 (Ex.refl _)
theorem eo_some (h : EvE K te env (.int i)) : EvO K (tPart te) env (some i) := fun σ B s H1 e Q q => h σ B s H1 e _ fun v B2 H2 g2 r2 => by
  simp only [Rp] at r2
  exact ⟨i, r2, q H2 g2.k⟩
theorem en_slL {tl th : TO} {lo hi : Option Int} (h : EvE K te env (.lst ds)) (h1 : EvO K tl env lo) (h2 : EvO K th env hi) : EvN K (tSl (rSlL K) te tl th) env (cutD ds lo hi) := fun σ B s H1 e Q q =>
  h σ B s H1 e _ fun v B2 H2 g2 r2 => h1 σ B2 (s.mono g2.b) H2 g2.h _ fun H3 e3 => h2 σ B2 (s.mono g2.b) H3 (g2.h.trans e3) _ fun H4 e4 => by
    simp only [Rp] at r2
    obtain ⟨a, xs, rfl, h5, h6⟩ := r2
    exact ⟨a, xs, rfl, sq_of (e4 _ _ (e3 _ _ (g2.h _ _ h5))), fun p hp => q p _ B2 _ ((g2.trans (Gr.keep g2.h (e3.trans e4))).trans (Gr.put (g2.h.trans (e3.trans e4)) hp)) (fresh_back (g2.k.trans (e3.trans e4)) hp) (fresh_back (g2.h.trans (e3.trans e4)) hp) upd_same (rp_cut h6)⟩
theorem en_slQ {tl th : TO} {lo hi : Option Int} (h : EvE K te env (.sq ds)) (h1 : EvO K tl env lo) (h2 : EvO K th env hi) : EvN K (tSl (rSlL K) te tl th) env (cutD ds lo hi) := fun σ B s H1 e Q q =>
  h σ B s H1 e _ fun v B2 H2 g2 r2 => h1 σ B2 (s.mono g2.b) H2 g2.h _ fun H3 e3 => h2 σ B2 (s.mono g2.b) H3 (g2.h.trans e3) _ fun H4 e4 => by
    simp only [Rp] at r2
    obtain ⟨a, xs, rfl, h5, h6⟩ := r2
    exact ⟨a, xs, rfl, ex_l e4 (ex_l e3 (ex_l g2.h h5)), fun p hp => q p _ B2 _ ((g2.trans (Gr.keep g2.h (e3.trans e4))).trans (Gr.put (g2.h.trans (e3.trans e4)) hp)) (fresh_back (g2.k.trans (e3.trans e4)) hp) (fresh_back (g2.h.trans (e3.trans e4)) hp) upd_same (rp_cut h6)⟩
theorem en_rev (h : EvE K te env (.lst ds)) : EvN K (tRevL K te) env ds.reverse := fun σ B s H1 e Q q =>
  h σ B s H1 e _ fun v B2 H2 g2 r2 => by
    simp only [Rp] at r2
    obtain ⟨a, xs, rfl, h5, h6⟩ := r2
    exact ⟨a, xs, rfl, sq_of (g2.h _ _ h5), fun p hp => q p _ B2 _ (g2.trans (Gr.put g2.h hp)) (fresh_back g2.k hp) (fresh_back g2.h hp) upd_same h6.rev⟩
theorem en_cat (ha : EvE K ta env (.lst ds)) (hb : EvE K tb env (.lst es)) (hl : ds.length + es.length ≤ 100000) : EvN K (tOp rCat ta tb) env (ds ++ es) :=
  ev_opN ha hb fun B H v w e r1 r2 Q q => by
    simp only [Rp] at r1 r2
    obtain ⟨a, xs, rfl, h2, h3⟩ := r1
    obtain ⟨b, ys, rfl, h4, h5⟩ := r2
    exact ⟨a, b, xs, ys, rfl, rfl, e _ _ h2, e _ _ h4, sz_of (by rw [h3.len, h5.len]; exact hl), fun p hp => q p _ B _ (Gr.put e hp) hp (fresh_back e hp) upd_same (h3.app h5)⟩
theorem en_listRg (ha : EvE K ta env (.int i)) (hb : EvE K tb env (.int j)) (h : RgOk i j) : EvN K (tLstRg (tRg2 ta tb)) env ((List.range (j - i).toNat).map fun k => Da.int (i + (k : Nat))) := fun σ B s H1 e Q q =>
  ha σ B s H1 e _ fun v B2 H2 g2 r2 => hb σ B2 (s.mono g2.b) H2 g2.h _ fun w B3 H3 g3 r3 => by
    simp only [Rp] at r2 r3
    subst r2 r3
    refine ⟨i, j, rfl, rfl, h, fun p hp => q p _ B3 _ ((g2.trans g3).trans (Gr.put g3.h hp)) (fresh_back (g2.trans g3).k hp) (fresh_back g3.h hp) upd_same ?_⟩
    have z := ints_rp (K := K) (B := B3) ((List.range (j - i).toNat).map fun k => i + ((k : Nat) : Int))
    rw [List.map_map, List.map_map] at z
    exact z
theorem en_listRg1 (hb : EvE K tb env (.int j)) (h : RgOk 0 j) : EvN K (tLstRg (tRg1 tb)) env ((List.range j.toNat).map fun k => Da.int ((k : Nat) : Int)) := fun σ B s H1 e Q q =>
  hb σ B s H1 e _ fun w B3 H3 g3 r3 => by
    simp only [Rp] at r3
    subst r3
    refine ⟨j, rfl, h, fun p hp => q p _ B3 _ (g3.trans (Gr.put g3.h hp)) (fresh_back g3.k hp) (fresh_back g3.h hp) upd_same ?_⟩
    have z := ints_rp (K := K) (B := B3) ((List.range (j - 0).toNat).map fun k => (0 : Int) + ((k : Nat) : Int))
    rw [List.map_map, List.map_map] at z
    have e0 : (j - 0).toNat = j.toNat := by rw [Int.sub_zero]
    rw [e0] at z
    have e1 : rgV 0 j = List.map (V.int ∘ fun k : Nat => 0 + (k : Int)) (List.range j.toNat) := by
      unfold rgV
      rw [e0]
      rfl
    rw [e1]
    have e2 : (List.map (fun k : Nat => Da.int (k : Int)) (List.range j.toNat)) = List.map (Da.int ∘ fun k : Nat => (0 : Int) + (k : Int)) (List.range j.toNat) := by
      apply List.map_congr_left
      intro a _
      simp
    rw [e2]
    exact z
end

/-! ### targets, walks, comprehensions -/
def TgE (K : PySem.W.Frag) (g : TG) (d : Da) (env env' : En) : Prop := ∀ σ B v, SD K B σ env → Rp K B d v → ∀ H, Ex B H → ∀ Q : L2.St → Hp → Prop, (∀ σ', SD K B σ' env' → Q σ' H) → g v σ H Q
section
variable {K : PySem.W.Frag} {env env' env2 : En} {d : Da}
theorem tg_name {i : Nat} : TgE K (gName i) d env (env.set i (.im d)) := fun σ B v s r H e Q q => q _ (s.set r)
theorem tg_tup2 {g1 g2 : TG} {x y : Da} (h1 : TgE K g1 x env env') (h2 : TgE K g2 y env' env2) : TgE K (gTup K 2 (gCons g1 (gCons g2 gNil))) (.tup [x, y]) env env2 := fun σ B v s r H e Q q => by
  simp only [Rp] at r
  obtain ⟨a, xs, rfl, h, hr⟩ := r
  obtain ⟨v, w, rfl, r1, r2⟩ := two_rp hr
  refine ⟨a, [v, w], rfl, st_of (e _ _ h), rfl, v, [w], rfl, h1 σ B v s r1 H e _ fun σ' s' => ⟨w, [], rfl, h2 σ' B w s' r2 H e _ fun σ2 s2 => ⟨rfl, q σ2 s2⟩⟩⟩
theorem tg_tup3 {g1 g2 g3 : TG} {x y z : Da} {env3 : En} (h1 : TgE K g1 x env env') (h2 : TgE K g2 y env' env2) (h3 : TgE K g3 z env2 env3) : TgE K (gTup K 3 (gCons g1 (gCons g2 (gCons g3 gNil)))) (.tup [x, y, z]) env env3 := fun σ B v s r H e Q q => by
  simp only [Rp] at r
  obtain ⟨a, xs, rfl, h, hr⟩ := r
  obtain ⟨v, r', rfl, r1, hr2⟩ := hr.uncons
  obtain ⟨w, u, rfl, r2, r3⟩ := two_rp hr2
  refine ⟨a, [v, w, u], rfl, st_of (e _ _ h), rfl, v, [w, u], rfl, h1 σ B v s r1 H e _ fun σ' s' => ⟨w, [u], rfl, h2 σ' B w s' r2 H e _ fun σ2 s2 => ⟨u, [], rfl, h3 σ2 B u s2 r3 H e _ fun σ3 s3 => ⟨rfl, q σ3 s3⟩⟩⟩⟩
end
end FR

/-! Walks, comprehensions, statements over data. -/
namespace FR
open PySem L2 Evl

/-! ### what is walked -/
def WkE (K : PySem.W.Frag) (wi : TI) (env : En) (ds : List Da) : Prop := ∀ σ B, SD K B σ env → ∀ H1, Ex B H1 → ∀ R : It → Hp → Prop,
  (∀ J B' H2 G Y, Gr B H1 B' H2 → Walk J ds.length G Y → (∀ H, Ex B' H → G H) → (∀ i H x H' Bi, Ex B' Bi → Ex Bi H → Y i H x H' → ∃ d B2, ds[i]? = some d ∧ Gr Bi H B2 H' ∧ Rp K B2 d x) → R J H2) → wi σ H1 R
section
variable {K : PySem.W.Frag} {env : En} {te ta tb : TE} {ds es : List Da} {i j : Int}
theorem wk_list (h : EvE K te env (.lst ds)) : WkE K (iList K te) env ds := fun σ B s H1 e R q =>
  h σ B s H1 e _ fun v B2 H2 g r => by
    simp only [Rp] at r
    obtain ⟨a, xs, rfl, h2, h3⟩ := r
    refine ⟨a, rfl, ⟨xs, sq_of (g.h _ _ h2)⟩, ?_⟩
    have w : Walk (Itl K a) xs.length (fun H => SqL K H a xs) (YAt xs) := walk_list
    rw [h3.len] at w
    refine q _ B2 H2 _ _ g w (fun H e2 => sq_of (e2 _ _ h2)) fun i H x H' Bi eb eh y => ?_
    obtain ⟨rfl, hx⟩ := y
    obtain ⟨d, hd, rd⟩ := h3.getV hx
    exact ⟨d, Bi, hd, Gr.refl eh, rd.mono eb⟩
theorem wk_sq (h : EvE K te env (.sq ds)) : WkE K (iList K te) env ds := fun σ B s H1 e R q =>
  h σ B s H1 e _ fun v B2 H2 g r => by
    simp only [Rp] at r
    obtain ⟨a, xs, rfl, h2, h3⟩ := r
    refine ⟨a, rfl, ⟨xs, ex_l g.h h2⟩, ?_⟩
    have w : Walk (Itl K a) xs.length (fun H => SqL K H a xs) (YAt xs) := walk_list
    rw [h3.len] at w
    refine q _ B2 H2 _ _ g w (fun H e2 => ex_l e2 h2) fun i H x H' Bi eb eh y => ?_
    obtain ⟨rfl, hx⟩ := y
    obtain ⟨d, hd, rd⟩ := h3.getV hx
    exact ⟨d, Bi, hd, Gr.refl eh, rd.mono eb⟩
theorem wk_tup (h : EvE K te env (.tup ds)) : WkE K (iTup K te) env ds := fun σ B s H1 e R q =>
  h σ B s H1 e _ fun v B2 H2 g r => by
    simp only [Rp] at r
    obtain ⟨a, xs, rfl, h2, h3⟩ := r
    refine ⟨a, rfl, ⟨xs, st_of (g.h _ _ h2)⟩, ?_⟩
    have w : Walk (Itt K a) xs.length (fun H => SqT K H a xs) (YAt xs) := walk_tup
    rw [h3.len] at w
    refine q _ B2 H2 _ _ g w (fun H e2 => st_of (e2 _ _ h2)) fun i H x H' Bi eb eh y => ?_
    obtain ⟨rfl, hx⟩ := y
    obtain ⟨d, hd, rd⟩ := h3.getV hx
    exact ⟨d, Bi, hd, Gr.refl eh, rd.mono eb⟩
theorem wk_rev {ta : TE} (h : EvE K te env (.lst ds)) : WkE K (iRev K (tCons te tNil)) env ds.reverse := fun σ B s H1 e R q =>
  h σ B s H1 e _ fun v B2 H2 g r => by
    simp only [Rp] at r
    obtain ⟨a, xs, rfl, h2, h3⟩ := r
    refine ⟨a, xs, rfl, sq_of (g.h _ _ h2), ?_⟩
    have w := walk_rev (K := K) (a := a) (xs := xs)
    have hl : xs.length = ds.reverse.length := by rw [h3.len, List.length_reverse]
    have w' : Walk (Itv K a xs.length) ds.reverse.length (fun H => SqL K H a xs) (fun i H x H' => H' = H ∧ xs[xs.length - 1 - i]? = some x ∧ i < xs.length) := by
      rw [← hl]
      exact w.mono (fun _ h => h) fun i H x H' hi _ y => ⟨y.1, y.2, hi⟩
    refine q _ B2 H2 _ _ g w' (fun H e2 => sq_of (e2 _ _ h2)) fun i H x H' Bi eb eh y => ?_
    obtain ⟨rfl, hx, hi⟩ := y
    have hrev := h3.rev
    have hx' : xs.reverse[i]? = some x := by
      rw [List.getElem?_reverse hi]
      exact hx
    obtain ⟨d, hd, rd⟩ := hrev.getV hx'
    exact ⟨d, Bi, hd, Gr.refl eh, rd.mono eb⟩
def rngD (i j : Int) : List Da := (List.range (j - i).toNat).map fun k => Da.int (i + (k : Nat))
theorem rngD_len (i j : Int) : (rngD i j).length = (j - i).toNat := by
  unfold rngD
  rw [List.length_map, List.length_range]
theorem rngD_get {i j : Int} {k : Nat} (h : k < (j - i).toNat) : (rngD i j)[k]? = some (.int (i + (k : Nat))) := by
  unfold rngD
  rw [List.getElem?_map, List.getElem?_range h]
  rfl
theorem wk_rng2 (ha : EvE K ta env (.int i)) (hb : EvE K tb env (.int j)) (hi : -(2 ^ 62) ≤ i ∧ i < 2 ^ 62 ∧ -(2 ^ 62) ≤ j ∧ j < 2 ^ 62) : WkE K (iRng2 (tCons ta (tCons tb tNil))) env (rngD i j) := fun σ B s H1 e R q =>
  ha σ B s H1 e _ fun v B2 H2 g2 r2 => hb σ B2 (s.mono g2.b) H2 g2.h _ fun w B3 H3 g3 r3 => by
    simp only [Rp] at r2 r3
    subst r2 r3
    refine ⟨i, j, rfl, hi, ?_⟩
    have w : Walk (Itr i (j - i).toNat) (rngD i j).length (fun _ => True) (fun k H x H' => (H' = H ∧ x = .int (i + k)) ∧ k < (j - i).toNat) := by
      rw [rngD_len]
      exact walk_range.mono (fun _ h => h) fun k H x H' hk _ y => ⟨y, hk⟩
    refine q _ B3 H3 _ _ (g2.trans g3) w (fun _ _ => trivial) fun k H x H' Bi eb eh y => ?_
    obtain ⟨⟨rfl, rfl⟩, hk⟩ := y
    exact ⟨_, Bi, rngD_get hk, Gr.refl eh, by simp only [Rp]⟩
theorem wk_rng1 (hb : EvE K tb env (.int j)) (hi : -(2 ^ 62) ≤ j ∧ j < 2 ^ 62) : WkE K (iRng1 (tCons tb tNil)) env (rngD 0 j) := fun σ B s H1 e R q =>
  hb σ B s H1 e _ fun w B3 H3 g3 r3 => by
    simp only [Rp] at r3
    subst r3
    refine ⟨j, rfl, hi.1, hi.2, ?_⟩
    have w : Walk (Itr 0 j.toNat) (rngD 0 j).length (fun _ => True) (fun k H x H' => (H' = H ∧ x = .int (0 + k)) ∧ k < (j - 0).toNat) := by
      rw [rngD_len, Int.sub_zero]
      exact walk_range.mono (fun _ h => h) fun k H x H' hk _ y => ⟨y, hk⟩
    refine q _ B3 H3 _ _ g3 w (fun _ _ => trivial) fun k H x H' Bi eb eh y => ?_
    obtain ⟨⟨rfl, rfl⟩, hk⟩ := y
    exact ⟨_, Bi, rngD_get hk, Gr.refl eh, by simp only [Rp]⟩
theorem wk_zip (ha : EvE K ta env (.lst ds)) (hb : EvE K tb env (.lst es)) : WkE K (iZip K (tCons ta (tCons tb tNil))) env (List.zipWith (fun x y => Da.tup [x, y]) ds es) := fun σ B s H1 e R q =>
  ha σ B s H1 e _ fun v B2 H2 g2 r2 => hb σ B2 (s.mono g2.b) H2 g2.h _ fun w B3 H3 g3 r3 => by
    simp only [Rp] at r2 r3
    obtain ⟨a, xs, rfl, h2, h3⟩ := r2
    obtain ⟨b, ys, rfl, h4, h5⟩ := r3
    refine ⟨a, b, xs, ys, rfl, sq_of (g3.h _ _ (g3.b _ _ h2)), sq_of (g3.h _ _ h4), ?_⟩
    have hl : (List.zipWith (fun x y => Da.tup [x, y]) ds es).length = min xs.length ys.length := by rw [List.length_zipWith, h3.len, h5.len]
    have w := walk_zip (K := K) (a := a) (b := b) hl
    refine q _ B3 H3 _ _ (g2.trans g3) w (fun H e2 => ⟨sq_of (e2 _ _ (g3.b _ _ h2)), sq_of (e2 _ _ h4)⟩) fun k H x H' Bi eb eh y => ?_
    obtain ⟨T, x1, x2, rfl, hT, rfl, e1, e2⟩ := y
    obtain ⟨d1, hd1, r1⟩ := h3.getV e1
    obtain ⟨d2, hd2, r2⟩ := h5.getV e2
    have nb : Ex Bi (upd Bi T (.tup [x1, x2])) := Ex.new (fresh_back eh hT)
    refine ⟨.tup [d1, d2], upd Bi T (.tup [x1, x2]), ?_, Gr.lay eh hT, ?_⟩
    · rw [List.getElem?_zipWith, hd1, hd2]
    · simp only [Rp]
      exact ⟨T, [x1, x2], rfl, upd_same, .cons (((r1.mono g3.b).mono eb).mono nb) (.cons ((r2.mono eb).mono nb) .nil)⟩
end

/-! ### comprehensions -/
def TgC (K : PySem.W.Frag) (g : TG) (d : Da) (env env' : En) (us : List Nat) : Prop := ∀ σ B v, SD K B σ env → Rp K B d v → ∀ H, Ex B H → ∀ Q : L2.St → Hp → Prop,
  (∀ σ', SD K B σ' env' → σ'.length = σ.length → (∀ j, j ∉ us → σ'[j]? = σ[j]?) → Q σ' H) → g v σ H Q
section
variable {K : PySem.W.Frag} {env env' env2 : En}
theorem tc_name {i : Nat} {d : Da} : TgC K (gName i) d env (env.set i (.im d)) [i] := fun σ B v s r H e Q q =>
  q _ (s.set r) (by rw [List.length_set]) fun j hj => by
    rw [List.getElem?_set_ne]
    intro z
    exact hj (by simp [z])
theorem tc_tup2 {g1 g2 : TG} {x y : Da} {u1 u2 : List Nat} (h1 : TgC K g1 x env env' u1) (h2 : TgC K g2 y env' env2 u2) : TgC K (gTup K 2 (gCons g1 (gCons g2 gNil))) (.tup [x, y]) env env2 (u1 ++ u2) := fun σ B v s r H e Q q => by
  simp only [Rp] at r
  obtain ⟨a, xs, rfl, h, hr⟩ := r
  obtain ⟨v, w, rfl, r1, r2⟩ := two_rp hr
  refine ⟨a, [v, w], rfl, st_of (e _ _ h), rfl, v, [w], rfl, h1 σ B v s r1 H e _ fun σ' s' l1 n1 => ⟨w, [], rfl, h2 σ' B w s' r2 H e _ fun σ2 s2 l2 n2 => ⟨rfl, q σ2 s2 (l2.trans l1) fun j hj => ?_⟩⟩⟩
  rw [n2 j fun z => hj (List.mem_append_right _ z), n1 j fun z => hj (List.mem_append_left _ z)]
theorem tc_tup3 {g1 g2 g3 : TG} {x y z : Da} {env3 : En} {u1 u2 u3 : List Nat} (h1 : TgC K g1 x env env' u1) (h2 : TgC K g2 y env' env2 u2) (h3 : TgC K g3 z env2 env3 u3) : TgC K (gTup K 3 (gCons g1 (gCons g2 (gCons g3 gNil)))) (.tup [x, y, z]) env env3 (u1 ++ u2 ++ u3) := fun σ B v s r H e Q q => by
  simp only [Rp] at r
  obtain ⟨a, xs, rfl, h, hr⟩ := r
  obtain ⟨v, r', rfl, r1, hr2⟩ := hr.uncons
  obtain ⟨w, u, rfl, r2, r3⟩ := two_rp hr2
  refine ⟨a, [v, w, u], rfl, st_of (e _ _ h), rfl, v, [w, u], rfl, h1 σ B v s r1 H e _ fun σ' s' l1 n1 => ⟨w, [u], rfl, h2 σ' B w s' r2 H e _ fun σ2 s2 l2 n2 => ⟨u, [], rfl, h3 σ2 B u s2 r3 H e _ fun σ3 s3 l3 n3 => ⟨rfl, q σ3 s3 (l3.trans (l2.trans l1)) fun j hj => ?_⟩⟩⟩⟩
  rw [n3 j fun z => hj (List.mem_append_right _ z), n2 j fun z => hj (List.mem_append_left _ (List.mem_append_right _ z)), n1 j fun z => hj (List.mem_append_left _ (List.mem_append_left _ z))]
theorem wipe_get (σ : L2.St) : ∀ (vs : List Nat) (j : Nat), (L2.wipe σ vs)[j]? = if j ∈ vs then (if j < σ.length then some none else none) else σ[j]?
  | [], j => by simp [L2.wipe]
  | v :: vs, j => by
    show ((L2.wipe σ vs).set v none)[j]? = _
    by_cases e : v = j
    · subst e
      rw [List.getElem?_set_self']
      simp only [List.mem_cons, true_or, if_true]
      by_cases hl : v < σ.length
      · have h2 : v < (L2.wipe σ vs).length := by rw [L2.wipe_length]; exact hl
        rw [List.getElem?_eq_getElem h2, if_pos hl]
        rfl
      · have h2 : ¬ v < (L2.wipe σ vs).length := by rw [L2.wipe_length]; exact hl
        rw [List.getElem?_eq_none (by omega), if_neg hl]
        rfl
    · rw [List.getElem?_set_ne e, wipe_get σ vs j]
      have e2 : (j ∈ v :: vs) = (j ∈ vs) := by
        simp only [List.mem_cons, eq_iff_iff, or_iff_right_iff_imp]
        intro z
        exact absurd z.symm e
      simp only [e2]
theorem wipe_eq {σ σ' : L2.St} {vs us : List Nat} (hl : σ'.length = (L2.wipe σ vs).length) (h : ∀ j, j ∉ us → σ'[j]? = (L2.wipe σ vs)[j]?) (hu : ∀ j ∈ us, j ∈ vs) : L2.wipe σ' vs = L2.wipe σ vs := by
  apply List.ext_getElem?
  intro j
  rw [wipe_get, wipe_get]
  rw [L2.wipe_length] at hl
  by_cases hj : j ∈ vs
  · rw [if_pos hj, if_pos hj, hl]
  · rw [if_neg hj, if_neg hj, h j fun z => hj (hu j z), wipe_get, if_neg hj]
variable {wi : TI} {g : TG} {tt : TT} {te : TE} {vs us : List Nat}
theorem en_lc {α : Type} (δ : α → Da) (p : α → Bool) (f : α → Da) (xs : List α) (hw : WkE K wi env (xs.map δ)) (hu : ∀ j ∈ us, j ∈ vs) (hz : xs.length ≤ 50000)
    (h : ∀ x ∈ xs, ∃ env', TgC K g (δ x) (wipeE env vs) env' us ∧ EvB K tt env' (p x) ∧ (p x = true → EvE K te env' (f x))) : EvN K (tLc wi g tt te vs) env ((xs.filter p).map f) := fun σ B s H1 e Q q =>
  hw σ B s H1 e _ fun J B' H2 G Y g0 w hG hY D hD => by
    rw [List.length_map] at w
    refine lc_it w (fun i H => ∃ Bi acc, Ex B' Bi ∧ Ex Bi H ∧ (∀ a, H2 a ≠ none → Bi a = B' a ∧ H a = H2 a) ∧ Bi D = none ∧ H D = some (.lst acc) ∧ RpAll K Bi (((xs.take i).filter p).map f) acc)
      ⟨B', [], Ex.refl _, g0.h.trans (Ex.new hD), fun a ha => ⟨rfl, upd_ne fun z => ha (by rw [z]; exact hD)⟩, fresh_back g0.h hD, upd_same, .nil⟩
      (fun i H _ hp => by
        obtain ⟨Bi, acc, e1, e2, _⟩ := hp
        exact hG H (e1.trans e2)) ?_ ?_
    · rintro i x H H' hi ⟨Bi, acc, e1, e2, old, bD, hDD, racc⟩ y
      obtain ⟨d, B2, hd, gy, rd⟩ := hY i H x H' Bi e1 e2 y
      rw [List.getElem?_map] at hd
      obtain ⟨x0, hx0, rfl⟩ : ∃ x0, xs[i]? = some x0 ∧ δ x0 = d := by
        cases hq : xs[i]? with
        | none =>
          rw [hq] at hd
          cases hd
        | some x0 =>
          rw [hq] at hd
          exact ⟨x0, rfl, Option.some.inj hd⟩
      obtain ⟨env', tg, tb, tv⟩ := h x0 (List.mem_of_getElem? hx0)
      have sw : SD K B2 (L2.wipe σ vs) (wipeE env vs) := (s.wipe vs).mono (((g0.b).trans e1).trans gy.b)
      refine tg _ B2 x sw rd H' gy.h _ fun σ2 s2 hl hn => ⟨wipe_eq hl hn hu, ?_⟩
      refine tb σ2 B2 s2 H' gy.h _ fun H3 e3 => ?_
      have hDn : H D ≠ none := by rw [hDD]; exact fun z => by cases z
      have b2D : B2 D = none := by rw [gy.n D hDn, bD]
      have h3D : H3 D = some (.lst acc) := e3 _ _ (gy.k _ _ hDD)
      have neD : ∀ a, H2 a ≠ none → a ≠ D := fun a ha z => ha (by rw [z]; exact hD)
      have hHn : ∀ a, H2 a ≠ none → H a ≠ none := fun a ha => by rw [(old a ha).2]; exact ha
      have exn : ∀ {Ha Hb : Hp} {a : Addr}, Ex Ha Hb → Ha a ≠ none → Hb a = Ha a := fun {Ha Hb a} ee ha => by
        cases hq : Ha a with
        | none => exact absurd hq ha
        | some o => exact ee a o hq
      have takeS : xs.take (i + 1) = xs.take i ++ [x0] := by
        rw [List.take_add_one, hx0]
        rfl
      cases hp : p x0 with
      | true =>
        show te σ2 H3 _
        refine tv hp σ2 B2 s2 H3 (gy.h.trans e3) _ fun v B3 H4 g4 r4 => ?_
        have h3n : ∀ a, H a ≠ none → H3 a ≠ none := fun a ha => by rw [exn (gy.k.trans e3) ha]; exact ha
        have b3D : B3 D = none := by rw [g4.n D (by rw [h3D]; exact fun z => by cases z), b2D]
        refine ⟨acc, g4.k _ _ h3D, sz_lt ?_, B3, acc ++ [v], (e1.trans gy.b).trans g4.b, Ex.mut g4.h b3D, fun a ha => ⟨?_, ?_⟩, b3D, upd_same, ?_⟩
        · have l1 := racc.len
          have l2 := List.length_filter_le p (xs.take i)
          rw [List.length_map] at l1
          rw [List.length_take] at l2
          omega
        · rw [g4.n a (h3n a (hHn a ha)), gy.n a (hHn a ha), (old a ha).1]
        · rw [upd_ne (neD a ha), exn g4.k (h3n a (hHn a ha)), exn (gy.k.trans e3) (hHn a ha), (old a ha).2]
        · rw [takeS, List.filter_append, List.map_append, show List.filter p [x0] = [x0] by simp [hp]]
          exact (RpAll.mono (gy.b.trans g4.b) _ _ racc).app (.cons r4 .nil)
      | false =>
        show ∃ Bi acc, _
        refine ⟨B2, acc, e1.trans gy.b, gy.h.trans e3, fun a ha => ⟨?_, ?_⟩, b2D, h3D, ?_⟩
        · rw [gy.n a (hHn a ha), (old a ha).1]
        · rw [exn (gy.k.trans e3) (hHn a ha), (old a ha).2]
        · rw [takeS, List.filter_append, show List.filter p [x0] = [] by simp [hp], List.append_nil]
          exact RpAll.mono gy.b _ _ racc
    · rintro H ⟨Bi, acc, e1, e2, old, bD, hDD, racc⟩
      rw [List.take_length] at racc
      refine q D acc Bi H (g0.trans ⟨e1, e2, fun a o ha => ?_, fun a ha => (old a ha).1⟩) (fresh_back g0.k hD) bD hDD racc
      rw [(old a (by rw [ha]; exact fun z => by cases z)).2]
      exact ha
end

/-! ### states -/
def OwL (K : PySem.W.Frag) (B H : Hp) : List (List Da) → List Addr → Prop
  | [], ls => ls = []
  | ds :: r, ls => ∃ l t xs, ls = l :: t ∧ H l = some (.lst xs) ∧ RpAll K B ds xs ∧ OwL K B H r t
def SlO (K : PySem.W.Frag) (B H : Hp) (o : Option (Option V)) (A : List Addr) : Sl → Prop
  | .no => True
  | .im d => ∃ v, o = some (some v) ∧ Rp K B d v
  | .mu ds => ∃ l xs, o = some (some (.ref l)) ∧ A = [l] ∧ H l = some (.lst xs) ∧ RpAll K B ds xs
  | .md kvs => ∃ l ws, o = some (some (.ref l)) ∧ A = [l] ∧ H l = some (.dK ws) ∧ KvR K B kvs ws
  | .ob C ns dss => ∃ a dx ls, o = some (some (.ref a)) ∧ A = a :: ls ∧ A.Nodup ∧ H a = some (.ins C dx (ns.zip (ls.map V.ref))) ∧ ls.length = ns.length ∧ OwL K B H dss ls
structure Sta (K : PySem.W.Frag) (B0 H0 B H : Hp) (σ : L2.St) (env : En) : Prop where
  eB : Ex B0 B
  eH : Ex B H
  old : ∀ a, H0 a ≠ none → B a = B0 a ∧ H a = H0 a
  len : env.length = σ.length
  own : ∃ ad : Nat → List Addr, (∀ i j x, x ∈ ad i → x ∈ ad j → i = j) ∧ (∀ i x, x ∈ ad i → H0 x = none ∧ B x = none ∧ H x ≠ none) ∧ ∀ i s, env[i]? = some s → SlO K B H (σ[i]?) (ad i) s
structure Ed where
  nx : En → Prop
  rd : Da → Prop
  rl : List Da → Prop
  ro : Addr → List Str → List (List Da) → Prop := fun _ _ _ => False
  bk : En → Prop := fun _ => False
  ct : En → Prop := fun _ => False
structure EndsOk (K : PySem.W.Frag) (B0 H0 Bs : Hp) (D : Ends) (E : Ed) : Prop where
  nx : ∀ σ B H env, Sta K B0 H0 B H σ env → Ex Bs B → E.nx env → D.nx σ H
  bk : ∀ σ B H env, Sta K B0 H0 B H σ env → Ex Bs B → E.bk env → D.bk σ H
  ct : ∀ σ B H env, Sta K B0 H0 B H σ env → Ex Bs B → E.ct env → D.ct σ H
  rd : ∀ v B H d, Gr B0 H0 B H → Rp K B d v → E.rd d → D.rt v H
  rl : ∀ l xs B H ds, Gr B0 H0 B H → H0 l = none → B l = none → H l = some (.lst xs) → RpAll K B ds xs → E.rl ds → D.rt (.ref l) H
  ro : ∀ a dx ls B H C ns dss, Gr B0 H0 B H → (a :: ls).Nodup → (∀ x ∈ a :: ls, H0 x = none ∧ B x = none) → H a = some (.ins C dx (ns.zip (ls.map V.ref))) → ls.length = ns.length → OwL K B H dss ls → E.ro C ns dss → D.rt (.ref a) H
def Run (K : PySem.W.Frag) (t : TS) (env : En) (E : Ed) : Prop := ∀ B0 H0 B H σ D Bs, Ex Bs B → Sta K B0 H0 B H σ env → EndsOk K B0 H0 Bs D E → t D σ H
section
variable {K : PySem.W.Frag} {B0 H0 B B' H H' H1 H2 : Hp} {σ : L2.St} {env env' : En}
theorem ex_ne {Ha Hb : Hp} {a : Addr} (ee : Ex Ha Hb) (ha : Ha a ≠ none) : Hb a = Ha a := by
  cases hq : Ha a with
  | none => exact absurd hq ha
  | some o => exact ee a o hq
theorem ex_nn {Ha Hb : Hp} {a : Addr} (ee : Ex Ha Hb) (ha : Ha a ≠ none) : Hb a ≠ none := by
  rw [ex_ne ee ha]
  exact ha
theorem OwL.up (eB : Ex B B') (eH : Ex H H') : ∀ {dss : List (List Da)} {ls : List Addr}, OwL K B H dss ls → OwL K B' H' dss ls
  | [], ls, h => h
  | ds :: r, ls, h => by
    obtain ⟨l, t, xs, h1, h2, h3, h4⟩ := h
    exact ⟨l, t, xs, h1, eH _ _ h2, RpAll.mono eB _ _ h3, h4.up eB eH⟩
theorem SlO.up (eB : Ex B B') (eH : Ex H H') {o : Option (Option V)} {A : List Addr} {s : Sl} (h : SlO K B H o A s) : SlO K B' H' o A s := by
  cases s with
  | no => trivial
  | im d =>
    obtain ⟨v, h1, h2⟩ := h
    exact ⟨v, h1, h2.mono eB⟩
  | mu ds =>
    obtain ⟨l, xs, h1, h2, h3, h4⟩ := h
    exact ⟨l, xs, h1, h2, eH _ _ h3, RpAll.mono eB _ _ h4⟩
  | md kvs =>
    obtain ⟨l, ws, h1, h2, h3, h4⟩ := h
    exact ⟨l, ws, h1, h2, eH _ _ h3, h4.mono eB⟩
  | ob C ns dss =>
    obtain ⟨a, dx, ls, h1, h2, h3, h4, h5, h6⟩ := h
    exact ⟨a, dx, ls, h1, h2, h3, eH _ _ h4, h5, h6.up eB eH⟩
theorem Sta.gr (s : Sta K B0 H0 B H σ env) : Gr B0 H0 B H := ⟨s.eB, s.eH, fun a o h => by rw [(s.old a (by rw [h]; exact fun z => by cases z)).2]; exact h, fun a h => (s.old a h).1⟩
/-- the heap and the base grow -/
theorem Sta.up (s : Sta K B0 H0 B H σ env) (g : Gr B H B' H') : Sta K B0 H0 B' H' σ env := by
  obtain ⟨ad, a1, a2, a3⟩ := s.own
  refine ⟨s.eB.trans g.b, g.h, fun a h => ?_, s.len, ad, a1, fun i x hx => ?_, fun i sl hs => (a3 i sl hs).up g.b g.k⟩
  · have hH : H a ≠ none := by rw [(s.old a h).2]; exact h
    exact ⟨by rw [g.n a hH, (s.old a h).1], by rw [ex_ne g.k hH, (s.old a h).2]⟩
  · obtain ⟨z1, z2, z3⟩ := a2 i x hx
    exact ⟨z1, by rw [g.n x z3, z2], ex_nn g.k z3⟩
theorem Sta.grow (s : Sta K B0 H0 B H σ env) (e : Ex H H') : Sta K B0 H0 B H' σ env := s.up (Gr.keep s.eH e)
/-- a slot bound anew: to data, or to what is new since H -/
theorem Sta.new (s : Sta K B0 H0 B H σ env) (g : Gr B H B' H') {i : Nat} {v : V} {sl : Sl} (A : List Addr) (hA : ∀ x ∈ A, H x = none ∧ B' x = none ∧ H' x ≠ none) (hs : SlO K B' H' (some (some v)) A sl) : Sta K B0 H0 B' H' (σ.set i (some v)) (env.set i sl) := by
  obtain ⟨ad, a1, a2, a3⟩ := s.own
  have h0 : ∀ x, H x = none → H0 x = none := fun x hx => by
    cases hq : H0 x with
    | none => rfl
    | some o =>
      have := (s.old x (by rw [hq]; exact fun z => by cases z)).2
      rw [hx, hq] at this
      cases this
  have s' := s.up g
  have hdis : ∀ k x, x ∈ A → x ∈ ad k → False := fun k x h1 h2 => (a2 k x h2).2.2 (hA x h1).1
  refine ⟨s'.eB, s'.eH, s'.old, by rw [List.length_set, List.length_set, s.len], fun k => if k = i then A else ad k, fun k j x hk hj => ?_, fun k x hk => ?_, fun k t ht => ?_⟩
  · by_cases e1 : k = i
    · by_cases e2 : j = i
      · rw [e1, e2]
      · simp only [if_pos e1] at hk
        simp only [if_neg e2] at hj
        exact (hdis j x hk hj).elim
    · simp only [if_neg e1] at hk
      by_cases e2 : j = i
      · simp only [if_pos e2] at hj
        exact (hdis k x hj hk).elim
      · simp only [if_neg e2] at hj
        exact a1 k j x hk hj
  · by_cases e1 : k = i
    · simp only [if_pos e1] at hk
      obtain ⟨z1, z2, z3⟩ := hA x hk
      exact ⟨h0 x z1, z2, z3⟩
    · simp only [if_neg e1] at hk
      obtain ⟨z1, z2, z3⟩ := a2 k x hk
      exact ⟨z1, by rw [g.n x z3, z2], ex_nn g.k z3⟩
  · by_cases e1 : i = k
    · subst e1
      rw [List.getElem?_set_self'] at ht
      cases hi : env[i]? with
      | none =>
        rw [hi] at ht
        cases ht
      | some t' =>
        rw [hi] at ht
        cases ht
        have hl : i < σ.length := by
          rw [← s.len]
          exact (List.getElem?_eq_some_iff.mp hi).1
        rw [List.getElem?_set_self hl]
        simp only [if_true]
        exact hs
    · rw [List.getElem?_set_ne e1] at ht ⊢
      have e2 : ¬ k = i := fun z => e1 z.symm
      simp only [if_neg e2]
      exact (a3 k t ht).up g.b g.k
theorem Sta.im (s : Sta K B0 H0 B H σ env) (g : Gr B H B' H') {i : Nat} {v : V} {d : Da} (r : Rp K B' d v) : Sta K B0 H0 B' H' (σ.set i (some v)) (env.set i (.im d)) :=
  s.new g [] (fun x h => by cases h) ⟨v, rfl, r⟩
theorem Sta.no (s : Sta K B0 H0 B H σ env) {i : Nat} {v : V} : Sta K B0 H0 B H (σ.set i (some v)) (env.set i .no) :=
  s.new (Gr.refl s.eH) [] (fun x h => by cases h) trivial
theorem Sta.mu (s : Sta K B0 H0 B H σ env) (g : Gr B H B' H') {i : Nat} {p : Addr} {xs : List V} {ds : List Da} (h1 : H p = none) (h2 : B' p = none) (h3 : H' p = some (.lst xs)) (r : RpAll K B' ds xs) : Sta K B0 H0 B' H' (σ.set i (some (.ref p))) (env.set i (.mu ds)) :=
  s.new g [p] (fun x h => by
    rw [List.mem_singleton] at h
    subst h
    exact ⟨h1, h2, by rw [h3]; exact fun z => by cases z⟩) ⟨p, xs, rfl, rfl, h3, r⟩
theorem Sta.md (s : Sta K B0 H0 B H σ env) (g : Gr B H B' H') {i : Nat} {p : Addr} {ws : List (Key × V)} {kvs : List (Int × Da)} (h1 : H p = none) (h2 : B' p = none) (h3 : H' p = some (.dK ws)) (r : KvR K B' kvs ws) : Sta K B0 H0 B' H' (σ.set i (some (.ref p))) (env.set i (.md kvs)) :=
  s.new g [p] (fun x h => by
    rw [List.mem_singleton] at h
    subst h
    exact ⟨h1, h2, by rw [h3]; exact fun z => by cases z⟩) ⟨p, ws, rfl, rfl, h3, r⟩
theorem OwL.same : ∀ {dss : List (List Da)} {ls : List Addr}, (∀ a ∈ ls, H' a = H a) → OwL K B H dss ls → OwL K B H' dss ls
  | [], ls, _, h => h
  | ds :: r, ls, e, h => by
    obtain ⟨l, t, xs, rfl, h2, h3, h4⟩ := h
    exact ⟨l, t, xs, rfl, by rw [e l List.mem_cons_self]; exact h2, h3, h4.same fun a ha => e a (List.mem_cons_of_mem _ ha)⟩
theorem SlO.same {o : Option (Option V)} {A : List Addr} {s : Sl} (e : ∀ a ∈ A, H' a = H a) (h : SlO K B H o A s) : SlO K B H' o A s := by
  cases s with
  | no => trivial
  | im d => exact h
  | mu ds =>
    obtain ⟨l, xs, h1, rfl, h3, h4⟩ := h
    exact ⟨l, xs, h1, rfl, by rw [e l List.mem_cons_self]; exact h3, h4⟩
  | md kvs =>
    obtain ⟨l, ws, h1, rfl, h3, h4⟩ := h
    exact ⟨l, ws, h1, rfl, by rw [e l List.mem_cons_self]; exact h3, h4⟩
  | ob C ns dss =>
    obtain ⟨a, dx, ls, h1, rfl, h3, h4, h5, h6⟩ := h
    exact ⟨a, dx, ls, h1, rfl, h3, by rw [e a List.mem_cons_self]; exact h4, h5, h6.same fun a ha => e a (List.mem_cons_of_mem _ ha)⟩
/-- an own thing written -/
theorem Sta.wr (s : Sta K B0 H0 B H σ env) {ad : Nat → List Addr} (a1 : ∀ i j x, x ∈ ad i → x ∈ ad j → i = j) (a2 : ∀ i x, x ∈ ad i → H0 x = none ∧ B x = none ∧ H x ≠ none) (a3 : ∀ i s, env[i]? = some s → SlO K B H (σ[i]?) (ad i) s)
    {i : Nat} {sl : Sl} (same : ∀ a, a ∉ ad i → H' a = H a) (nn : ∀ a ∈ ad i, H' a ≠ none) (hs : SlO K B H' (σ[i]?) (ad i) sl) : Sta K B0 H0 B H' σ (env.set i sl) := by
  refine ⟨s.eB, fun a o h => ?_, fun a h => ?_, by rw [List.length_set, s.len], ad, a1, fun k x hk => ?_, fun k t ht => ?_⟩
  · rw [same a fun z => by rw [(a2 i a z).2.1] at h; cases h]
    exact s.eH a o h
  · rw [same a fun z => h (a2 i a z).1]
    exact s.old a h
  · obtain ⟨z1, z2, z3⟩ := a2 k x hk
    refine ⟨z1, z2, ?_⟩
    by_cases q : x ∈ ad i
    · exact nn x q
    · rw [same x q]
      exact z3
  · by_cases e1 : i = k
    · subst e1
      rw [List.getElem?_set_self'] at ht
      cases hi : env[i]? with
      | none =>
        rw [hi] at ht
        cases ht
      | some t' =>
        rw [hi] at ht
        cases ht
        exact hs
    · rw [List.getElem?_set_ne e1] at ht
      exact (a3 k t ht).same fun a ha => same a fun z => e1 (a1 i k a z ha)
/-- the views -/
theorem OwL.rp : ∀ {dss : List (List Da)} {ls : List Addr}, Ex B H → OwL K B H dss ls → RpAll K H (dss.map Da.lst) (ls.map V.ref)
  | [], ls, _, h => by
    have e : ls = [] := h
    subst e
    exact .nil
  | ds :: r, ls, e, h => by
    obtain ⟨l, t, xs, rfl, h2, h3, h4⟩ := h
    rw [List.map_cons, List.map_cons]
    refine .cons ?_ (h4.rp e)
    simp only [Rp]
    exact ⟨l, xs, rfl, h2, RpAll.mono e _ _ h3⟩
theorem Sta.frz (s : Sta K B0 H0 B H σ env) : SD K H σ (frz env) := by
  obtain ⟨ad, a1, a2, a3⟩ := s.own
  refine ⟨by rw [List.length_map, s.len], fun i t ht => ?_⟩
  rw [List.getElem?_map] at ht
  cases hi : env[i]? with
  | none =>
    rw [hi] at ht
    cases ht
  | some t' =>
    rw [hi] at ht
    cases ht
    have h := a3 i t' hi
    cases t' with
    | no => trivial
    | im d =>
      obtain ⟨v, h1, h2⟩ := h
      exact ⟨v, h1, h2.mono s.eH⟩
    | mu ds =>
      obtain ⟨l, xs, h1, h2, h3, h4⟩ := h
      exact ⟨_, h1, by simp only [Rp]; exact ⟨l, xs, rfl, h3, RpAll.mono s.eH _ _ h4⟩⟩
    | md kvs =>
      obtain ⟨l, ws, h1, h2, h3, h4⟩ := h
      exact ⟨l, ws, h1, h3, h4.mono s.eH⟩
    | ob C ns dss =>
      obtain ⟨a, dx, ls, h1, h2, h3, h4, h5, h6⟩ := h
      exact ⟨_, h1, by simp only [Rp]; exact ⟨a, dx, ls.map V.ref, rfl, h4, by rw [List.length_map]; exact h5, h6.rp s.eH⟩⟩
theorem Sta.imm (s : Sta K B0 H0 B H σ env) : SD K B σ (imm env) := by
  obtain ⟨ad, a1, a2, a3⟩ := s.own
  refine ⟨by rw [List.length_map, s.len], fun i t ht => ?_⟩
  rw [List.getElem?_map] at ht
  cases hi : env[i]? with
  | none =>
    rw [hi] at ht
    cases ht
  | some t' =>
    rw [hi] at ht
    cases ht
    have h := a3 i t' hi
    cases t' with
    | im d => exact h
    | _ => trivial
end

/-! ### statements -/
section
variable {K : PySem.W.Frag} {env env' : En} {E : Ed} {t u tb : TS} {te ta : TE} {tt : TT} {d : Da} {ds : List Da} {i : Nat}
theorem run_seq (h : Run K t env { E with nx := fun e => Run K u e E }) : Run K (tSeq t u) env E := fun B0 H0 B H σ D Bs eb s k =>
  h B0 H0 B H σ { D with nx := u D } Bs eb s ⟨fun σ' B' H' e' s' eb' r => r B0 H0 B' H' σ' D Bs eb' s' k, k.bk, k.ct, k.rd, k.rl, k.ro⟩
theorem run_next (h : E.nx env) : Run K tNext env E := fun B0 H0 B H σ D Bs eb s k => k.nx σ B H env s eb h
theorem run_asg (h : EvE K te (imm env) d) (q : E.nx (env.set i (.im d))) : Run K (tAsg te (gName i)) env E := fun B0 H0 B H σ D Bs eb s k =>
  h σ B s.imm H s.eH _ fun v B' H' g r => k.nx _ B' H' _ (s.im g r) (eb.trans g.b) q
theorem run_asgF (h : EvE K te (frz env) d) (hs : isSc d = true) (q : E.nx (env.set i (.im d))) : Run K (tAsg te (gName i)) env E := fun B0 H0 B H σ D Bs eb s k =>
  h σ H s.frz H (Ex.refl _) _ fun v B' H' g r => k.nx _ B H' _ (s.im (Gr.keep s.eH g.k) (r.sc hs)) eb q
theorem run_asgN (h : EvN K te (imm env) ds) (q : E.nx (env.set i (.mu ds))) : Run K (tAsg te (gName i)) env E := fun B0 H0 B H σ D Bs eb s k =>
  h σ B s.imm H s.eH _ fun p xs B' H' g h1 h2 h3 r => k.nx _ B' H' _ (s.mu g h1 h2 h3 r) (eb.trans g.b) q
theorem run_asgNF (h : EvN K te (frz env) ds) (hs : ds.all isSc = true) (q : E.nx (env.set i (.mu ds))) : Run K (tAsg te (gName i)) env E := fun B0 H0 B H σ D Bs eb s k =>
  h σ H s.frz H (Ex.refl _) _ fun p xs B' H' g h1 h2 h3 r => k.nx _ B H' _ (s.mu (Gr.keep s.eH g.k) h1 (fresh_back s.eH h1) h3 (r.sc hs)) eb q
theorem run_asgD {kvs : List (Int × Da)} (h : EvD K te (imm env) kvs) (q : E.nx (env.set i (.md kvs))) : Run K (tAsg te (gName i)) env E := fun B0 H0 B H σ D Bs eb s k =>
  h σ B s.imm H s.eH _ fun p xs B' H' g h1 h2 h3 r => k.nx _ B' H' _ (s.md g h1 h2 h3 r) (eb.trans g.b) q
theorem run_par {j : Nat} {ta : TA} {d' : Da} (h : EvA K ta (imm env) [d, d']) (q : E.nx ((env.set i (.im d)).set j (.im d'))) : Run K (tPar i j ta) env E := fun B0 H0 B H σ D Bs eb s k =>
  h σ B s.imm H s.eH _ fun vs B' H' g r => by
    obtain ⟨v, w, rfl, r1, r2⟩ := two_rp r
    exact ⟨v, w, rfl, k.nx _ B' H' _ ((s.im g r1).im (Gr.refl g.h) r2) (eb.trans g.b) q⟩
theorem run_parF {j : Nat} {ta : TA} {d' : Da} (h : EvA K ta (frz env) [d, d']) (h1 : isSc d = true) (h2 : isSc d' = true) (q : E.nx ((env.set i (.im d)).set j (.im d'))) : Run K (tPar i j ta) env E := fun B0 H0 B H σ D Bs eb s k =>
  h σ H s.frz H (Ex.refl _) _ fun vs B' H' g r => by
    obtain ⟨v, w, rfl, r1, r2⟩ := two_rp r
    exact ⟨v, w, rfl, k.nx _ B H' _ ((s.im (Gr.keep s.eH g.k) (r1.sc h1)).im (Gr.refl (s.eH.trans g.k)) (r2.sc h2)) eb q⟩
theorem run_if {b : Bool} (h : EvB K tt (frz env) b) (h1 : b = true → Run K t env E) (h2 : b = false → Run K u env E) : Run K (tIfS tt t u) env E := fun B0 H0 B H σ D Bs eb s k =>
  h σ H s.frz H (Ex.refl _) _ fun H' e => by
    cases b with
    | true =>
      show t D σ H'
      exact h1 rfl B0 H0 B H' σ D Bs eb (s.grow e) k
    | false =>
      show u D σ H'
      exact h2 rfl B0 H0 B H' σ D Bs eb (s.grow e) k
theorem run_never (h : False) : Run K tNever env E := h.elim
theorem run_drop (h : EvE K te (frz env) d) (q : E.nx env) : Run K (tDrop te) env E := fun B0 H0 B H σ D Bs eb s k =>
  h σ H s.frz H (Ex.refl _) _ fun v B' H' g r => k.nx σ B H' env (s.grow g.k) eb q
theorem run_ret (h : EvE K te (imm env) d) (q : E.rd d) : Run K (tRet te) env E := fun B0 H0 B H σ D Bs eb s k =>
  h σ B s.imm H s.eH _ fun v B' H' g r => k.rd v B' H' d ((s.up g).gr) r q
theorem run_retF (h : EvE K te (frz env) d) (hs : isSc d = true) (q : E.rd d) : Run K (tRet te) env E := fun B0 H0 B H σ D Bs eb s k =>
  h σ H s.frz H (Ex.refl _) _ fun v B' H' g r => k.rd v B H' d ((s.grow g.k).gr) (r.sc hs) q
theorem h0_none {B0 H0 B H : Hp} {σ : L2.St} {x : Addr} (s : Sta K B0 H0 B H σ env) (hx : H x = none) : H0 x = none := by
  cases hq : H0 x with
  | none => rfl
  | some o =>
    have := (s.old x (by rw [hq]; exact fun z => by cases z)).2
    rw [hx, hq] at this
    cases this
theorem run_retN (h : EvN K te (imm env) ds) (q : E.rl ds) : Run K (tRet te) env E := fun B0 H0 B H σ D Bs eb s k =>
  h σ B s.imm H s.eH _ fun p xs B' H' g h1 h2 h3 r => k.rl p xs B' H' ds ((s.up g).gr) (h0_none s h1) h2 h3 r q
theorem run_retNF (h : EvN K te (frz env) ds) (hs : ds.all isSc = true) (q : E.rl ds) : Run K (tRet te) env E := fun B0 H0 B H σ D Bs eb s k =>
  h σ H s.frz H (Ex.refl _) _ fun p xs B' H' g h1 h2 h3 r => k.rl p xs B H' ds ((s.grow g.k).gr) (h0_none s h1) (fresh_back s.eH h1) h3 (r.sc hs) q
theorem run_retV (h : env[i]? = some (.mu ds)) (q : E.rl ds) : Run K (tRet (tVar i)) env E := fun B0 H0 B H σ D Bs eb s k => by
  obtain ⟨ad, a1, a2, a3⟩ := s.own
  obtain ⟨l, xs, h1, h2, h3, h4⟩ := a3 i _ h
  obtain ⟨z1, z2, z3⟩ := a2 i l (by rw [h2]; exact List.mem_cons_self)
  exact ⟨_, h1, k.rl l xs B H ds s.gr z1 z2 h3 h4 q⟩
theorem run_retNo (q : E.rd .non) : Run K tRetN env E := fun B0 H0 B H σ D Bs eb s k => k.rd .non B H .non s.gr (by simp only [Rp]) q
/-- an own list told as data from here on -/
theorem run_fix (h : env[i]? = some (.mu ds)) (q : Run K t (env.set i (.im (.lst ds))) E) : Run K t env E := fun B0 H0 B H σ D Bs eb s k => by
  obtain ⟨ad, a1, a2, a3⟩ := s.own
  obtain ⟨l, xs, h1, h2, h3, h4⟩ := a3 i _ h
  obtain ⟨z1, z2, z3⟩ := a2 i l (by rw [h2]; exact List.mem_cons_self)
  have eB : Ex B (upd B l (.lst xs)) := Ex.new z2
  refine q B0 H0 (upd B l (.lst xs)) H σ D Bs (eb.trans eB) ⟨s.eB.trans eB, fun a o ho => ?_, fun a ha => ⟨?_, (s.old a ha).2⟩, by rw [List.length_set, s.len], fun j => if j = i then [] else ad j, fun p j x hp hj => ?_, fun p x hp => ?_, fun p t ht => ?_⟩ k
  · by_cases e : a = l
    · subst e
      rw [upd_same] at ho
      rw [h3]
      exact ho
    · rw [upd_ne e] at ho
      exact s.eH a o ho
  · rw [upd_ne fun e => ha (by rw [e]; exact z1)]
    exact (s.old a ha).1
  · by_cases e1 : p = i
    · simp only [if_pos e1] at hp
      cases hp
    · by_cases e2 : j = i
      · simp only [if_pos e2] at hj
        cases hj
      · simp only [if_neg e1] at hp
        simp only [if_neg e2] at hj
        exact a1 p j x hp hj
  · by_cases e1 : p = i
    · simp only [if_pos e1] at hp
      cases hp
    · simp only [if_neg e1] at hp
      obtain ⟨w1, w2, w3⟩ := a2 p x hp
      refine ⟨w1, ?_, w3⟩
      rw [upd_ne fun e => e1 (a1 p i x hp (by rw [h2, e]; exact List.mem_cons_self))]
      exact w2
  · by_cases e1 : i = p
    · subst e1
      rw [List.getElem?_set_self', h] at ht
      cases ht
      exact ⟨_, h1, by simp only [Rp]; exact ⟨l, xs, rfl, upd_same, RpAll.mono eB _ _ h4⟩⟩
    · rw [List.getElem?_set_ne e1] at ht
      have e2 : ¬ p = i := fun z => e1 z.symm
      simp only [if_neg e2]
      exact (a3 p t ht).up eB (Ex.refl _)
/-- less told of a slot -/
theorem run_less (q : Run K t (env.set i .no) E) : Run K t env E := fun B0 H0 B H σ D Bs eb s k => by
  obtain ⟨ad, a1, a2, a3⟩ := s.own
  refine q B0 H0 B H σ D Bs eb ⟨s.eB, s.eH, s.old, by rw [List.length_set, s.len], ad, a1, a2, fun p t ht => ?_⟩ k
  by_cases e1 : i = p
  · subst e1
    rw [List.getElem?_set_self'] at ht
    cases hi : env[i]? with
    | none =>
      rw [hi] at ht
      cases ht
    | some t' =>
      rw [hi] at ht
      cases ht
      trivial
  · rw [List.getElem?_set_ne e1] at ht
    exact a3 p t ht
theorem run_aug {f : Int → Int → Int} {a b : Int} (hx : env[i]? = some (.im (.int a))) (h : EvE K te (frz env) (.int b)) (q : E.nx (env.set i (.im (.int (f a b))))) : Run K (tAug i te (ipI f)) env E := fun B0 H0 B H σ D Bs eb s k => by
  obtain ⟨v, h1, h2⟩ := s.imm.sl i (.im (.int a)) (by rw [List.getElem?_map, hx]; rfl)
  simp only [Rp] at h2
  subst h2
  refine ⟨.int a, h1, h σ H s.frz H (Ex.refl _) _ fun w B' H' g r => ?_⟩
  simp only [Rp] at r
  subst r
  exact ⟨a, b, rfl, rfl, k.nx _ B H' _ (s.im (Gr.keep s.eH g.k) (by simp only [Rp])) eb q⟩
/-- xs.append(e), xs one's own -/
theorem run_app (hx : env[i]? = some (.mu ds)) (h : EvE K te (imm env) d) (hz : ds.length < 100000) (q : E.nx (env.set i (.mu (ds ++ [d])))) : Run K (tDrop (tBM K "list" rAppend (tVar i) (tCons te tNil))) env E := fun B0 H0 B H σ D Bs eb s k => by
  obtain ⟨ad, a1, a2, a3⟩ := s.own
  obtain ⟨l, xs, h1, h2, h3, h4⟩ := a3 i _ hx
  refine ⟨_, h1, .inl ⟨rfl, xs, sq_of h3⟩, h σ B s.imm H s.eH _ fun v B' H' g r => ?_⟩
  have s' := s.up g
  have h3' := g.k _ _ h3
  have hA : ∀ i x, x ∈ ad i → H0 x = none ∧ B' x = none ∧ H' x ≠ none := fun i x hx => by
    obtain ⟨z1, z2, z3⟩ := a2 i x hx
    exact ⟨z1, by rw [g.n x z3, z2], ex_nn g.k z3⟩
  refine ⟨l, xs, v, rfl, rfl, h3', sz_lt (by rw [h4.len]; exact hz), k.nx σ B' _ _ (s'.wr (i := i) (sl := .mu (ds ++ [d])) (H' := upd H' l (.lst (xs ++ [v]))) a1 hA (fun j t ht => (a3 j t ht).up g.b g.k) (fun a ha => upd_ne fun e => ha (by rw [h2, e]; exact List.mem_cons_self)) (fun a ha => ?_) ⟨l, xs ++ [v], h1, h2, upd_same, ?_⟩) (eb.trans g.b) q⟩
  · rw [h2, List.mem_singleton] at ha
    subst ha
    rw [upd_same]
    exact fun z => by cases z
  · exact (RpAll.mono g.b _ _ h4).app (.cons r .nil)
theorem run_appF (hx : env[i]? = some (.mu ds)) (h : EvE K te (frz env) d) (hs : isSc d = true) (hz : ds.length < 100000) (q : E.nx (env.set i (.mu (ds ++ [d])))) : Run K (tDrop (tBM K "list" rAppend (tVar i) (tCons te tNil))) env E := fun B0 H0 B H σ D Bs eb s k => by
  obtain ⟨ad, a1, a2, a3⟩ := s.own
  obtain ⟨l, xs, h1, h2, h3, h4⟩ := a3 i _ hx
  refine ⟨_, h1, .inl ⟨rfl, xs, sq_of h3⟩, h σ H s.frz H (Ex.refl _) _ fun v B' H' g r => ?_⟩
  have s' := s.grow g.k
  have h3' := g.k _ _ h3
  have hA : ∀ i x, x ∈ ad i → H0 x = none ∧ B x = none ∧ H' x ≠ none := fun i x hx => by
    obtain ⟨z1, z2, z3⟩ := a2 i x hx
    exact ⟨z1, z2, ex_nn g.k z3⟩
  refine ⟨l, xs, v, rfl, rfl, h3', sz_lt (by rw [h4.len]; exact hz), k.nx σ B _ _ (s'.wr (i := i) (sl := .mu (ds ++ [d])) (H' := upd H' l (.lst (xs ++ [v]))) a1 hA (fun j t ht => (a3 j t ht).up (Ex.refl _) g.k) (fun a ha => upd_ne fun e => ha (by rw [h2, e]; exact List.mem_cons_self)) (fun a ha => ?_) ⟨l, xs ++ [v], h1, h2, upd_same, ?_⟩) eb q⟩
  · rw [h2, List.mem_singleton] at ha
    subst ha
    rw [upd_same]
    exact fun z => by cases z
  · exact h4.app (.cons (r.sc hs) .nil)
theorem run_while (I : Nat → En → Prop) (m0 : Nat) (h0 : I m0 env)
    (hs : ∀ m e, I m e → ∃ b, EvB K tt (frz e) b ∧ (b = true → Run K tb e { E with nx := fun e' => ∃ m', m' < m ∧ I m' e', ct := fun e' => ∃ m', m' < m ∧ I m' e', bk := E.nx }) ∧ (b = false → E.nx e)) : Run K (tWhile tt tb) env E := fun B0 H0 B H σ D Bs eb s k => by
  refine ⟨fun m σ' H' => ∃ e B', I m e ∧ Sta K B0 H0 B' H' σ' e ∧ Ex Bs B', ⟨m0, env, B, h0, s, eb⟩, ?_⟩
  rintro m σ' H' ⟨e, B', hi, s', eb'⟩
  obtain ⟨b, hb, h1, h2⟩ := hs m e hi
  refine hb σ' H' s'.frz H' (Ex.refl _) _ fun H2 e2 => ?_
  cases b with
  | true =>
    refine iteT ⟨fun σ2 H3 => ∃ m', m' < m ∧ ∃ e B', I m' e ∧ Sta K B0 H0 B' H3 σ2 e ∧ Ex Bs B', fun σ2 H3 h => h, ?_⟩
    have hn : ∀ σ2 B2 H3 e3, Sta K B0 H0 B2 H3 σ2 e3 → Ex Bs B2 → (∃ m', m' < m ∧ I m' e3) → ∃ m', m' < m ∧ ∃ e B', I m' e ∧ Sta K B0 H0 B' H3 σ2 e ∧ Ex Bs B' := fun σ2 B2 H3 e3 s3 eb3 ⟨m', hm, hI⟩ => ⟨m', hm, e3, B2, hI, s3, eb3⟩
    exact h1 rfl B0 H0 B' H2 σ' _ Bs eb' (s'.grow e2) ⟨hn, fun σ2 B2 H3 e3 s3 eb3 q => k.nx σ2 B2 H3 e3 s3 eb3 q, hn, k.rd, k.rl, k.ro⟩
  | false => exact iteF (k.nx σ' B' H2 e (s'.grow e2) eb' (h2 rfl))
def TgS (K : PySem.W.Frag) (g : TG) (d : Da) (env env' : En) : Prop := ∀ B0 H0 B H σ v, Sta K B0 H0 B H σ env → Rp K B d v → ∀ Q : L2.St → Hp → Prop, (∀ σ', Sta K B0 H0 B H σ' env' → Q σ' H) → g v σ H Q
theorem ts_name : TgS K (gName i) d env (env.set i (.im d)) := fun B0 H0 B H σ v s r Q q => q _ (s.im (Gr.refl s.eH) r)
theorem ts_tup2 {g1 g2 : TG} {x y : Da} {env2 : En} (h1 : TgS K g1 x env env') (h2 : TgS K g2 y env' env2) : TgS K (gTup K 2 (gCons g1 (gCons g2 gNil))) (.tup [x, y]) env env2 := fun B0 H0 B H σ v s r Q q => by
  simp only [Rp] at r
  obtain ⟨a, xs, rfl, h, hr⟩ := r
  obtain ⟨v, w, rfl, r1, r2⟩ := two_rp hr
  exact ⟨a, [v, w], rfl, st_of (s.eH _ _ h), rfl, v, [w], rfl, h1 B0 H0 B H σ v s r1 _ fun σ' s' => ⟨w, [], rfl, h2 B0 H0 B H σ' w s' r2 _ fun σ2 s2 => ⟨rfl, q σ2 s2⟩⟩⟩
theorem ts_tup3 {g1 g2 g3 : TG} {x y z : Da} {env2 env3 : En} (h1 : TgS K g1 x env env') (h2 : TgS K g2 y env' env2) (h3 : TgS K g3 z env2 env3) : TgS K (gTup K 3 (gCons g1 (gCons g2 (gCons g3 gNil)))) (.tup [x, y, z]) env env3 := fun B0 H0 B H σ v s r Q q => by
  simp only [Rp] at r
  obtain ⟨a, xs, rfl, h, hr⟩ := r
  obtain ⟨v, r', rfl, r1, hr2⟩ := hr.uncons
  obtain ⟨w, u, rfl, r2, r3⟩ := two_rp hr2
  exact ⟨a, [v, w, u], rfl, st_of (s.eH _ _ h), rfl, v, [w, u], rfl, h1 B0 H0 B H σ v s r1 _ fun σ' s' => ⟨w, [u], rfl, h2 B0 H0 B H σ' w s' r2 _ fun σ2 s2 => ⟨u, [], rfl, h3 B0 H0 B H σ2 u s2 r3 _ fun σ3 s3 => ⟨rfl, q σ3 s3⟩⟩⟩⟩
theorem run_asgT {g : TG} (h : EvE K te (imm env) d) (hg : TgS K g d env env') (q : E.nx env') : Run K (tAsg te g) env E := fun B0 H0 B H σ D Bs eb s k =>
  h σ B s.imm H s.eH _ fun v B' H' g' r => hg B0 H0 B' H' σ v (s.up g') r _ fun σ' s' => k.nx σ' B' H' env' s' (eb.trans g'.b) q
/-- a tuple of two scalars, made by a call that reads own lists -/
theorem run_asgTF {j : Nat} {x y : Da} (h : EvE K te (frz env) (.tup [x, y])) (hx : isSc x = true) (hy : isSc y = true) (q : E.nx ((env.set i (.im x)).set j (.im y))) : Run K (tAsg te (gTup K 2 (gCons (gName i) (gCons (gName j) gNil)))) env E := fun B0 H0 B H σ D Bs eb s k =>
  h σ H s.frz H (Ex.refl _) _ fun v B' H' g' r => by
    simp only [Rp] at r
    obtain ⟨a, xs, rfl, h, hr⟩ := r
    obtain ⟨v, w, rfl, r1, r2⟩ := two_rp hr
    exact ⟨a, [v, w], rfl, st_of (g'.h _ _ h), rfl, v, [w], rfl, w, [], rfl, rfl, k.nx _ B H' _ ((s.im (Gr.keep s.eH g'.k) (r1.sc hx)).im (Gr.refl (s.eH.trans g'.k)) (r2.sc hy)) eb q⟩
theorem run_for {wi : TI} {g : TG} (hw : WkE K wi (imm env) ds) (I : Nat → En → Prop) (h0 : I 0 env)
    (hs : ∀ n d e, ds[n]? = some d → I n e → ∃ e', TgS K g d e e' ∧ Run K tb e' { E with nx := I (n + 1), ct := I (n + 1), bk := E.nx }) (hd : ∀ e, I ds.length e → E.nx e) : Run K (tFor wi g tb) env E := fun B0 H0 B H σ D Bs eb s k =>
  hw σ B s.imm H s.eH _ fun J B' H2 G Y g0 w hG hY => by
    refine for_it w (fun n σ' H' => ∃ e Bi, I n e ∧ Sta K B0 H0 Bi H' σ' e ∧ Ex B' Bi) ⟨env, B', h0, s.up g0, Ex.refl _⟩ (fun n σ' H' _ ⟨e, Bi, _, s', eb'⟩ => hG H' (eb'.trans s'.eH)) ?_ ?_
    · rintro n x σ' H' H3 hn ⟨e, Bi, hi, s', eb'⟩ y
      obtain ⟨d, B3, hd', gy, rd⟩ := hY n H' x H3 Bi eb' s'.eH y
      obtain ⟨e', tg, rb⟩ := hs n d e hd' hi
      refine tg B0 H0 B3 H3 σ' x (s'.up gy) rd _ fun σ2 s2 => ?_
      exact rb B0 H0 B3 H3 σ2 _ B' (eb'.trans gy.b) s2 ⟨fun σ4 B4 H4 e4 s4 eb4 q => ⟨e4, B4, q, s4, eb4⟩, fun σ4 B4 H4 e4 s4 eb4 q => k.nx σ4 B4 H4 e4 s4 ((eb.trans g0.b).trans eb4) q, fun σ4 B4 H4 e4 s4 eb4 q => ⟨e4, B4, q, s4, eb4⟩, k.rd, k.rl, k.ro⟩
    · rintro σ' H' ⟨e, Bi, hi, s', eb'⟩
      exact k.nx σ' Bi H' e s' ((eb.trans g0.b).trans eb') (hd e hi)
theorem run_brk (q : E.bk env) : Run K tBreak env E := fun B0 H0 B H σ D Bs eb s k => k.bk σ B H env s eb q
theorem run_ct (q : E.ct env) : Run K tCont env E := fun B0 H0 B H σ D Bs eb s k => k.ct σ B H env s eb q
theorem Run.imp {E' : Ed} (h : Run K t env E') (h1 : ∀ e, E'.nx e → E.nx e) (h2 : ∀ d, E'.rd d → E.rd d) (h3 : ∀ d, E'.rl d → E.rl d) (h4 : ∀ C n d, E'.ro C n d → E.ro C n d) (h5 : ∀ e, E'.bk e → E.bk e) (h6 : ∀ e, E'.ct e → E.ct e) : Run K t env E := fun B0 H0 B H σ D Bs eb s k =>
  h B0 H0 B H σ D Bs eb s ⟨fun σ' B' H' e s' eb' q => k.nx σ' B' H' e s' eb' (h1 e q), fun σ' B' H' e s' eb' q => k.bk σ' B' H' e s' eb' (h5 e q), fun σ' B' H' e s' eb' q => k.ct σ' B' H' e s' eb' (h6 e q), fun v B' H' d g r q => k.rd v B' H' d g r (h2 d q), fun l xs B' H' ds g z1 z2 z3 z4 q => k.rl l xs B' H' ds g z1 z2 z3 z4 (h3 ds q), fun a dx ls B' H' C ns dss g z1 z2 z3 z4 z5 q => k.ro a dx ls B' H' C ns dss g z1 z2 z3 z4 z5 (h4 C ns dss q)⟩
end

/-! ### promises of defs over data -/
def FnP (K : PySem.W.Frag) (P : List Da → Da → Prop) : Sp := fun vs H Q _ => ∃ B ds d, Ex B H ∧ RpAll K B ds vs ∧ P ds d ∧ ∀ v B' H', Gr B H B' H' → Rp K B' d v → Q v H'
def FnL (K : PySem.W.Frag) (P : List Da → List Da → Prop) : Sp := fun vs H Q _ => ∃ B ds es, Ex B H ∧ RpAll K B ds vs ∧ P ds es ∧ ∀ p xs B' H', Gr B H B' H' → H p = none → B' p = none → H' p = some (.lst xs) → RpAll K B' es xs → Q (.ref p) H'
def FnO (K : PySem.W.Frag) (P : List Da → Addr → List Str → List (List Da) → Prop) : Sp := fun vs H Q _ => ∃ B ds C ns dss, Ex B H ∧ RpAll K B ds vs ∧ P ds C ns dss ∧
  ∀ a dx ls B' H', Gr B H B' H' → (a :: ls).Nodup → (∀ x ∈ a :: ls, H x = none ∧ B' x = none) → H' a = some (.ins C dx (ns.zip (ls.map V.ref))) → ls.length = ns.length → OwL K B' H' dss ls → Q (.ref a) H'
section
variable {K : PySem.W.Frag} {env : En} {ta : TA} {ds es : List Da} {d : Da}
theorem ev_call {P : List Da → Da → Prop} {E : XK} (h : EvA K ta env ds) (hp : P ds d) : EvE K (tCall (FnP K P) [] E ta) env d := fun σ B s H1 e Q q =>
  h σ B s H1 e _ fun vs B2 H2 g r => by
    refine ⟨B2, ds, d, g.h, by rw [List.append_nil]; exact r, hp, fun v B' H' g' r' => q v B' H' (g.trans g') r'⟩
theorem en_call {P : List Da → List Da → Prop} {E : XK} (h : EvA K ta env ds) (hp : P ds es) : EvN K (tCall (FnL K P) [] E ta) env es := fun σ B s H1 e Q q =>
  h σ B s H1 e _ fun vs B2 H2 g r => by
    refine ⟨B2, ds, es, g.h, by rw [List.append_nil]; exact r, hp, fun p xs B' H' g' h1 h2 h3 r' => q p xs B' H' (g.trans g') (fresh_back g.k h1) h2 h3 r'⟩
/-- the slots at a def's entry -/
def ent (ds : List Da) (n : Nat) : En := ds.map Sl.im ++ List.replicate n .no
theorem sta_ent {B H : Hp} {vs : List V} {n : Nat} (e : Ex B H) (r : RpAll K B ds vs) : Sta K B H B H (vs.map some ++ List.replicate n none) (ent ds n) := by
  refine ⟨Ex.refl _, e, fun a _ => ⟨rfl, rfl⟩, by unfold ent; simp [r.len], fun _ => [], fun i j x h => (List.not_mem_nil h).elim, fun i x h => (List.not_mem_nil h).elim, fun i s hs => ?_⟩
  unfold ent at hs
  by_cases hi : i < ds.length
  · rw [List.getElem?_append_left (by simpa using hi), List.getElem?_map] at hs
    cases hd : ds[i]? with
    | none =>
      rw [hd] at hs
      cases hs
    | some d =>
      rw [hd] at hs
      cases hs
      obtain ⟨v, hv, rv⟩ := r.get hd
      refine ⟨v, ?_, rv⟩
      rw [List.getElem?_append_left (by rw [List.length_map, r.len]; exact hi), List.getElem?_map, hv]
      rfl
  · rw [List.getElem?_append_right (by simpa using Nat.le_of_not_lt hi)] at hs
    rw [List.getElem?_replicate] at hs
    split at hs
    · cases hs
      trivial
    · cases hs
def retD (d : Da) : Ed := { nx := fun _ => d = .non, rd := fun x => x = d, rl := fun xs => d = .lst xs }
def retL (es : List Da) : Ed := { nx := fun _ => False, rd := fun _ => False, rl := fun xs => xs = es }
theorem start_eq {N : List Str} {vs : List V} : start N vs = vs.map some ++ List.replicate (N.length - vs.length) none := rfl
theorem fnP_of {P : List Da → Da → Prop} {t : TS} {N : List Str} (n : Nat) (hn : ∀ ds d, P ds d → N.length - ds.length = n) (h : ∀ ds d, P ds d → Run K t (ent ds n) (retD d)) {vs : List V} {H : Hp} {Q : VK} {E : XK} (hp : FnP K P vs H Q E) :
    t { nx := fun _ H' => Q .non H', rt := Q } (start N vs) H := by
  obtain ⟨B, ds, d, e, r, p, q⟩ := hp
  have s := sta_ent (n := n) e r
  have hl : N.length - vs.length = n := by rw [r.len]; exact hn ds d p
  rw [start_eq, hl]
  refine h ds d p B H B H _ _ B (Ex.refl _) s ⟨fun σ B' H' env s' _ z => ?_, fun _ _ _ _ _ _ z => z.elim, fun _ _ _ _ _ _ z => z.elim, fun v B' H' d' g r' z => ?_, fun l xs B' H' es g h1 h2 h3 h4 z => ?_, fun _ _ _ _ _ _ _ _ _ _ _ _ _ _ z => z.elim⟩
  · have z' : d = .non := z
    subst z'
    exact q .non B' H' s'.gr (by simp only [Rp])
  · have z' : d' = d := z
    subst z'
    exact q v B' H' g r'
  · have z' : d = .lst es := z
    subst z'
    have eB : Ex B' (upd B' l (.lst xs)) := Ex.new h2
    refine q (.ref l) (upd B' l (.lst xs)) H' ⟨g.b.trans eB, fun a o ho => ?_, g.k, fun a ha => ?_⟩ ?_
    · by_cases e : a = l
      · subst e
        rw [upd_same] at ho
        rw [h3]
        exact ho
      · rw [upd_ne e] at ho
        exact g.h a o ho
    · rw [upd_ne fun e => ha (by rw [e]; exact h1)]
      exact g.n a ha
    · simp only [Rp]
      exact ⟨l, xs, rfl, upd_same, RpAll.mono eB _ _ h4⟩
theorem fnL_of {P : List Da → List Da → Prop} {t : TS} {N : List Str} (n : Nat) (hn : ∀ ds d, P ds d → N.length - ds.length = n) (h : ∀ ds d, P ds d → Run K t (ent ds n) (retL d)) {vs : List V} {H : Hp} {Q : VK} {E : XK} (hp : FnL K P vs H Q E) :
    t { nx := fun _ H' => Q .non H', rt := Q } (start N vs) H := by
  obtain ⟨B, ds, d, e, r, p, q⟩ := hp
  have s := sta_ent (n := n) e r
  have hl : N.length - vs.length = n := by rw [r.len]; exact hn ds d p
  rw [start_eq, hl]
  refine h ds d p B H B H _ _ B (Ex.refl _) s ⟨fun σ B' H' env s' _ z => z.elim, fun _ _ _ _ _ _ z => z.elim, fun _ _ _ _ _ _ z => z.elim, fun v B' H' d' g r' z => z.elim, fun l xs B' H' es g h1 h2 h3 h4 z => ?_, fun _ _ _ _ _ _ _ _ _ _ _ _ _ _ z => z.elim⟩
  have z' : es = d := z
  subst z'
  exact q l xs B' H' g h1 h2 h3 h4
theorem len_P {P : List Da → Da → Prop} {m : Nat} (hm : ∀ ds d, P ds d → ds.length = m) {vs : List V} {H : Hp} {Q : VK} {E : XK} (hp : FnP K P vs H Q E) : vs.length = m := by
  obtain ⟨B, ds, d, e, r, p, q⟩ := hp
  rw [r.len]
  exact hm ds d p
theorem len_L {P : List Da → List Da → Prop} {m : Nat} (hm : ∀ ds d, P ds d → ds.length = m) {vs : List V} {H : Hp} {Q : VK} {E : XK} (hp : FnL K P vs H Q E) : vs.length = m := by
  obtain ⟨B, ds, d, e, r, p, q⟩ := hp
  rw [r.len]
  exact hm ds d p
end
end FR

/-! Calls in short; equality of data; dicts; sets; chains of three. -/
namespace FR
open PySem L2 Evl
open PySem.Spec PyProof.Rows

/-! ### defs, methods, classes that stand behind the top -/
structure Cal (P : Program) (w : World) (K : PySem.W.Frag) (mg : Str → Option Value) (base : Heap) (CX : CXT) (k : Nat) (x : Str) (ps : List Str) (sp : Sp) : Prop where
  ex : ∃ f fd, FnOk P w K mg base CX k f fd ps sp ∧ mg x = some (.ref f) ∧ PySem.W.keepIn K (.ref f) = true ∧ Binds K fd ps []
structure CalM (P : Program) (w : World) (K : PySem.W.Frag) (mg : Str → Option Value) (base : Heap) (CX : CXT) (k : Nat) (C : Addr) (m : Str) (ps : List Str) (sp : Sp) : Prop where
  ex : ∃ f fd, FnOk P w K mg base CX k f fd ps sp ∧ Meth K C m f ∧ Binds K fd ps []
structure CalI (P : Program) (w : World) (K : PySem.W.Frag) (mg : Str → Option Value) (base : Heap) (CX : CXT) (k : Nat) (C : Addr) (ps : List Str) (sp : Sp) : Prop where
  ex : ∃ f fd, FnOk P w K mg base CX k f fd ps sp ∧ Mk K C f ∧ Binds K fd ps []
section
variable {X : Cx} {k : Nat} {x : Str} {ps : List Str} {sp : Sp} {CX : CXT} {E : XK} {e o : Expr} {es : List Expr} {t : TA} {to : TE} {p pos apos : Pos} {C : Addr} {m : Str}
theorem pe_cal (g : Cal X.prog X.w X.K X.mg X.base CX k x ps sp) (hr : Room k X.A) (hg : Gl X x) (hx : Passes CX X E) (ha : PA X (e :: es) t)
    (hdb : (x == ("__debug__" : Str)) = false := by decide) (he : starEach (e :: es) X.env = (false, eval e X.env) :: starEach es X.env := by rfl) (hpl : (backTo pos (starEach es X.env)).any (·.1) = false := by rfl) :
    PE X (.Call (.Name x p) (e :: es) [] pos) (tCall sp [] E t) := by
  obtain ⟨f, fd, F, hm, hk, hb⟩ := g.ex
  exact pe_call F hr hg hm hk hb .nil hx ha hdb he hpl
theorem pe_cal0 (g : Cal X.prog X.w X.K X.mg X.base CX k x ps sp) (hr : Room k X.A) (hg : Gl X x) (hx : Passes CX X E) (hdb : (x == ("__debug__" : Str)) = false := by decide) :
    PE X (.Call (.Name x p) [] [] pos) (tCall sp [] E tNil) := by
  obtain ⟨f, fd, F, hm, hk, hb⟩ := g.ex
  exact pe_call0 F hr hg hm hk hb .nil hx hdb
theorem pe_met {pl : Sem Bool} (he : PE X o to) (c : Cls X.K C) (g : CalM X.prog X.w X.K X.mg X.base CX k C m ps sp) (hr : Room k X.A) (hx : Passes CX X E) (ha : PA X (e :: es) t)
    (hst : starEach (e :: es) X.env = (false, eval e X.env) :: starEach es X.env := by rfl) (hpl : (backTo pos (starEach es X.env)).any (·.1) = false := by rfl)
    (ht : eval (.Call (.Attribute o m apos) (e :: es) [] pos) X.env = (do
      let ov ← eval o X.env
      standAt apos.atName
      let (f, first) ← holding [ov] (getMethod ov m pl)
      callWith pos f first (backTo pos (starEach (e :: es) X.env)) (backToKw pos (keywordEach [] X.env))) := by rfl) :
    PE X (.Call (.Attribute o m apos) (e :: es) [] pos) (tMeth C m sp [] E to t) := by
  obtain ⟨f, fd, F, hm, hb⟩ := g.ex
  exact pe_meth he c hm F hr hb .nil hx ha hst hpl ht
theorem pe_mak (g : CalI X.prog X.w X.K X.mg X.base CX k C ps sp) (hm : X.mg x = some (.ref C)) (hr : Room (k + 1) X.A) (hg : Gl X x) (hx : Passes CX X E) (ha : PA X (e :: es) t)
    (hdb : (x == ("__debug__" : Str)) = false := by decide) (he : starEach (e :: es) X.env = (false, eval e X.env) :: starEach es X.env := by rfl) (hpl : (backTo pos (starEach es X.env)).any (·.1) = false := by rfl) :
    PE X (.Call (.Name x p) (e :: es) [] pos) (tMake C sp [] E t) := by
  obtain ⟨f, fd, F, M, hb⟩ := g.ex
  exact pe_make M F hr hg hm hb .nil hx ha hdb he hpl
end

/-! ### data as the library's -/
mutual
def py : Da → PyData
  | .bl b => .bool b
  | .int i => .int i
  | .str s => .str s
  | .lst ds => .list (pyAll ds)
  | .sq ds => .list (pyAll ds)
  | .tup ds => .tuple (pyAll ds)
  | _ => .none
def pyAll : List Da → List PyData
  | [] => []
  | d :: ds => py d :: pyAll ds
end
mutual
def isPy : Da → Bool
  | .ty _ | .cls _ | .obj _ _ _ => false
  | .lst ds => isPyAll ds
  | .sq ds => isPyAll ds
  | .tup ds => isPyAll ds
  | _ => true
def isPyAll : List Da → Bool
  | [] => true
  | d :: ds => isPy d && isPyAll ds
end
section
variable {K : PySem.W.Frag} {B H : Hp}
mutual
theorem dp_of (e : Ex B H) : ∀ (d : Da) (v : V), isPy d = true → Rp K B d v → Dp K H v (py d)
  | .non, v, _, h => by
    simp only [Rp] at h
    subst h
    simp only [py]
    exact .non
  | .bl b, v, _, h => by
    simp only [Rp] at h
    subst h
    simp only [py]
    exact .bl b
  | .int i, v, _, h => by
    simp only [Rp] at h
    subst h
    simp only [py]
    exact .int i
  | .str s, v, _, h => by
    simp only [Rp] at h
    subst h
    simp only [py]
    exact .str s
  | .ty n, v, p, h => by simp [isPy] at p
  | .cls C, v, p, h => by simp [isPy] at p
  | .lst ds, v, p, h => by
    simp only [Rp] at h
    obtain ⟨a, xs, rfl, h2, h3⟩ := h
    simp only [py]
    exact .lst (sq_of (e _ _ h2)) (dpAll_of e ds xs (by simpa only [isPy] using p) h3)
  | .sq ds, v, p, h => by
    simp only [Rp] at h
    obtain ⟨a, xs, rfl, h2, h3⟩ := h
    simp only [py]
    exact .lst (ex_l e h2) (dpAll_of e ds xs (by simpa only [isPy] using p) h3)
  | .tup ds, v, p, h => by
    simp only [Rp] at h
    obtain ⟨a, xs, rfl, h2, h3⟩ := h
    simp only [py]
    exact .tup (st_of (e _ _ h2)) (dpAll_of e ds xs (by simpa only [isPy] using p) h3)
  | .obj C ns ds, v, p, h => by simp [isPy] at p
theorem dpAll_of (e : Ex B H) : ∀ (ds : List Da) (vs : List V), isPyAll ds = true → RpAll K B ds vs → DpAll K H vs (pyAll ds)
  | [], vs, _, h => by
    have q : vs = [] := by simpa only [RpAll] using h
    subst q
    simp only [pyAll]
    exact .nil
  | d :: ds, vs, p, h => by
    obtain ⟨v, r, rfl, h2, h3⟩ := h.uncons
    simp only [isPyAll, Bool.and_eq_true] at p
    simp only [pyAll]
    exact .cons (dp_of e d v p.1 h2) (dpAll_of e ds r p.2 h3)
end
variable {env : En} {te ta tb tc td : TE} {d x y : Da} {ds es : List Da} {i j : Int}
theorem ev_eqD {b : Bool} (ha : EvE K ta env x) (hb : EvE K tb env y) (hx : isPy x = true ∧ SeqAt.shaped (py x) = true) (hy : isPy y = true ∧ SeqAt.shaped (py y) = true) (e : PyData.eqv (py x) (py y) = b) : EvE K (tOp (rEqD K) ta tb) env (.bl b) :=
  ev_op ha hb fun B H v w eh r1 r2 Q q => ⟨py x, py y, dp_of eh x v hx.1 r1, dp_of eh y w hy.1 r2, hx.2, hy.2, q _ B H (Gr.refl eh) (by simp only [Rp, e])⟩
theorem ev_neD {b : Bool} (ha : EvE K ta env x) (hb : EvE K tb env y) (hx : isPy x = true ∧ SeqAt.shaped (py x) = true) (hy : isPy y = true ∧ SeqAt.shaped (py y) = true) (e : PyData.eqv (py x) (py y) = b) : EvE K (tOp (rNeD K) ta tb) env (.bl (!b)) :=
  ev_op ha hb fun B H v w eh r1 r2 Q q => ⟨py x, py y, dp_of eh x v hx.1 r1, dp_of eh y w hy.1 r2, hx.2, hy.2, q _ B H (Gr.refl eh) (by simp only [Rp, e])⟩
end
/-! ints, truths, pairs, their lists -/
theorem beqd {α : Type} [DecidableEq α] (a b : α) : (a == b) = decide (a = b) := by
  by_cases h : a = b <;> simp [h]
theorem pyAll_map {α : Type} (f : α → Da) : ∀ xs : List α, pyAll (xs.map f) = xs.map fun x => py (f x)
  | [] => by simp [pyAll]
  | x :: xs => by simp [pyAll, pyAll_map f xs]
theorem isPyAll_map {α : Type} {f : α → Da} : ∀ {xs : List α}, (∀ x ∈ xs, isPy (f x) = true) → isPyAll (xs.map f) = true
  | [], _ => by simp [isPyAll]
  | x :: xs, h => by
    simp only [List.map_cons, isPyAll, Bool.and_eq_true]
    exact ⟨h x List.mem_cons_self, isPyAll_map fun y hy => h y (List.mem_cons_of_mem _ hy)⟩
theorem canAll {α : Type} {f : α → PyData} : ∀ {xs : List α}, (∀ x, (f x).canLay0 = true) → PyData.canLayAll0 (xs.map f) = true
  | [], _ => by simp [PyData.canLayAll0]
  | x :: xs, h => by simp [PyData.canLayAll0, h x, canAll h]
theorem depAll {α : Type} {f : α → PyData} {n : Nat} : ∀ {xs : List α}, (∀ x, (f x).depth ≤ n) → PyData.depthAll (xs.map f) ≤ n
  | [], _ => by simp [PyData.depthAll]
  | x :: xs, h => by
    have h1 := h x
    have h2 := depAll (xs := xs) h
    simp only [List.map_cons, PyData.depthAll]
    omega
theorem eqvAll_map {α : Type} [DecidableEq α] {f : α → PyData} (h : ∀ x y, PyData.eqv (f x) (f y) = decide (x = y)) : ∀ xs ys : List α, PyData.eqvAll (xs.map f) (ys.map f) = decide (xs = ys)
  | [], [] => by simp [PyData.eqvAll]
  | [], y :: ys => by simp [PyData.eqvAll]
  | x :: xs, [] => by simp [PyData.eqvAll]
  | x :: xs, y :: ys => by
    simp only [List.map_cons, PyData.eqvAll, h, eqvAll_map h xs ys]
    by_cases e1 : x = y <;> by_cases e2 : xs = ys <;> simp [e1, e2]
/-- a pair of ints -/
def prD (p : Int × Int) : Da := .tup [.int p.1, .int p.2]
abbrev rowL (row : List (Int × Int)) : List Da := row.map prD
abbrev rowD (row : List (Int × Int)) : Da := .lst (rowL row)
abbrev intL (ns : List Int) : List Da := ns.map Da.int
abbrev intsD (ns : List Int) : Da := .lst (intL ns)
abbrev blL (ns : List Bool) : List Da := ns.map Da.bl
theorem okInts (ns : List Int) : isPy (intsD ns) = true ∧ SeqAt.shaped (py (intsD ns)) = true := by
  refine ⟨?_, ?_⟩
  · simp only [intsD, isPy]
    exact isPyAll_map fun x _ => by simp [isPy]
  · simp only [intsD, py, pyAll_map, SeqAt.shaped, PyData.canLay0, PyData.depth, Bool.and_eq_true, decide_eq_true_eq]
    exact ⟨canAll fun x => by simp [PyData.canLay0], by have := depAll (f := fun i : Int => PyData.int i) (n := 0) (xs := ns) (fun x => by simp [PyData.depth]); omega⟩
theorem okBls (ns : List Bool) : isPy (.lst (blL ns)) = true ∧ SeqAt.shaped (py (.lst (blL ns))) = true := by
  refine ⟨?_, ?_⟩
  · simp only [isPy]
    exact isPyAll_map fun x _ => by simp [isPy]
  · simp only [py, pyAll_map, SeqAt.shaped, PyData.canLay0, PyData.depth, Bool.and_eq_true, decide_eq_true_eq]
    exact ⟨canAll fun x => by simp [PyData.canLay0], by have := depAll (f := fun i : Bool => PyData.bool i) (n := 0) (xs := ns) (fun x => by simp [PyData.depth]); omega⟩
theorem py_prD (p : Int × Int) : py (prD p) = .tuple [.int p.1, .int p.2] := by simp [prD, py, pyAll]
theorem okRow (row : List (Int × Int)) : isPy (rowD row) = true ∧ SeqAt.shaped (py (rowD row)) = true := by
  refine ⟨?_, ?_⟩
  · simp only [rowD, isPy]
    exact isPyAll_map fun x _ => by simp [prD, isPy, isPyAll]
  · simp only [rowD, py, pyAll_map, py_prD, SeqAt.shaped, PyData.canLay0, PyData.depth, Bool.and_eq_true, decide_eq_true_eq]
    exact ⟨canAll fun x => by simp [PyData.canLay0, PyData.canLayAll0], by have := depAll (f := fun p : Int × Int => PyData.tuple [.int p.1, .int p.2]) (n := 1) (xs := row) (fun x => by simp [PyData.depth, PyData.depthAll]); omega⟩
theorem eqv_ints (ns ms : List Int) : PyData.eqv (py (intsD ns)) (py (intsD ms)) = decide (ns = ms) := by
  simp only [intsD, py, pyAll_map, PyData.eqv]
  exact eqvAll_map (fun x y => by simp [PyData.eqv, beqd]) ns ms
theorem eqv_bls (ns ms : List Bool) : PyData.eqv (py (.lst (blL ns))) (py (.lst (blL ms))) = decide (ns = ms) := by
  simp only [py, pyAll_map, PyData.eqv]
  exact eqvAll_map (fun x y => by simp [PyData.eqv, beqd]) ns ms
theorem eqv_row (ns ms : List (Int × Int)) : PyData.eqv (py (rowD ns)) (py (rowD ms)) = decide (ns = ms) := by
  simp only [rowD, py, pyAll_map, py_prD, PyData.eqv]
  refine eqvAll_map (f := fun p : Int × Int => PyData.tuple [.int p.1, .int p.2]) (fun x y => ?_) ns ms
  simp only [PyData.eqv, PyData.eqvAll, Bool.and_true, beqd]
  obtain ⟨a, b⟩ := x
  obtain ⟨c, d⟩ := y
  simp
section
variable {K : PySem.W.Frag} {env : En} {te ta tb tc td : TE} {d x y : Da} {i j : Int}
theorem ev_eqInts {ns ms : List Int} (ha : EvE K ta env (intsD ns)) (hb : EvE K tb env (intsD ms)) : EvE K (tOp (rEqD K) ta tb) env (.bl (decide (ns = ms))) := ev_eqD ha hb (okInts ns) (okInts ms) (eqv_ints ns ms)
theorem ev_neInts {ns ms : List Int} (ha : EvE K ta env (intsD ns)) (hb : EvE K tb env (intsD ms)) : EvE K (tOp (rNeD K) ta tb) env (.bl (!decide (ns = ms))) := ev_neD ha hb (okInts ns) (okInts ms) (eqv_ints ns ms)
theorem ev_eqRow {ns ms : List (Int × Int)} (ha : EvE K ta env (rowD ns)) (hb : EvE K tb env (rowD ms)) : EvE K (tOp (rEqD K) ta tb) env (.bl (decide (ns = ms))) := ev_eqD ha hb (okRow ns) (okRow ms) (eqv_row ns ms)
theorem ev_neRow {ns ms : List (Int × Int)} (ha : EvE K ta env (rowD ns)) (hb : EvE K tb env (rowD ms)) : EvE K (tOp (rNeD K) ta tb) env (.bl (!decide (ns = ms))) := ev_neD ha hb (okRow ns) (okRow ms) (eqv_row ns ms)
end

/-! ### dicts of one's own with int keys -/
section
variable {K : PySem.W.Frag} {B H : Hp} {env : En} {te ta tb tc td tv : TE} {d x y : Da} {i j : Int} {kvs : List (Int × Da)} {ws : List (Key × V)}
theorem KvR.val : ∀ {kvs : List (Int × Da)} {ws : List (Key × V)} (j : Int), KvR K B kvs ws → (match valD kvs j with | none => valV ws (Sum.inl j : Key) = none | some d => ∃ v, valV ws (Sum.inl j : Key) = some v ∧ Rp K B d v)
  | [], ws, j, h => by
    have e : ws = [] := h
    subst e
    simp only [valD]
    exact valV_nil
  | (k, d) :: r, ws, j, h => by
    obtain ⟨v, t, rfl, h2, h3⟩ := h
    simp only [valD]
    by_cases e : k = j
    · rw [if_pos e]
      subst e
      exact ⟨v, valV_pos rfl, h2⟩
    · rw [if_neg e]
      have e2 : ¬ ((Sum.inl k : Key) = Sum.inl j) := fun z => e (Sum.inl.inj z)
      rw [valV_neg (p := ((Sum.inl k : Key), v)) e2]
      exact KvR.val j h3
theorem kvr_any : ∀ {kvs : List (Int × Da)} {ws : List (Key × V)} (j : Int), KvR K B kvs ws → (ws.any fun kv => decide (kv.1 = (Sum.inl j : Key))) = kvs.any fun kv => decide (kv.1 = j)
  | [], ws, j, h => by
    have e : ws = [] := h
    subst e
    rfl
  | (k, d) :: r, ws, j, h => by
    obtain ⟨v, t, rfl, h2, h3⟩ := h
    rw [List.any_cons, List.any_cons, kvr_any j h3]
    congr 1
    by_cases e : k = j
    · subst e
      simp
    · have e2 : ¬ ((Sum.inl k : Key) = Sum.inl j) := fun z => e (Sum.inl.inj z)
      simp [e, e2]
theorem kvr_map : ∀ {kvs : List (Int × Da)} {ws : List (Key × V)} (j : Int) {d : Da} {v : V}, KvR K B kvs ws → Rp K B d v → KvR K B (kvs.map fun kv => if kv.1 = j then (kv.1, d) else kv) (ws.map fun kv => if kv.1 = (Sum.inl j : Key) then (kv.1, v) else kv)
  | [], ws, j, d, v, h, r => by
    have e : ws = [] := h
    subst e
    exact h
  | (k, d') :: r', ws, j, d, v, h, r => by
    obtain ⟨v', t, rfl, h2, h3⟩ := h
    rw [List.map_cons, List.map_cons]
    by_cases e : k = j
    · subst e
      simp only [if_true]
      exact ⟨v, _, rfl, r, kvr_map k h3 r⟩
    · have e2 : ¬ ((Sum.inl k : Key) = Sum.inl j) := fun z => e (Sum.inl.inj z)
      simp only [if_neg e, if_neg e2]
      exact ⟨v', _, rfl, h2, kvr_map j h3 r⟩
theorem kvr_app : ∀ {kvs : List (Int × Da)} {ws : List (Key × V)} {j : Int} {d : Da} {v : V}, KvR K B kvs ws → Rp K B d v → KvR K B (kvs ++ [(j, d)]) (ws ++ [(Sum.inl j, v)])
  | [], ws, j, d, v, h, r => by
    have e : ws = [] := h
    subst e
    exact ⟨v, [], rfl, r, rfl⟩
  | (k, d') :: r', ws, j, d, v, h, r => by
    obtain ⟨v', t, rfl, h2, h3⟩ := h
    exact ⟨v', _, rfl, h2, kvr_app h3 r⟩
theorem KvR.put {v : V} (j : Int) (h : KvR K B kvs ws) (r : Rp K B d v) : KvR K B (putD kvs j d) (putK ws (Sum.inl j) v) := by
  unfold putD putK
  rw [kvr_any j h]
  split
  · exact kvr_map j h r
  · exact kvr_app h r
/-- a slot that holds a dict, in a view -/
theorem ev_din {n : Nat} (hd : env[n]? = some (.md kvs)) (hi : EvE K ta env (.int i)) : EvE K (tDIn ta (tVar n)) env (.bl (valD kvs i).isSome) := fun σ B s H1 e Q q =>
  hi σ B s H1 e _ fun v B2 H2 g r => by
    simp only [Rp] at r
    subst r
    obtain ⟨a, ws, h1, h2, h3⟩ := s.sl n _ hd
    refine ⟨_, h1, a, valV ws (Sum.inl i), rfl, DGet.k (k := Sum.inl i) (g.k _ _ (e _ _ h2)), q _ B2 H2 g ?_⟩
    have z := h3.val i
    simp only [Rp]
    cases hv : valD kvs i with
    | none =>
      rw [hv] at z
      have z' : valV ws (Sum.inl i : Key) = none := z
      rw [z']
      all_goals rfl
    | some d =>
      rw [hv] at z
      obtain ⟨v, z1, z2⟩ := z
      rw [z1]
      all_goals rfl
theorem ev_dnotin {n : Nat} (hd : env[n]? = some (.md kvs)) (hi : EvE K ta env (.int i)) : EvE K (tDNotIn ta (tVar n)) env (.bl (!(valD kvs i).isSome)) := fun σ B s H1 e Q q =>
  hi σ B s H1 e _ fun v B2 H2 g r => by
    simp only [Rp] at r
    subst r
    obtain ⟨a, ws, h1, h2, h3⟩ := s.sl n _ hd
    refine ⟨_, h1, a, valV ws (Sum.inl i), rfl, DGet.k (k := Sum.inl i) (g.k _ _ (e _ _ h2)), q _ B2 H2 g ?_⟩
    have z := h3.val i
    simp only [Rp]
    cases hv : valD kvs i with
    | none =>
      rw [hv] at z
      have z' : valV ws (Sum.inl i : Key) = none := z
      rw [z']
      all_goals rfl
    | some d =>
      rw [hv] at z
      obtain ⟨v, z1, z2⟩ := z
      rw [z1]
      all_goals rfl
theorem ev_dget {n : Nat} (hd : env[n]? = some (.md kvs)) (hi : EvE K ta env (.int i)) (hv : valD kvs i = some d) : EvE K (tDGet (tVar n) ta) env d := fun σ B s H1 e Q q => by
  obtain ⟨a, ws, h1, h2, h3⟩ := s.sl n _ hd
  refine ⟨_, h1, hi σ B s H1 e _ fun v B2 H2 g r => ?_⟩
  simp only [Rp] at r
  subst r
  have z := h3.val i
  rw [hv] at z
  obtain ⟨v, z1, z2⟩ := z
  exact ⟨a, v, rfl, by rw [← z1]; exact DGet.k (k := Sum.inl i) (g.k _ _ (e _ _ h2)), q v B2 H2 g (z2.mono g.b)⟩
def rLenD : List V → Hp → VK → Prop := fun xs H Q => ∃ a kvs, xs = [V.ref a] ∧ H a = some (.dK kvs) ∧ Q (.int kvs.length) H
theorem ev_lenD {n : Nat} (hd : env[n]? = some (.md kvs)) : EvE K (tCB rLenD (tCons (tVar n) tNil)) env (.int (kvs.length : Int)) := fun σ B s H1 e Q q => by
  obtain ⟨a, ws, h1, h2, h3⟩ := s.sl n _ hd
  exact ⟨_, h1, a, ws, rfl, e _ _ h2, q _ B H1 (Gr.refl e) (by simp only [Rp]; rw [h3.len])⟩
theorem ed_new : EvD K tDNewK env [] := fun σ B s H1 e Q q p hp => q p [] B _ (Gr.put e hp) hp (fresh_back e hp) upd_same rfl
/-- d[k] = e -/
theorem run_dput {n : Nat} {E : Ed} (hx : env[n]? = some (.md kvs)) (hv : EvE K tv (imm env) d) (hi : EvE K ta (frz env) (.int i)) (hz : kvs.length < 100000) (q : E.nx (env.set n (.md (putD kvs i d)))) : Run K (sDPut (tVar n) ta tv) env E := fun B0 H0 B H σ D Bs eb s k => by
  refine hv σ B s.imm H s.eH _ fun v B2 H2 g r => ?_
  obtain ⟨ad, a1, a2, a3⟩ := (s.up g).own
  obtain ⟨l, ws, h1, h2, h3, h4⟩ := a3 n _ hx
  refine ⟨_, h1, hi σ H2 (s.up g).frz H2 (Ex.refl _) _ fun u B3 H3 g3 r3 => ?_⟩
  simp only [Rp] at r3
  subst r3
  have s' := (s.up g).grow g3.k
  have h3' := g3.k _ _ h3
  refine ⟨l, _, rfl, DPut.k (k := Sum.inl i) (v := v) h3' (sz_lt (by rw [h4.len]; exact hz)), k.nx σ B2 _ _ (s'.wr (i := n) (sl := .md (putD kvs i d)) (H' := upd H3 l (.dK (putK ws (Sum.inl i) v))) a1 (fun p x hx => ?_) (fun p t ht => (a3 p t ht).up (Ex.refl _) g3.k) (fun a ha => upd_ne fun e => ha (by rw [h2, e]; exact List.mem_cons_self)) (fun a ha => ?_) ⟨l, _, h1, h2, upd_same, h4.put i r⟩) (eb.trans g.b) q⟩
  · obtain ⟨z1, z2, z3⟩ := a2 p x hx
    exact ⟨z1, z2, ex_nn g3.k z3⟩
  · rw [h2, List.mem_singleton] at ha
    subst ha
    rw [upd_same]
    exact fun z => by cases z
/-- sorted(xs), ints -/
theorem en_sortedI {ns ms : List Int} (ha : EvE K ta env (intsD ns)) (hm : ∀ ns' : List Int, ns'.Perm ns → ns'.Pairwise (· ≤ ·) → ns' = ms) : EvN K (tCB (rSortedI K) (tCons ta tNil)) env (intL ms) :=
  en_cb (ea_cons ha ea_nil) fun B H vs e r Q q => by
    obtain ⟨v, rfl, h1⟩ := one_rp r
    simp only [intsD, Rp] at h1
    obtain ⟨a, xs, rfl, h2, h3⟩ := h1
    have z := rp_ints h3
    subst z
    refine ⟨a, ns, rfl, sq_of (e _ _ h2), fun ns' p hp hs hn => ?_⟩
    have z2 := hm ns' hp hs
    subst z2
    exact q p _ B _ (Gr.put e hn) hn (fresh_back e hn) upd_same (ints_rp ns')
end

/-! ### is, in -/
section
variable {K : PySem.W.Frag} {env : En} {te ta tb tc : TE} {d x y : Da} {a b : Bool}
theorem ev_isBl (ha : EvE K ta env (.bl a)) (hb : EvE K tb env (.bl b)) : EvE K (tOp rIsB ta tb) env (.bl (decide (a = b))) :=
  ev_op ha hb fun B H v w e r1 r2 Q q => by
    simp only [Rp] at r1 r2
    subst r1 r2
    exact ⟨a, b, rfl, rfl, q _ B H (Gr.refl e) (by simp only [Rp])⟩
theorem ev_notBl (ha : EvE K ta env (.bl a)) (hb : EvE K tb env (.bl b)) : EvE K (tOp rNotB ta tb) env (.bl (!decide (a = b))) :=
  ev_op ha hb fun B H v w e r1 r2 Q q => by
    simp only [Rp] at r1 r2
    subst r1 r2
    exact ⟨a, b, rfl, rfl, q _ B H (Gr.refl e) (by simp only [Rp])⟩
def isNonD : Da → Bool
  | .non => true
  | _ => false
theorem isN_dec {B : Hp} {v : V} (r : Rp K B d v) : decide (v = .non) = isNonD d := by
  cases d with
  | non =>
    simp only [Rp] at r
    subst r
    rfl
  | bl b =>
    simp only [Rp] at r
    subst r
    rfl
  | int i =>
    simp only [Rp] at r
    subst r
    rfl
  | str s =>
    simp only [Rp] at r
    subst r
    rfl
  | ty n =>
    simp only [Rp] at r
    subst r
    rfl
  | cls C =>
    simp only [Rp] at r
    subst r
    rfl
  | lst ds =>
    simp only [Rp] at r
    obtain ⟨a, xs, rfl, _⟩ := r
    rfl
  | sq ds =>
    simp only [Rp] at r
    obtain ⟨a, xs, rfl, _⟩ := r
    rfl
  | tup ds =>
    simp only [Rp] at r
    obtain ⟨a, xs, rfl, _⟩ := r
    rfl
  | obj C ns ds =>
    simp only [Rp] at r
    obtain ⟨a, dx, xs, rfl, _⟩ := r
    rfl
theorem ev_isN (ha : EvE K ta env d) : EvE K (tOp rIsN ta (tC .non)) env (.bl (isNonD d)) :=
  ev_op ha ev_non fun B H v w e r1 r2 Q q => by
    simp only [Rp] at r2
    subst r2
    exact ⟨rfl, q _ B H (Gr.refl e) (by simp only [Rp, isN_dec r1])⟩
theorem ev_notN (ha : EvE K ta env d) : EvE K (tOp rNotN ta (tC .non)) env (.bl (!isNonD d)) :=
  ev_op ha ev_non fun B H v w e r1 r2 Q q => by
    simp only [Rp] at r2
    subst r2
    exact ⟨rfl, q _ B H (Gr.refl e) (by simp only [Rp, isN_dec r1])⟩
/-- an int in a tuple of ints -/
theorem inV_ints (i : Int) (ns : List Int) : inV (.int i) (ns.map V.int) = decide (i ∈ ns) := by
  unfold inV
  rw [List.any_map]
  induction ns with
  | nil => simp
  | cons n ns ih =>
    rw [List.any_cons, ih]
    have e : (Function.comp (fun y => eqV y (V.int i)) V.int) n = decide (n = i) := by
      simp [eqV, beqd]
    rw [e]
    by_cases h : n = i
    · simp [h]
    · have h' : ¬ i = n := fun z => h z.symm
      simp [h, h']
theorem ev_inI {i : Int} {ns : List Int} {neg : Bool} (ha : EvE K ta env (.int i)) (hb : EvE K tb env (.tup (intL ns))) : EvE K (tOp (rIn K neg) ta tb) env (.bl (if neg then !decide (i ∈ ns) else decide (i ∈ ns))) :=
  ev_op ha hb fun B H v w e r1 r2 Q q => by
    simp only [Rp] at r1 r2
    obtain ⟨a, xs, rfl, h2, h3⟩ := r2
    subst r1
    have z := rp_ints h3
    subst z
    refine ⟨a, ns.map V.int, rfl, .inr (st_of (e _ _ h2)), rfl, ?_, q _ B H (Gr.refl e) (by simp only [Rp, inV_ints])⟩
    rw [List.all_map]
    exact List.all_eq_true.mpr fun _ _ => rfl
end
end FR

/-! Rows of stones: what falls. -/
namespace FR

/-! ### rows -/
def plc (row : List (Int × Int)) (i : Int) : Int := (row.getD i.toNat (0, 0)).1
def hgt (row : List (Int × Int)) (i : Int) : Int := (row.getD i.toNat (0, 0)).2
def mx (a b : Int) : Int := if b > a then b else a
def mn (a b : Int) : Int := if b < a then b else a
theorem mx_eq (a b : Int) : (if b > a then b else a) = mx a b := rfl
theorem mn_eq (a b : Int) : (if b < a then b else a) = mn a b := rfl
structure Okr (row : List (Int × Int)) : Prop where
  pos : ∀ i : Nat, i < row.length → 0 < hgt row i
  inc : ∀ i j : Nat, i < j → j < row.length → plc row i < plc row j
  few : row.length ≤ 1000
/-- the stones ahead of a pushed one, told from it on: how far, how high -/
def qf (row : List (Int × Int)) (s : Int) (i : Nat) (k : Nat) : Int × Int := (s * plc row (i + s * k), hgt row (i + s * k))
/-- how many lie ahead to that side -/
def ah (row : List (Int × Int)) (s : Int) (i : Nat) : Nat := if s = 1 then row.length - 1 - i else i
def goN (q : Nat → Int × Int) : Nat → Nat → Int → Nat × Int
  | 0, k, far => (k, far)
  | m + 1, k, far => if (q (k + 1)).1 ≤ far then goN q m (k + 1) (mx far ((q (k + 1)).1 + (q (k + 1)).2)) else (k, far)
/-- how many fall behind the pushed one, and how far all reach -/
def fell (row : List (Int × Int)) (s : Int) (i : Nat) : Nat × Int := goN (qf row s i) (ah row s i) 0 ((qf row s i 0).1 + (qf row s i 0).2)
/-- the last one that falls -/
def lastI (row : List (Int × Int)) (s : Int) (i : Nat) : Int := i + s * (fell row s i).1
def farI (row : List (Int × Int)) (s : Int) (i : Nat) : Int := (fell row s i).2
def Sd (s : Int) : Prop := s = 1 ∨ s = -1

structure Chn (q : Nat → Int × Int) (m K : Nat) (F : Int) : Prop where
  le : K ≤ m
  by_ : ∀ j, j < K → ∃ t, t ≤ j ∧ (q (j + 1)).1 ≤ (q t).1 + (q t).2
  stop : K < m → ∀ t, t ≤ K → (q t).1 + (q t).2 < (q (K + 1)).1
  far : ∀ t, t ≤ K → (q t).1 + (q t).2 ≤ F
  att : ∃ t, t ≤ K ∧ F = (q t).1 + (q t).2
theorem goN_chn (q : Nat → Int × Int) (m : Nat) : ∀ (r k : Nat) (far : Int), k + r = m → Chn q k k far → Chn q m (goN q r k far).1 (goN q r k far).2
  | 0, k, far, e, c => by
    subst e
    exact ⟨by simp [goN], c.by_, fun h => by simp [goN] at h, c.far, c.att⟩
  | r + 1, k, far, e, c => by
    unfold goN
    by_cases h : (q (k + 1)).1 ≤ far
    · rw [if_pos h]
      refine goN_chn q m r (k + 1) _ (by omega) ⟨Nat.le_refl _, fun j hj => ?_, fun z => absurd z (by omega), fun t ht => ?_, ?_⟩
      · by_cases e2 : j = k
        · subst e2
          obtain ⟨t, ht, ef⟩ := c.att
          exact ⟨t, ht, by omega⟩
        · exact c.by_ j (by omega)
      · unfold mx
        by_cases e2 : t = k + 1
        · subst e2
          split <;> omega
        · have := c.far t (by omega)
          split <;> omega
      · unfold mx
        split
        · exact ⟨k + 1, Nat.le_refl _, rfl⟩
        · obtain ⟨t, ht, ef⟩ := c.att
          exact ⟨t, by omega, ef⟩
    · rw [if_neg h]
      exact ⟨by omega, c.by_, fun _ t ht => by
        have := c.far t ht
        show _ < (q (k + 1)).1
        omega, c.far, c.att⟩
theorem fell_chn (row : List (Int × Int)) (s : Int) (i : Nat) : Chn (qf row s i) (ah row s i) (fell row s i).1 (fell row s i).2 :=
  goN_chn _ _ _ 0 _ (by omega) ⟨Nat.le_refl _, fun j hj => absurd hj (by omega), fun z => absurd z (by omega), fun t ht => by
    have : t = 0 := by omega
    subst this
    exact Int.le_refl _, ⟨0, Nat.le_refl _, rfl⟩⟩
theorem Chn.uniq {q : Nat → Int × Int} {m K K' : Nat} {F F' : Int} (c : Chn q m K F) (c' : Chn q m K' F') : K = K' := by
  rcases Nat.lt_trichotomy K K' with h | h | h
  · obtain ⟨t, ht, e⟩ := c'.by_ K h
    have := c.stop (by have := c'.le; omega) t ht
    omega
  · exact h
  · obtain ⟨t, ht, e⟩ := c.by_ K' h
    have := c'.stop (by have := c.le; omega) t ht
    omega
end FR

/-! The program's defs about rows: what each computes. -/
namespace FR
open PySem L2 Evl
structure CS where
  w : World
  Answer : Addr
  Chain : Addr
  Stands : Addr
  Fewest : Addr
  Rights : Addr
  Higher : Addr

/-! ### rows read -/
theorem getD_atI {α : Type} {xs : List α} {i : Int} {d : α} (h0 : 0 ≤ i) (h1 : i < xs.length) : atI xs i = some (xs.getD i.toNat d) := by
  have e : i = ((i.toNat : Nat) : Int) := by omega
  have hl : i.toNat < xs.length := by omega
  rw [e]
  refine atI_nat ?_
  simp only [Int.toNat_natCast]
  rw [List.getElem?_eq_getElem hl, List.getD_eq_getElem?_getD, List.getElem?_eq_getElem hl]
  rfl
section
variable {K : PySem.W.Frag} {env : En} {te ta tb tc : TE} {row : List (Int × Int)} {i : Int} {ns : List Int}
theorem row_atI (h0 : 0 ≤ i) (h1 : i < row.length) : atI (rowL row) i = some (prD (plc row i, hgt row i)) := by
  have h := getD_atI (xs := row) (d := (0, 0)) h0 h1
  unfold atI at h ⊢
  rw [List.length_map]
  cases e : ixN row.length i with
  | none =>
    rw [e] at h
    cases h
  | some j =>
    rw [e] at h
    have h' : row[j]? = some (row.getD i.toNat (0, 0)) := h
    show (rowL row)[j]? = _
    rw [List.getElem?_map, h']
    rfl
theorem ev_rowI (ha : EvE K ta env (rowD row)) (hb : EvE K tb env (.int i)) (h0 : 0 ≤ i) (h1 : i < row.length) : EvE K (tOp (rIxL K) ta tb) env (prD (plc row i, hgt row i)) :=
  ev_ixL ha hb (row_atI h0 h1)
theorem ev_row0 (ha : EvE K ta env (rowD row)) (hb : EvE K tb env (.int i)) (h0 : 0 ≤ i) (h1 : i < row.length) : EvE K (tOp (rIxT K) (tOp (rIxL K) ta tb) (tC (.int 0))) env (.int (plc row i)) :=
  ev_ixT (ev_rowI ha hb h0 h1) ev_int rfl
theorem ev_row1 (ha : EvE K ta env (rowD row)) (hb : EvE K tb env (.int i)) (h0 : 0 ≤ i) (h1 : i < row.length) : EvE K (tOp (rIxT K) (tOp (rIxL K) ta tb) (tC (.int 1))) env (.int (hgt row i)) :=
  ev_ixT (ev_rowI ha hb h0 h1) ev_int rfl
theorem ev_pr0 {p : Int × Int} (ha : EvE K ta env (prD p)) : EvE K (tOp (rIxT K) ta (tC (.int 0))) env (.int p.1) := ev_ixT ha ev_int rfl
theorem ev_pr1 {p : Int × Int} (ha : EvE K ta env (prD p)) : EvE K (tOp (rIxT K) ta (tC (.int 1))) env (.int p.2) := ev_ixT ha ev_int rfl
theorem ev_lenR (ha : EvE K ta env (rowD row)) : EvE K (tCB (rLenS K) (tCons ta tNil)) env (.int (row.length : Int)) := (ev_lenL ha).is (by rw [List.length_map])
theorem ev_lenI (ha : EvE K ta env (intsD ns)) : EvE K (tCB (rLenS K) (tCons ta tNil)) env (.int (ns.length : Int)) := (ev_lenL ha).is (by rw [List.length_map])
theorem plc_get {j : Nat} {p : Int × Int} (h : row[j]? = some p) : p = (plc row j, hgt row j) := by
  unfold plc hgt
  simp only [Int.toNat_natCast]
  rw [List.getD_eq_getElem?_getD, h]
  rfl
theorem plc_mem {p : Int × Int} (h : p ∈ row) : ∃ j : Nat, j < row.length ∧ p = (plc row j, hgt row j) := by
  obtain ⟨j, hj, e⟩ := List.mem_iff_getElem.mp h
  exact ⟨j, hj, plc_get (by rw [List.getElem?_eq_getElem hj, e])⟩
end
local macro_rules | `(tactic| walk_at "ev") => `(tactic| first
  | (apply ev_pr0; walk_at "ev")
  | (apply ev_pr1; walk_at "ev")
  | (apply ev_lenR; walk_at "ev")
  | (apply ev_lenI; walk_at "ev"))
local macro_rules | `(tactic| walk_at "side") => `(tactic| first | assumption | decide | omega | (exact Or.inl ⟨by decide, by decide⟩) | (exact Or.inr ⟨by decide, by decide⟩))
local macro_rules | `(tactic| walk_at "wk") => `(tactic| first
  | (apply wk_rng1 <;> first | walk_at "ev" | walk_at "side")
  | (apply wk_rng2 <;> first | walk_at "ev" | walk_at "side")
  | (apply wk_list; walk_at "ev")
  | (apply wk_sq; walk_at "ev")
  | (apply wk_tup; walk_at "ev"))
local macro_rules | `(tactic| walk_at "en") => `(tactic| first
  | (apply en_lst <;> first | walk_at "ea" | simp)
  | (apply en_listL; walk_at "ev")
  | (apply en_listT; walk_at "ev")
  | (apply en_rev; walk_at "ev")
  | (apply en_slL <;> first | walk_at "ev" | walk_at "eo")
  | (apply en_slQ <;> first | walk_at "ev" | walk_at "eo"))
local macro_rules | `(tactic| walk_at "eo") => `(tactic| first
  | exact eo_none
  | (apply eo_some; walk_at "ev"))
local macro_rules | `(tactic| walk_at "ea") => `(tactic| first
  | exact ea_nil
  | (apply ea_cons <;> first | walk_at "ev" | walk_at "ea"))
local macro_rules | `(tactic| walk_at "eb") => `(tactic| first
  | exact eb_yes
  | (apply eb_not; walk_at "eb")
  | (apply eb_test; walk_at "ev")
  | (apply eb_B; walk_at "ev"))
local macro_rules | `(tactic| walk_at "ev") => `(tactic| first
  | exact ev_int
  | exact ev_bl
  | exact ev_non
  | exact ev_ty
  | exact ev_str
  | exact ev_cls
  | exact ev_var rfl
  | assumption
  | (apply ev_row0 <;> first | walk_at "ev" | walk_at "side")
  | (apply ev_row1 <;> first | walk_at "ev" | walk_at "side")
  | (apply ev_rowI <;> first | walk_at "ev" | walk_at "side")
  | (apply ev_add <;> walk_at "ev")
  | (apply ev_sub <;> walk_at "ev")
  | (apply ev_mul <;> first | walk_at "ev" | walk_at "side")
  | (apply ev_neg; walk_at "ev")
  | (apply ev_lt <;> walk_at "ev")
  | (apply ev_le <;> walk_at "ev")
  | (apply ev_gt <;> walk_at "ev")
  | (apply ev_ge <;> walk_at "ev")
  | (apply ev_mod <;> first | walk_at "ev" | walk_at "side")
  | (apply ev_div <;> first | walk_at "ev" | exact ⟨by decide, by decide⟩)
  | (apply ev_eqI <;> walk_at "ev")
  | (apply ev_neI <;> walk_at "ev")
  | (apply ev_max2 <;> walk_at "ev")
  | (apply ev_min2 <;> walk_at "ev")
  | (apply ev_abs; walk_at "ev")
  | (apply ev_lenL; walk_at "ev")
  | (apply ev_lenQ; walk_at "ev")
  | (apply ev_lenT; walk_at "ev")
  | (apply ev_isiB <;> first | walk_at "ev" | rfl | decide +kernel)
  | (apply ev_chainI rfl rfl <;> first | walk_at "ev" | (intro _; walk_at "ev"))
  | (apply ev_notV; walk_at "ev")
  | (apply ev_tup <;> first | walk_at "ea" | simp)
  | (apply ev_new; walk_at "en"))


/-! ### what the defs promise -/
def P_is_number (ds : List Da) (d : Da) : Prop := ∃ i : Int, ds = [.int i] ∧ d = .bl true
def P_is_pair (ds : List Da) (d : Da) : Prop := ∃ p : Int × Int, ds = [prD p] ∧ d = .bl true
def P_check_row (ds : List Da) (d : Da) : Prop := ∃ row, ds = [rowD row] ∧ Okr row ∧ d = .non
def P_check_stone (ds : List Da) (d : Da) : Prop := ∃ row, ∃ i : Int, ds = [rowD row, .int i] ∧ (0 ≤ i ∧ i < row.length) ∧ d = .non
def P_check_side (ds : List Da) (d : Da) : Prop := ∃ s : Int, ds = [.int s] ∧ Sd s ∧ d = .non
def P_last_felled (ds : List Da) (d : Da) : Prop := ∃ row, ∃ i : Nat, ∃ s : Int, ds = [rowD row, .int i, .int s] ∧ (i < row.length ∧ row.length ≤ 1000 ∧ Sd s) ∧ d = .tup [.int (lastI row s i), .int (farI row s i)]
/-- the ints lo .. hi -/
def spanL (lo hi : Int) : List Int := (List.range (hi + 1 - lo).toNat).map fun k => lo + (k : Nat)
def fellL (row : List (Int × Int)) (i : Nat) (s : Int) : List Int := spanL (mn i (lastI row s i)) (mx i (lastI row s i))
def P_felled_by (ds : List Da) (es : List Da) : Prop := ∃ row, ∃ i : Nat, ∃ s : Int, ds = [rowD row, .int i, .int s] ∧ (i < row.length ∧ row.length ≤ 1000 ∧ Sd s) ∧ es = intL (fellL row i s)
def mir (row : List (Int × Int)) : List (Int × Int) := row.reverse.map fun p => (-p.1, p.2)
def P_mirrored (ds : List Da) (es : List Da) : Prop := ∃ row, ds = [rowD row] ∧ Okr row ∧ es = rowL (mir row)
def P_felled (ds : List Da) (es : List Da) : Prop := ∃ row, ∃ i : Nat, ∃ s : Int, ds = [rowD row, .int i, .int s] ∧ (i < row.length ∧ Okr row ∧ Sd s) ∧ es = intL (fellL row i s)
abbrev sp_is_number (K : PySem.W.Frag) (C : CS) : Sp := FnP K P_is_number
abbrev sp_is_pair (K : PySem.W.Frag) (C : CS) : Sp := FnP K P_is_pair
abbrev sp_check_row (K : PySem.W.Frag) (C : CS) : Sp := FnP K P_check_row
abbrev sp_check_stone (K : PySem.W.Frag) (C : CS) : Sp := FnP K P_check_stone
abbrev sp_check_side (K : PySem.W.Frag) (C : CS) : Sp := FnP K P_check_side
abbrev sp_last_felled (K : PySem.W.Frag) (C : CS) : Sp := FnP K P_last_felled
abbrev sp_felled_by (K : PySem.W.Frag) (C : CS) : Sp := FnL K P_felled_by
abbrev sp_mirrored (K : PySem.W.Frag) (C : CS) : Sp := FnL K P_mirrored
abbrev sp_felled (K : PySem.W.Frag) (C : CS) : Sp := FnL K P_felled
def t_is_number (K : PySem.W.Frag) (C : CS) : TS :=
  (tRet (tAndV (tCB (rIsi K) (tCons (tVar 0) (tCons (tC (.ty "int")) tNil))) (tNotV (tCB (rIsi K) (tCons (tVar 0) (tCons (tC (.ty "bool")) tNil))))))
def t_is_pair (K : PySem.W.Frag) (C : CS) : TS :=
  (tRet (tAndV (tCB (rIsi K) (tCons (tVar 0) (tCons (tC (.ty "tuple")) tNil))) (tAndV (tOp rEq (tCB (rLenS K) (tCons (tVar 0) tNil)) (tC (.int 2))) (tAndV (tCall (sp_is_number K C) [] E0 (tCons (tOp (rIxT K) (tVar 0) (tC (.int 0))) tNil)) (tCall (sp_is_number K C) [] E0 (tCons (tOp (rIxT K) (tVar 0) (tC (.int 1))) tNil))))))
def t_check_row (K : PySem.W.Frag) (C : CS) : TS :=
  (tSeq (tIfS (tOr (tNot (tB (tCB (rIsi K) (tCons (tVar 0) (tCons (tC (.ty "list")) tNil))))) (tNot (tB (tCB (rAll K) (tCons (tLc (iList K (tVar 0)) (gName 1) tYes (tAndV (tCall (sp_is_pair K C) [] E0 (tCons (tVar 1) tNil)) (tOp rGtI (tOp (rIxT K) (tVar 1) (tC (.int 1))) (tC (.int 0)))) [1]) tNil))))) tNever tNext) (tIfS (tNot (tB (tCB (rAll K) (tCons (tLc (iRng2 (tCons (tC (.int 1)) (tCons (tCB (rLenS K) (tCons (tVar 0) tNil)) tNil))) (gName 2) tYes (tOp rLtI (tOp (rIxT K) (tOp (rIxL K) (tVar 0) (tOp rSubI (tVar 2) (tC (.int 1)))) (tC (.int 0))) (tOp (rIxT K) (tOp (rIxL K) (tVar 0) (tVar 2)) (tC (.int 0)))) [2]) tNil)))) tNever tNext))
def t_check_stone (K : PySem.W.Frag) (C : CS) : TS :=
  (tIfS (tOr (tNot (tB (tCall (sp_is_number K C) [] E0 (tCons (tVar 1) tNil)))) (tNot (tTest (tChain rLeI rLtI (tC (.int 0)) (tVar 1) (tCB (rLenS K) (tCons (tVar 0) tNil)))))) tNever tNext)
def t_check_side (K : PySem.W.Frag) (C : CS) : TS :=
  (tIfS (tOr (tNot (tB (tCall (sp_is_number K C) [] E0 (tCons (tVar 0) tNil)))) (tTest (tOp (rIn K true) (tVar 0) (tTup (tCons (tC (.int 1)) (tCons (tUn (rU fun i => .int (-i)) (tC (.int 1))) tNil)))))) tNever tNext)
def t_last_felled (K : PySem.W.Frag) (C : CS) : TS :=
  (tSeq (tAsg (tOp rAddI (tOp rMulI (tVar 2) (tOp (rIxT K) (tOp (rIxL K) (tVar 0) (tVar 1)) (tC (.int 0)))) (tOp (rIxT K) (tOp (rIxL K) (tVar 0) (tVar 1)) (tC (.int 1)))) (gName 3)) (tSeq (tAsg (tVar 1) (gName 4)) (tSeq (tWhile (tAnd (tTest (tChain rLeI rLtI (tC (.int 0)) (tOp rAddI (tVar 4) (tVar 2)) (tCB (rLenS K) (tCons (tVar 0) tNil)))) (tTest (tOp rLeI (tOp rMulI (tVar 2) (tOp (rIxT K) (tOp (rIxL K) (tVar 0) (tOp rAddI (tVar 4) (tVar 2))) (tC (.int 0)))) (tVar 3)))) (tSeq (tAug 4 (tVar 2) (ipI fun i j => i + j)) (tAsg (tCB rMax2 (tCons (tVar 3) (tCons (tOp rAddI (tOp rMulI (tVar 2) (tOp (rIxT K) (tOp (rIxL K) (tVar 0) (tVar 4)) (tC (.int 0)))) (tOp (rIxT K) (tOp (rIxL K) (tVar 0) (tVar 4)) (tC (.int 1)))) tNil))) (gName 3)))) (tRet (tTup (tCons (tVar 4) (tCons (tVar 3) tNil)))))))
def t_felled_by (K : PySem.W.Frag) (C : CS) : TS :=
  (tSeq (tAsg (tOp (rIxT K) (tCall (sp_last_felled K C) [] E0 (tCons (tVar 0) (tCons (tVar 1) (tCons (tVar 2) tNil)))) (tC (.int 0))) (gName 3)) (tRet (tLstRg (tRg2 (tCB rMin2 (tCons (tVar 1) (tCons (tVar 3) tNil))) (tOp rAddI (tCB rMax2 (tCons (tVar 1) (tCons (tVar 3) tNil))) (tC (.int 1)))))))
def t_mirrored (K : PySem.W.Frag) (C : CS) : TS :=
  (tSeq (tDrop (tCall (sp_check_row K C) [] E0 (tCons (tVar 0) tNil))) (tRet (tLc (iRev K (tCons (tVar 0) tNil)) (gTup K 2 (gCons (gName 1) (gCons (gName 2) gNil))) tYes (tTup (tCons (tUn (rU fun i => .int (-i)) (tVar 1)) (tCons (tVar 2) tNil))) [1, 2])))
def t_felled (K : PySem.W.Frag) (C : CS) : TS :=
  (tSeq (tDrop (tCall (sp_check_row K C) [] E0 (tCons (tVar 0) tNil))) (tSeq (tDrop (tCall (sp_check_stone K C) [] E0 (tCons (tVar 0) (tCons (tVar 1) tNil)))) (tSeq (tDrop (tCall (sp_check_side K C) [] E0 (tCons (tVar 2) tNil))) (tRet (tCall (sp_felled_by K C) [] E0 (tCons (tVar 0) (tCons (tVar 1) (tCons (tVar 2) tNil))))))))

/-! ### what they compute -/
section
variable {K : PySem.W.Frag} {C : CS}
theorem run_is_number {ds : List Da} {d : Da} (h : P_is_number ds d) : Run K (t_is_number K C) (ent ds 0) (retD d) := by
  obtain ⟨i, rfl, rfl⟩ := h
  refine run_ret (d := .bl (true && !false)) (ev_andV (a := true) (b := !false) ?_ fun _ => ?_) rfl
  · walk_at "ev"
  · walk_at "ev"
theorem run_is_pair {ds : List Da} {d : Da} (h : P_is_pair ds d) : Run K (t_is_pair K C) (ent ds 0) (retD d) := by
  obtain ⟨p, rfl, rfl⟩ := h
  refine run_ret (d := .bl (true && (decide ((2 : Int) = 2) && (true && true)))) (ev_andV ?_ fun _ => ev_andV ?_ fun _ => ev_andV ?_ fun _ => ?_) rfl
  · exact ev_isiB (n := "tuple") (ev_var rfl) ev_ty rfl (by decide)
  · exact ev_eqI (ev_lenT (ds := [.int p.1, .int p.2]) (ev_var rfl)) ev_int
  · exact ev_call (ds := [.int p.1]) (ea_cons (ev_pr0 (ev_var rfl)) ea_nil) ⟨p.1, rfl, rfl⟩
  · exact ev_call (ds := [.int p.2]) (ea_cons (ev_pr1 (ev_var rfl)) ea_nil) ⟨p.2, rfl, rfl⟩
theorem run_check_row {ds : List Da} {d : Da} (h : P_check_row ds d) : Run K (t_check_row K C) (ent ds 2) (retD d) := by
  obtain ⟨row, rfl, ok, rfl⟩ := h
  refine run_seq (run_if (b := !true || !true) (eb_or ?_ fun _ => ?_) (fun z => by cases z) fun _ => run_next ?_)
  · refine eb_not (eb_B ?_)
    exact ev_isiB (n := "list") (ev_var rfl) ev_ty rfl (by decide)
  · refine eb_not (eb_B ?_)
    refine (ev_all (bs := (row.filter fun _ => true).map fun p => true && decide (0 < p.2)) ?_).is ?_
    · refine ev_new ?_
      refine (en_lc (us := [1]) prD (fun _ => true) (fun p => Da.bl (true && decide (0 < p.2))) row (wk_list (ev_var rfl)) (by simp) (by have := ok.few; omega) fun p hp => ⟨_, tc_name, eb_yes, fun _ => ?_⟩).is (by rw [List.map_map]; rfl)
      refine ev_andV ?_ fun _ => ?_
      · exact ev_call (ds := [prD p]) (ea_cons (ev_var rfl) ea_nil) ⟨p, rfl, rfl⟩
      · exact ev_gt (ev_pr1 (ev_var rfl)) ev_int
    · congr 1
      rw [List.all_map, List.all_eq_true]
      intro p hp
      obtain ⟨j, hj, rfl⟩ := plc_mem (List.mem_filter.mp hp).1
      have := ok.pos j hj
      simp [this]
  · refine run_if (b := !true) ?_ (fun z => by cases z) fun _ => run_next rfl
    refine eb_not (eb_B ?_)
    refine (ev_all (bs := ((List.range ((row.length : Int) - 1).toNat).filter fun _ => true).map fun k => decide (plc row (1 + (k : Nat) - 1) < plc row (1 + (k : Nat)))) ?_).is ?_
    · refine ev_new ?_
      refine (en_lc (us := [2]) (fun k : Nat => Da.int (1 + (k : Nat))) (fun _ => true) (fun k => Da.bl (decide (plc row (1 + (k : Nat) - 1) < plc row (1 + (k : Nat))))) (List.range ((row.length : Int) - 1).toNat) ?_ (by simp) (by rw [List.length_range]; have := ok.few; omega) fun k hk => ⟨_, tc_name, eb_yes, fun _ => ?_⟩).is (by rw [List.map_map]; rfl)
      · refine wk_rng2 ev_int (ev_lenR (ev_var rfl)) ?_
        have := ok.few
        omega
      · have hk' := List.mem_range.mp hk
        refine ev_lt (ev_row0 (ev_var rfl) (ev_sub (ev_var rfl) ev_int) (by omega) (by omega)) (ev_row0 (ev_var rfl) (ev_var rfl) (by omega) (by omega))
    · congr 1
      rw [List.all_map, List.all_eq_true]
      intro k hk
      have hk' := List.mem_range.mp (List.mem_filter.mp hk).1
      have := ok.inc k (k + 1) (by omega) (by omega)
      simp only [Function.comp, id, decide_eq_true_eq]
      have e1 : (1 : Int) + (k : Nat) - 1 = ((k : Nat) : Int) := by omega
      have e2 : (1 : Int) + (k : Nat) = ((k + 1 : Nat) : Int) := by omega
      rw [e1, e2]
      exact this
theorem run_check_stone {ds : List Da} {d : Da} (h : P_check_stone ds d) : Run K (t_check_stone K C) (ent ds 0) (retD d) := by
  obtain ⟨row, i, rfl, hi, rfl⟩ := h
  refine run_if (b := !true || !(decide (0 ≤ i) && decide (i < (row.length : Int)))) (eb_or ?_ fun _ => ?_) (fun z => ?_) fun _ => run_next rfl
  · exact eb_not (eb_B (ev_call (ds := [.int i]) (ea_cons (ev_var rfl) ea_nil) ⟨i, rfl, rfl⟩))
  · exact eb_not (eb_test (ev_chainI rfl rfl ev_int (ev_var rfl) fun _ => ev_lenR (ev_var rfl)))
  · rw [decide_eq_true hi.1, decide_eq_true hi.2] at z
    cases z
theorem run_check_side {ds : List Da} {d : Da} (h : P_check_side ds d) : Run K (t_check_side K C) (ent ds 0) (retD d) := by
  obtain ⟨s, rfl, hs, rfl⟩ := h
  refine run_if (b := !true || (if true = true then !decide (s ∈ [1, -1]) else decide (s ∈ [1, -1]))) (eb_or ?_ fun _ => ?_) (fun z => ?_) fun _ => run_next rfl
  · exact eb_not (eb_B (ev_call (ds := [.int s]) (ea_cons (ev_var rfl) ea_nil) ⟨s, rfl, rfl⟩))
  · exact eb_test (ev_inI (ns := [1, -1]) (ev_var rfl) (ev_tup (ea_cons ev_int (ea_cons (ev_neg ev_int) ea_nil))))
  · rcases hs with rfl | rfl <;> simp at z
theorem cmul_s {s x : Int} (h : Sd s) : CMul s x := .inl (by rcases h with rfl | rfl <;> decide)
theorem run_last_felled {ds : List Da} {d : Da} (h : P_last_felled ds d) : Run K (t_last_felled K C) (ent ds 2) (retD d) := by
  obtain ⟨row, i, s, rfl, ⟨hi, hn, hs⟩, rfl⟩ := h
  refine run_seq (run_asg (d := .int ((qf row s i 0).1 + (qf row s i 0).2)) ?_ ?_)
  · refine (ev_add (ev_mul (ev_var rfl) (ev_row0 (i := i) (ev_var rfl) (ev_var rfl) (by omega) (by omega)) (cmul_s hs)) (ev_row1 (i := i) (ev_var rfl) (ev_var rfl) (by omega) (by omega))).is ?_
    simp [qf]
  refine run_seq (run_asg (d := .int (i : Nat)) (ev_var rfl) ?_)
  refine run_seq (run_while (fun m e => ∃ k far, e = [.im (rowD row), .im (.int i), .im (.int s), .im (.int far), .im (.int (i + s * (k : Nat)))] ∧ k + m = ah row s i ∧ goN (qf row s i) m k far = fell row s i) (ah row s i) ⟨0, (qf row s i 0).1 + (qf row s i 0).2, ?_, by omega, rfl⟩ ?_)
  · have e0 : (i : Int) + s * ((0 : Nat) : Int) = i := by simp
    rw [e0]
    rfl
  rintro m e ⟨k, far, rfl, hm, hg⟩
  have hk : 0 ≤ (i : Int) + s * k ∧ (i : Int) + s * k < row.length := by
    rcases hs with rfl | rfl
    · have : ah row 1 i = row.length - 1 - i := by unfold ah; simp
      omega
    · have : ah row (-1) i = i := by unfold ah; simp
      omega
  have e1 : (i : Int) + s * (k : Nat) + s = i + s * ((k + 1 : Nat) : Int) := by
    rcases hs with rfl | rfl <;> omega
  refine ⟨(decide (0 ≤ (i : Int) + s * k + s) && decide ((i : Int) + s * k + s < row.length)) && decide (s * plc row (i + s * k + s) ≤ far), eb_and (eb_test ?_) (fun hb => eb_test ?_), fun hb => ?_, fun hb => ?_⟩
  · exact ev_chainI rfl rfl ev_int (ev_add (ev_var rfl) (ev_var rfl)) fun _ => ev_lenR (ev_var rfl)
  · simp only [Bool.and_eq_true, decide_eq_true_eq] at hb
    exact ev_le (ev_mul (ev_var rfl) (ev_row0 (ev_var rfl) (ev_add (ev_var rfl) (ev_var rfl)) hb.1 hb.2) (cmul_s hs)) (ev_var rfl)
  · simp only [Bool.and_eq_true, decide_eq_true_eq] at hb
    have hm1 : m = (m - 1) + 1 := by
      rcases hs with rfl | rfl
      · have : ah row 1 i = row.length - 1 - i := by unfold ah; simp
        omega
      · have : ah row (-1) i = i := by unfold ah; simp
        omega
    refine run_seq (run_aug (a := i + s * (k : Nat)) (b := s) rfl (ev_var rfl) ?_)
    refine run_asg (d := .int (mx far (s * plc row (i + s * k + s) + hgt row (i + s * k + s)))) ?_ ?_
    · exact ev_max2 (ev_var rfl) (ev_add (ev_mul (ev_var rfl) (ev_row0 (ev_var rfl) (ev_var rfl) hb.1.1 hb.1.2) (cmul_s hs)) (ev_row1 (ev_var rfl) (ev_var rfl) hb.1.1 hb.1.2))
    · refine ⟨m - 1, by omega, k + 1, mx far (s * plc row (i + s * k + s) + hgt row (i + s * k + s)), ?_, by omega, ?_⟩
      · rw [← e1]
        rfl
      · rw [← hg, hm1]
        simp only [Nat.add_sub_cancel]
        conv => rhs; unfold goN
        rw [if_pos (by show s * plc row (i + s * ((k + 1 : Nat) : Int)) ≤ far; rw [← e1]; exact hb.2)]
        show _ = goN (qf row s i) (m - 1) (k + 1) (mx far (s * plc row (i + s * ((k + 1 : Nat) : Int)) + hgt row (i + s * ((k + 1 : Nat) : Int))))
        rw [← e1]
  · have hf : fell row s i = (k, far) := by
      rw [← hg]
      cases m with
      | zero => rfl
      | succ m =>
        unfold goN
        rw [if_neg]
        intro hq
        have hq' : s * plc row (i + s * ((k + 1 : Nat) : Int)) ≤ far := hq
        rw [← e1] at hq'
        rw [decide_eq_true hq', Bool.and_true, Bool.and_eq_false_iff, decide_eq_false_iff_not, decide_eq_false_iff_not] at hb
        rcases hs with rfl | rfl
        · have : ah row 1 i = row.length - 1 - i := by unfold ah; simp
          omega
        · have : ah row (-1) i = i := by unfold ah; simp
          omega
    refine run_ret (d := .tup [.int (i + s * (k : Nat)), .int far]) (ev_tup (ea_cons (ev_var rfl) (ea_cons (ev_var rfl) ea_nil))) ?_
    show Da.tup _ = Da.tup _
    unfold lastI farI
    rw [hf]
theorem lastI_in {row : List (Int × Int)} {s : Int} {i : Nat} (hi : i < row.length) (hs : Sd s) : 0 ≤ lastI row s i ∧ lastI row s i < row.length := by
  have h := (fell_chn row s i).le
  unfold lastI
  rcases hs with rfl | rfl
  · have : ah row 1 i = row.length - 1 - i := by unfold ah; simp
    omega
  · have : ah row (-1) i = i := by unfold ah; simp
    omega
theorem run_felled_by {ds : List Da} {es : List Da} (h : P_felled_by ds es) : Run K (t_felled_by K C) (ent ds 1) (retL es) := by
  obtain ⟨row, i, s, rfl, ⟨hi, hn, hs⟩, rfl⟩ := h
  have hl := lastI_in hi hs
  refine run_seq (run_asg (d := .int (lastI row s i)) ?_ ?_)
  · exact ev_ixT (ev_call (ds := [rowD row, .int i, .int s]) (ea_cons (ev_var rfl) (ea_cons (ev_var rfl) (ea_cons (ev_var rfl) ea_nil))) ⟨row, i, s, rfl, ⟨hi, hn, hs⟩, rfl⟩) ev_int rfl
  · refine run_retN (en_listRg (ev_min2 (ev_var rfl) (ev_var rfl)) (ev_add (ev_max2 (ev_var rfl) (ev_var rfl)) ev_int) ?_) ?_
    · refine RgOk.of_le ?_ ?_ ?_ ?_ <;> (repeat' split) <;> omega
    · show _ = intL (fellL row i s)
      unfold fellL spanL intL
      rw [List.map_map]
      rfl
theorem run_mirrored {ds : List Da} {es : List Da} (h : P_mirrored ds es) : Run K (t_mirrored K C) (ent ds 2) (retL es) := by
  obtain ⟨row, rfl, ok, rfl⟩ := h
  refine run_seq (run_drop (d := .non) (ev_call (ds := [rowD row]) (ea_cons (ev_var rfl) ea_nil) ⟨row, rfl, ok, rfl⟩) ?_)
  refine run_retN (en_lc (us := [1, 2]) prD (fun _ => true) (fun p => prD (-p.1, p.2)) row.reverse ?_ (by simp) (by rw [List.length_reverse]; have := ok.few; omega) fun p hp => ⟨_, tc_tup2 tc_name tc_name, eb_yes, fun _ => ?_⟩) ?_
  · have := wk_rev (K := K) (env := imm (ent [rowD row] 2)) (te := tVar 0) (ta := tVar 0) (ds := rowL row) (ev_var rfl)
    rw [List.map_reverse]
    exact this
  · exact ev_tup (ea_cons (ev_neg (ev_var rfl)) (ea_cons (ev_var rfl) ea_nil))
  · show _ = rowL (mir row)
    unfold mir rowL
    rw [List.map_map, List.filter_eq_self.mpr fun _ _ => rfl]
    rfl
theorem run_felled {ds : List Da} {es : List Da} (h : P_felled ds es) : Run K (t_felled K C) (ent ds 0) (retL es) := by
  obtain ⟨row, i, s, rfl, ⟨hi, ok, hs⟩, rfl⟩ := h
  refine run_seq (run_drop (d := .non) (ev_call (ds := [rowD row]) (ea_cons (ev_var rfl) ea_nil) ⟨row, rfl, ok, rfl⟩) ?_)
  refine run_seq (run_drop (d := .non) (ev_call (ds := [rowD row, .int i]) (ea_cons (ev_var rfl) (ea_cons (ev_var rfl) ea_nil)) ⟨row, i, rfl, by omega, rfl⟩) ?_)
  refine run_seq (run_drop (d := .non) (ev_call (ds := [.int s]) (ea_cons (ev_var rfl) ea_nil) ⟨s, rfl, hs, rfl⟩) ?_)
  exact run_retN (en_call (ds := [rowD row, .int i, .int s]) (ea_cons (ev_var rfl) (ea_cons (ev_var rfl) (ea_cons (ev_var rfl) ea_nil))) ⟨row, i, s, rfl, ⟨hi, ok.few, hs⟩, rfl⟩) rfl
end

/-! ### the same, as a def's body asks it -/
section
variable {K : PySem.W.Frag} {C : CS} {vs : List V} {H : Hp} {Q : VK} {E : XK}
theorem len_is_number (h : sp_is_number K C vs H Q E) : vs.length = 1 := len_P (m := 1) (fun ds d ⟨_, e, _⟩ => by rw [e]; rfl) h
theorem pure_is_number (h : sp_is_number K C vs H Q E) : t_is_number K C { nx := fun _ H' => Q .non H', rt := Q } (start ["thing"] vs) H := fnP_of 0 (fun ds d ⟨_, e, _⟩ => by rw [e]; rfl) (fun ds d p => run_is_number p) h
theorem len_is_pair (h : sp_is_pair K C vs H Q E) : vs.length = 1 := len_P (m := 1) (fun ds d ⟨_, e, _⟩ => by rw [e]; rfl) h
theorem pure_is_pair (h : sp_is_pair K C vs H Q E) : t_is_pair K C { nx := fun _ H' => Q .non H', rt := Q } (start ["thing"] vs) H := fnP_of 0 (fun ds d ⟨_, e, _⟩ => by rw [e]; rfl) (fun ds d p => run_is_pair p) h
theorem len_check_row (h : sp_check_row K C vs H Q E) : vs.length = 1 := len_P (m := 1) (fun ds d ⟨_, e, _⟩ => by rw [e]; rfl) h
theorem pure_check_row (h : sp_check_row K C vs H Q E) : t_check_row K C { nx := fun _ H' => Q .non H', rt := Q } (start ["row", "stone", "at"] vs) H := fnP_of 2 (fun ds d ⟨_, e, _⟩ => by rw [e]; rfl) (fun ds d p => run_check_row p) h
theorem len_check_stone (h : sp_check_stone K C vs H Q E) : vs.length = 2 := len_P (m := 2) (fun ds d ⟨_, _, e, _⟩ => by rw [e]; rfl) h
theorem pure_check_stone (h : sp_check_stone K C vs H Q E) : t_check_stone K C { nx := fun _ H' => Q .non H', rt := Q } (start ["row", "stone"] vs) H := fnP_of 0 (fun ds d ⟨_, _, e, _⟩ => by rw [e]; rfl) (fun ds d p => run_check_stone p) h
theorem len_check_side (h : sp_check_side K C vs H Q E) : vs.length = 1 := len_P (m := 1) (fun ds d ⟨_, e, _⟩ => by rw [e]; rfl) h
theorem pure_check_side (h : sp_check_side K C vs H Q E) : t_check_side K C { nx := fun _ H' => Q .non H', rt := Q } (start ["side"] vs) H := fnP_of 0 (fun ds d ⟨_, e, _⟩ => by rw [e]; rfl) (fun ds d p => run_check_side p) h
theorem len_last_felled (h : sp_last_felled K C vs H Q E) : vs.length = 3 := len_P (m := 3) (fun ds d ⟨_, _, _, e, _⟩ => by rw [e]; rfl) h
theorem pure_last_felled (h : sp_last_felled K C vs H Q E) : t_last_felled K C { nx := fun _ H' => Q .non H', rt := Q } (start ["row", "stone", "side", "far", "last"] vs) H := fnP_of 2 (fun ds d ⟨_, _, _, e, _⟩ => by rw [e]; rfl) (fun ds d p => run_last_felled p) h
theorem len_felled_by (h : sp_felled_by K C vs H Q E) : vs.length = 3 := len_L (m := 3) (fun ds d ⟨_, _, _, e, _⟩ => by rw [e]; rfl) h
theorem pure_felled_by (h : sp_felled_by K C vs H Q E) : t_felled_by K C { nx := fun _ H' => Q .non H', rt := Q } (start ["row", "stone", "side", "last"] vs) H := fnL_of 1 (fun ds d ⟨_, _, _, e, _⟩ => by rw [e]; rfl) (fun ds d p => run_felled_by p) h
theorem len_mirrored (h : sp_mirrored K C vs H Q E) : vs.length = 1 := len_L (m := 1) (fun ds d ⟨_, e, _⟩ => by rw [e]; rfl) h
theorem pure_mirrored (h : sp_mirrored K C vs H Q E) : t_mirrored K C { nx := fun _ H' => Q .non H', rt := Q } (start ["row", "place", "height"] vs) H := fnL_of 2 (fun ds d ⟨_, e, _⟩ => by rw [e]; rfl) (fun ds d p => run_mirrored p) h
theorem len_felled (h : sp_felled K C vs H Q E) : vs.length = 3 := len_L (m := 3) (fun ds d ⟨_, _, _, e, _⟩ => by rw [e]; rfl) h
theorem pure_felled (h : sp_felled K C vs H Q E) : t_felled K C { nx := fun _ H' => Q .non H', rt := Q } (start ["row", "stone", "side"] vs) H := fnL_of 0 (fun ds d ⟨_, _, _, e, _⟩ => by rw [e]; rfl) (fun ds d p => run_felled p) h
end
end FR

/-! set(xs) of a list of ints; list(range(a, b, c)); a chain of three. -/
namespace FR
open PySem PyProof.Rows

/-- a set as it is made, without members -/
abbrev bare (w : World) : Obj := { cls := .type "set", dict := none, data := .set #[] 0 (.fresh 0 0 (!w.params.followText "set-order")) }
section
variable {P : Program} {w : World} {A : Around} {E : Value → Shared → Prop} {s : Shared}
/-- what set(l) leaves: all kept, the new set told -/
def Left (w : World) (s : Shared) (ns : List Int) (h' : Heap) (c : Nat) : Prop :=
  L2.SetR w h' s.heap.objs.size (fun j => decide (j ∈ ns)) c ∧ c ≤ ns.length ∧ ∀ b o, s.heap.get? b = some o → h'.get? b = some o
theorem set_of_list {l : Addr} {xs : Array Value} {ns : List Int} {Q : Value → Shared → Prop} (calm : A.handled = none) (isl : s.heap.IsList l xs) (hin : PyProof.Rows.IntsAre xs.toList ns) (room : ns.length + 1 < scanBound)
    (k : ∀ (h' : Heap) (tk c : Nat), Left w s ns h' c → Q (.ref s.heap.objs.size) { s with heap := h', toks := tk }) : wpAny (model P w) A (call (.type "set") [.ref l]) Q E s := by
  have size : xs.size = ns.length := by
    rw [← Array.length_toList]
    exact PyProof.Rows.IntsAre.length hin
  have ⟨_, _, m1⟩ := F.called_set.mro
  have m2 := F.called_set.made
  have m3 := F.called_set.sub
  refine wpAny_call (codeAny_of_tree ?_)
  show wpAny _ _ (callAny (.type "set") ⟨[.ref l], []⟩) _ _ s
  refine wpAny_pure ⟨Code.quiet_builtin _ (by decide +kernel), codeAny_builtin F.entry_type_call ?_⟩
  rw [Around.under_plain (weight_type_call_type "set" [.ref l] []) rfl]
  have m4 := F.called_set.notType
  have m5 := F.called_set.canCreate
  have m6 := F.typeCall_set_1 (.ref l)
  repeat any_goals first | assumption | wp_step
  refine codeAny_mono (L2.code_set_led1 (.ref l) (E := E) (Q₁ := fun z t => z = .ref s.heap.objs.size ∧ t = { s with heap := s.heap.push (bare w) }) ⟨rfl, rfl⟩) fun r t hr => ?_
  match r, hr with
  | .error e, hr => exact hr
  | .ok .next, hr => exact hr.elim
  | .ok .brk, hr => exact hr.elim
  | .ok .cont, hr => exact hr.elim
  | .ok (.ret z), hr =>
    obtain ⟨rfl, rfl⟩ := hr
    have at0 : (s.heap.push (bare w)).get? s.heap.objs.size = some (bare w) := Heap.get?_push_size _ rfl
    have isS : Shared.TypeIs { s with heap := s.heap.push (bare w) } (.ref s.heap.objs.size) "set" := ⟨_, at0, rfl⟩
    have i1 := F.called_set.init.lookup
    have i2 := F.called_set.init.bind (.ref s.heap.objs.size)
    repeat any_goals first | assumption | wp_step
    refine codeAny_mono (codeAny_call_builtin (R := wants (fun r t => r = .none ∧ ∃ h' tk c, t = { s with heap := h', toks := tk } ∧ Left w s ns h' c) E) F.called_set.init.plain F.entry_set_init (check_set_init_1 isS ?_)) fun r t hr => ?_
    · obtain ⟨⟨oc, od, ot, os⟩, ho, hc, hn, hd⟩ := isl
      simp only at hc hd
      subst hc hd
      have ho1 : (s.heap.push (bare w)).get? l = some { cls := .type "list", dict := od, data := .seq xs hn, slots := os } := Heap.get?_push_of_some _ ho
      have u1 := F.sub_list_set
      have u2 := F.sub_list_frozenset
      have u3 : (Value.type "list" == Value.type "dict") = false := by decide
      have isl1 : (s.heap.push (bare w)).IsList l xs := ⟨_, ho1, rfl, hn, rfl⟩
      unfold Builtin.«set.__init__» noKeywords Builtin.Frozenset.updateFrom
      generalize gi : pyIter = it
      wp_walk
      subst gi
      refine wpAny_pyIter_list isl1 (wpAny_bind (wpAny_runValue ?_))
      have lt0 : l < s.heap.objs.size := Heap.lt_size ho
      have big : (s.heap.push (bare w)).objs.size = s.heap.objs.size + 1 := Heap.size_push ..
      have ne0 : l ≠ (s.heap.push (bare w)).objs.size := fun z => by
        rw [big] at z
        exact Nat.lt_irrefl _ (Nat.lt_of_lt_of_le (Nat.lt_succ_of_lt lt0) (Nat.le_of_eq z.symm))
      have out : s.heap.objs.size ∉ [(s.heap.push (bare w)).objs.size, l] := by
        rw [big]
        intro z
        rcases List.mem_cons.mp z with z | z
        · exact Nat.lt_irrefl _ (Nat.lt_of_lt_of_le (Nat.lt_succ_self _) (Nat.le_of_eq z.symm))
        · exact Nat.ne_of_gt lt0 (List.mem_singleton.mp z)
      refine L2.set_update_ints ((Walks.list (show A.in1.in1.in1.handled = none by simp [calm]) _ l ne0 xs).toS) s.heap.objs.size out ns size room (fun i v hv => ?_) (xs.size - 0) 0 _ (by omega) (Nat.zero_le _) ⟨⟨_, Heap.get?_push_size _ rfl, rfl, rfl⟩, isl1.push _⟩ ?_ ?_
      · have hi : i < ns.length := by
          rw [← size]
          exact (Array.getElem?_eq_some_iff.mp hv).1
        obtain ⟨t, e⟩ := PyProof.Rows.IntsAre.int_at hin i v (by rw [Array.getElem?_toList]; exact hv)
        refine ⟨ns[i], t, List.getElem?_eq_getElem hi, ?_⟩
        rw [e, List.getD_eq_getElem?_getD, List.getElem?_eq_getElem hi]
        rfl
      · exact ⟨0, Nat.le_refl 0, L2.setR_new_at (Heap.get?_push_of_some _ at0)⟩
      · intro t c moved hc hS
        obtain ⟨th, tg, td, tt, to⟩ := t
        obtain rfl : tg = s.gens := moved.gens
        obtain rfl : td = s.drawn := moved.drawn
        obtain rfl : to = s.os := moved.os
        show wpAny _ _ _ _ _ _
        refine wpAny_pure ?_
        show wpAny _ _ (ret Value.none) _ _ _
        refine wpAny_pure ⟨rfl, th, tt, c, rfl, hS, by omega, fun b o e => ?_⟩
        have hb : b < s.heap.objs.size := Heap.lt_size e
        refine moved.heap b o (fun z => ?_) (Heap.get?_push_of_some _ (Heap.get?_push_of_some _ e))
        rcases List.mem_cons.mp z with z | z
        · exact Nat.ne_of_lt hb z
        · rw [List.mem_singleton.mp z, big] at hb
          exact Nat.lt_irrefl _ (Nat.lt_of_lt_of_le hb (Nat.le_succ _))
    · match r, hr with
      | .error e, hr => exact hr
      | .ok .next, hr => exact hr.elim
      | .ok .brk, hr => exact hr.elim
      | .ok .cont, hr => exact hr.elim
      | .ok (.ret z), hr =>
        obtain ⟨rfl, h', tk, c, rfl, left⟩ := hr
        repeat any_goals first | assumption | wp_step
        exact k h' tk c left
end
end FR

namespace FR
open PySem L2 Evl
open PySem.Spec PyProof.Rows
/-! ### sorted(set(xs)) -/
def rSetI (K : PySem.W.Frag) (w : World) : List V → Hp → VK → Prop := fun xs H Q => ∃ (a : Addr) (ns : List Int), xs = [.ref a] ∧ SqL K H a (ns.map V.int) ∧ ns.length < 4000 ∧
  ∀ (c : Nat) (p : Addr), c ≤ ns.length → H p = none → Q (.ref p) (upd H p (SetO w p (fun j => decide (j ∈ ns)) c))
theorem cr_setI {X : Cx} (hc : X.calm = true) : CallR X (.type "set") (rSetI X.K X.w) := by
  intro pins s σ H xs us Q I r h
  obtain ⟨a, ns, rfl, hS, hn, q⟩ := h
  rw [Vals.ref1 r]
  obtain ⟨its, rv, pl, hz⟩ := I.list hS
  have hi : PyProof.Rows.IntsAre its.toArray.toList ns := by
    have z := ints_of_vals rv
    simpa using z
  refine set_of_list (I.ok.hd hc) pl.isList hi (by unfold scanBound; omega) fun h' tk c left => ?_
  have new : H s.heap.objs.size = none := I.hok.fresh (Nat.le_refl _)
  exact ⟨.ref s.heap.objs.size, upd H s.heap.objs.size (SetO X.w s.heap.objs.size (fun j => decide (j ∈ ns)) c), I.laid (t' := tk) left.2.2 (Nat.le_refl _) (setO_new left.1), rfl, q c _ left.2.1 new⟩
section
variable {K : PySem.W.Frag} {w : World} {env : En} {te ta tb tc td : TE} {ns ms : List Int} {i j c : Int}
theorem en_sortedSet (ha : EvE K te env (intsD ns)) (hn : ns.length < 64) (hm : ∀ ns' : List Int, ns'.Pairwise (· < ·) → (∀ k : Int, k ∈ ns' ↔ k ∈ ns) → ns' = ms) : EvN K (tCB (rSortedSet w) (tCons (tCB (rSetI K w) (tCons te tNil)) tNil)) env (intL ms) := fun σ B s H1 e Q q =>
  ha σ B s H1 e _ fun v B2 H2 g r => by
    simp only [intsD, Rp] at r
    obtain ⟨a, xs, rfl, h2, h3⟩ := r
    have z := rp_ints h3
    subst z
    refine ⟨a, ns, rfl, sq_of (g.h _ _ h2), by omega, fun cc p hc hp => ⟨p, fun j => decide (j ∈ ns), cc, rfl, upd_same, by omega, fun ns' l h1 h4 _ hl => ?_⟩⟩
    have z2 := hm ns' h1 fun k => by rw [h4 k]; simp
    subst z2
    have e2 : Ex H2 (upd H2 p (SetO w p (fun j => decide (j ∈ ns)) cc)) := Ex.new hp
    have g2 := g.trans (Gr.keep g.h e2)
    exact q l _ B2 _ (g2.trans (Gr.put g2.h hl)) (fresh_back g2.k hl) (fresh_back g2.h hl) upd_same (ints_rp ns')

/-! ### list(range(a, b, c)) -/
def stepV (i c : Int) (n : Nat) : List V := (List.range n).map fun k => V.int (i + (k : Nat) * c)
theorem vals_step {i c : Int} {n : Nat} {acc : Array Value} (h : ItemsOf (fun k v => ∃ t, v = .int (i + k * c) t) acc n) : Vals (stepV i c n) acc.toList := by
  have e : acc.toList.length = n := by
    rw [Array.length_toList]
    exact h.1
  unfold stepV
  rw [← e]
  refine vals_of_get acc.toList _ fun k u hk => ?_
  obtain ⟨t, rfl⟩ := h.2 k u (by rw [← hk, Array.getElem?_toList])
  exact ⟨t, rfl⟩
/-- bounds of a stepped range -/
def RgS (i j c : Int) (n : Nat) : Prop := c ≠ 0 ∧ c.natAbs < 1073741824 ∧ Builtin.Range.small i j c = true ∧ Builtin.Range.rangeSize i j c = n ∧ n ≤ 2 ^ 24
def tLstRg3 (ta tb tc : TE) : TE := fun σ H Q => ta σ H fun x H1 => tb σ H1 fun y H2 => tc σ H2 fun z H3 => ∃ (i j c : Int) (n : Nat), [x, y, z] = [.int i, .int j, .int c] ∧ RgS i j c n ∧ ∀ q, H3 q = none → Q (.ref q) (upd H3 q (.lst (stepV i c n)))
theorem pe_listRg3 {X : Cx} {a b c : Expr} {ta tb tc : TE} {p pos p' pos' : Pos} (hc : X.calm = true) (hg : Gl X "list") (hm : X.mg "list" = none) (hg' : Gl X "range") (hm' : X.mg "range" = none) (ha : PE X a ta) (hb : PE X b tb) (hd : PE X c tc)
    (n1 : starEach [.Call (.Name "range" p') [a, b, c] [] pos'] X.env = (false, eval (.Call (.Name "range" p') [a, b, c] [] pos') X.env) :: starEach [] X.env := by rfl)
    (n2 : starEach [a, b, c] X.env = (false, eval a X.env) :: starEach [b, c] X.env := by rfl) (n3 : (backTo pos' (starEach [b, c] X.env)).any (·.1) = false := by rfl) (n4 : starEach [b, c] X.env = (false, eval b X.env) :: starEach [c] X.env := by rfl) (n5 : starEach [c] X.env = (false, eval c X.env) :: starEach [] X.env := by rfl) :
    PE X (.Call (.Name "list" p) [.Call (.Name "range" p') [a, b, c] [] pos'] [] pos) (tLstRg3 ta tb tc) := by
  refine ⟨fun pins s σ H Q I h => ?_⟩
  have args : PA X [a, b, c] (tCons ta (tCons tb (tCons tc tNil))) := pa_cons ha (pa_cons hb (pa_cons hd pa_nil n5) n4) n2
  have h3 : tCons ta (tCons tb (tCons tc tNil)) σ H fun vs H3 => ∃ (i j k : Int) (n : Nat), vs = [.int i, .int j, .int k] ∧ RgS i j k n ∧ ∀ q, H3 q = none → Q (.ref q) (upd H3 q (.lst (stepV i k n))) := h
  have inner : wpAny (model X.prog X.w) X.A (eval (.Call (.Name "range" p') [a, b, c] [] pos') X.env) (fun x s' => ∃ (r : Addr) (i j k : Int) (n : Nat) (t u v : Tok) (H' : Hp), x = .ref r ∧ IsRange s'.heap r i j k t u v ∧ Inv X pins σ H' s' ∧ RgS i j k n ∧ ∀ q, H' q = none → Q (.ref q) (upd H' q (.lst (stepV i k n)))) X.xe s := by
    refine Call_ (ld_blt I hg' hm' boot_range (PyProof.Rows.callWith_type1 (thn (args.run pos' pins s σ H (fun vs H3 => ∃ (i j k : Int) (n : Nat), vs = [.int i, .int j, .int k] ∧ RgS i j k n ∧ ∀ q, H3 q = none → Q (.ref q) (upd H3 q (.lst (stepV i k n)))) I ?_) fun us s1 ⟨vs, H1, I1, r1, q1⟩ => ?_) n2 n3))
    · exact h3
    · obtain ⟨i, j, k, n, rfl, ok, q⟩ := q1
      cases r1 with
      | cons r rr =>
        cases rr with
        | cons r' rr =>
          cases rr with
          | cons r'' rr =>
            cases rr
            obtain ⟨t, rfl⟩ := r
            obtain ⟨t', rfl⟩ := r'
            obtain ⟨t'', rfl⟩ := r''
            exact call_range_3 ok.1 ⟨_, i, j, k, n, _, _, _, H1, rfl, IsRange.new .., I1.kept fun b o e => Heap.get?_push_of_some _ e, ok, q⟩ (.inl (PyProof.noPylong_small ok.2.1))
  refine Call_ (ld_blt I hg hm boot_list (PyProof.Rows.callWith_type1 (args_cons (thn inner fun x s1 ⟨r, i, j, k, n, t, u, v, H1, ex, hr, I1, ok, q⟩ => args_nil ?_) n1) n1))
  subst ex
  refine call_list_range (n := n) (I1.ok.hd hc) hr ok.2.2.1 ok.2.2.2.1 ok.2.2.2.2 fun h' tk acc c' hk e' hi => ?_
  refine ⟨.ref s1.heap.objs.size, upd H1 s1.heap.objs.size (.lst (stepV i k n)), I1.laid hk (Nat.le_refl _) (show ObjOk X.prog X.w _ _ _ (.lst (stepV i k n)) from ⟨?_, acc.toList, c', vals_step hi, ?_⟩), rfl, q _ (I1.hok.fresh (Nat.le_refl _))⟩
  · unfold stepV
    rw [List.length_map, List.length_range, sizeLine_eq]
    exact ok.2.2.2.2
  · rw [Array.toArray_toList]
    exact e'
theorem en_listRg3 {n : Nat} (ha : EvE K ta env (.int i)) (hb : EvE K tb env (.int j)) (hc : EvE K tc env (.int c)) (h : RgS i j c n) : EvN K (tLstRg3 ta tb tc) env (intL ((List.range n).map fun k => i + ((k : Nat) : Int) * c)) := fun σ B s H1 e Q q =>
  ha σ B s H1 e _ fun v B2 H2 g2 r2 => hb σ B2 (s.mono g2.b) H2 g2.h _ fun w B3 H3 g3 r3 => hc σ B3 ((s.mono g2.b).mono g3.b) H3 g3.h _ fun u B4 H4 g4 r4 => by
    simp only [Rp] at r2 r3 r4
    subst r2 r3 r4
    have g := (g2.trans g3).trans g4
    refine ⟨i, j, c, n, rfl, h, fun p hp => q p _ B4 _ (g.trans (Gr.put g.h hp)) (fresh_back g.k hp) (fresh_back g.h hp) upd_same ?_⟩
    have z := ints_rp (K := K) (B := B4) ((List.range n).map fun k => i + ((k : Nat) : Int) * c)
    have ez : stepV i c n = List.map V.int ((List.range n).map fun k => i + ((k : Nat) : Int) * c) := by
      unfold stepV
      rw [List.map_map]
      rfl
    rw [ez]
    exact z
theorem rgS_neg {a b : Int} (h0 : -1000000 ≤ a) (h1 : a ≤ 1000000) (h2 : -1000000 ≤ b) (h3 : b ≤ 1000000) : RgS a b (-1) (a - b).toNat := by
  have z := RgC.neg (i := a) (j := b) (by omega) (by omega) (by omega) (by omega)
  exact ⟨z.1, z.2.1, z.2.2.1, z.2.2.2, by omega⟩
theorem rgS_pos {a b c : Int} (hc : 0 < c) (hc1 : c ≤ 1000000) (h0 : 0 ≤ a) (h1 : a ≤ 1000000) (h2 : 0 ≤ b) (h3 : b ≤ 1000000) : RgS a b c (Builtin.Range.rangeSize a b c).toNat := by
  have e : Builtin.Range.rangeSize a b c = if a < b then (b - a - 1) / c + 1 else 0 := by
    unfold Builtin.Range.rangeSize
    rw [if_pos hc]
  have hq : (b - a - 1) / c ≤ b - a - 1 ∨ b - a - 1 < 0 := by
    by_cases z : b - a - 1 < 0
    · exact .inr z
    · exact .inl (Int.ediv_le_self _ (by omega))
  have hq0 : a < b → 0 ≤ (b - a - 1) / c := fun z => Int.ediv_nonneg (by omega) (by omega)
  refine ⟨by omega, by omega, ?_, ?_, ?_⟩
  · unfold Builtin.Range.small
    rw [e]
    simp only [Builtin.Range.rangeFitsLong, Bool.and_eq_true, Bool.or_eq_true, decide_eq_true_eq, beq_iff_eq, if_pos hc]
    split <;> omega
  · rw [e]
    split <;> omega
  · rw [e]
    split <;> omega
end
/-! ### a chain of three -/
def tChain3 (r r' r'' : R2) (ta tb tc td : TE) : TE := fun σ H Q => ta σ H fun x H1 => tb σ H1 fun y H2 => r x y H2 fun z H3 => ∃ k, z = .bl k ∧
  (if k = true then tc σ H3 fun w' H4 => r' y w' H4 fun z' H5 => ∃ k', z' = .bl k' ∧ (if k' = true then td σ H5 fun u H6 => r'' w' u H6 Q else Q (.bl false) H5) else Q (.bl false) H3)
section
variable {X : Cx} {a b c d : Expr} {ta tb tc td : TE} {pos : Pos}
theorem pe_chain3 {op op' op'' : CmpOp} {r r' r'' : R2} (ho : OpR X (compareOp op) r) (ho' : OpR X (compareOp op') r') (ho'' : OpR X (compareOp op'') r'') (ha : PE X a ta) (hb : PE X b tb) (hc : PE X c tc) (hd : PE X d td)
    (hm : lastMarks [op, op', op''] [b, c, d] = false := by with_unfolding_all rfl) : PE X (.Compare a [op, op', op''] [b, c, d] pos) (tChain3 r r' r'' ta tb tc td) := by
  refine ⟨fun pins s σ H Q I h => Compare_chain (thn (ha.run pins s σ H _ I h) fun v s1 ⟨x, H1, I1, r1, q1⟩ => chain_link (thn (hb.run pins s1 σ H1 _ I1 q1) fun u s2 ⟨y, H2, I2, r2, q2⟩ =>
    thn (ho pins s2 σ H2 x y v u _ I2 r1 r2 q2) fun z s3 ⟨z', H3, I3, r3, k, e, q3⟩ => ?_)) hm⟩
  subst e
  cases r3
  refine wpAny_truthy_bool ?_
  cases k with
  | false => exact ite_ff ⟨.bl false, H3, I3, rfl, q3⟩
  | true =>
    refine ite_tt (chain_link (thn (hc.run pins s3 σ H3 _ I3 q3) fun w' s4 ⟨c', H4, I4, r4, q4⟩ => thn (ho' pins s4 σ H4 y c' u w' _ I4 r2 r4 q4) fun z s5 ⟨z', H5, I5, r5, k', e', q5⟩ => ?_))
    subst e'
    cases r5
    refine wpAny_truthy_bool ?_
    cases k' with
    | false => exact ite_ff ⟨.bl false, H5, I5, rfl, q5⟩
    | true => exact ite_tt (chain_last (thn (hd.run pins s5 σ H5 _ I5 q5) fun u' s6 ⟨d', H6, I6, r6, q6⟩ => ho'' pins s6 σ H6 c' d' w' u' Q I6 r4 r6 q6))
end
section
variable {K : PySem.W.Frag} {env : En} {ta tb tc td : TE} {i j l m : Int}
theorem ev_chain3I {g g' g'' : Int → Int → V} {k b b' : Bool} (hg : g i j = .bl k) (hg' : g' j l = .bl b) (hg'' : g'' l m = .bl b') (ha : EvE K ta env (.int i)) (hb : EvE K tb env (.int j)) (hc : EvE K tc env (.int l)) (hd : EvE K td env (.int m)) :
    EvE K (tChain3 (rI0 g) (rI0 g') (rI0 g'') ta tb tc td) env (.bl (k && (b && b'))) := fun σ B s H1 e Q q =>
  ha σ B s H1 e _ fun v B2 H2 g2 r2 => hb σ B2 (s.mono g2.b) H2 g2.h _ fun w B3 H3 g3 r3 => by
    simp only [Rp] at r2 r3
    subst r2 r3
    have ga := g2.trans g3
    refine ⟨i, j, rfl, rfl, k, hg, ?_⟩
    cases k with
    | false => exact iteF (q _ B3 H3 ga (by simp only [Rp, Bool.false_and]))
    | true =>
      refine iteT (hc σ B3 (s.mono ga.b) H3 ga.h _ fun u B4 H4 g4 r4 => ?_)
      simp only [Rp] at r4
      subst r4
      refine ⟨j, l, rfl, rfl, b, hg', ?_⟩
      cases b with
      | false => exact iteF (q _ B4 H4 (ga.trans g4) (by simp only [Rp, Bool.false_and, Bool.true_and]))
      | true =>
        refine iteT (hd σ B4 (s.mono (ga.trans g4).b) H4 (ga.trans g4).h _ fun u B5 H5 g5 r5 => ?_)
        simp only [Rp] at r5
        subst r5
        exact ⟨l, m, rfl, rfl, q _ B5 H5 ((ga.trans g4).trans g5) (by simp only [Rp, Bool.true_and]; exact hg'')⟩
end
end FR

/-! The laws' own row and their look at numbers. -/
namespace FR
open PySem L2 Evl
local macro_rules | `(tactic| walk_at "ev") => `(tactic| first
  | (apply ev_pr0; walk_at "ev")
  | (apply ev_pr1; walk_at "ev")
  | (apply ev_lenR; walk_at "ev")
  | (apply ev_lenI; walk_at "ev"))
local macro_rules | `(tactic| walk_at "side") => `(tactic| first | assumption | decide | omega | (exact Or.inl ⟨by decide, by decide⟩) | (exact Or.inr ⟨by decide, by decide⟩))
local macro_rules | `(tactic| walk_at "wk") => `(tactic| first
  | (apply wk_rng1 <;> first | walk_at "ev" | walk_at "side")
  | (apply wk_rng2 <;> first | walk_at "ev" | walk_at "side")
  | (apply wk_list; walk_at "ev")
  | (apply wk_sq; walk_at "ev")
  | (apply wk_tup; walk_at "ev"))
local macro_rules | `(tactic| walk_at "en") => `(tactic| first
  | (apply en_lst <;> first | walk_at "ea" | simp)
  | (apply en_listL; walk_at "ev")
  | (apply en_listT; walk_at "ev")
  | (apply en_rev; walk_at "ev")
  | (apply en_slL <;> first | walk_at "ev" | walk_at "eo")
  | (apply en_slQ <;> first | walk_at "ev" | walk_at "eo"))
local macro_rules | `(tactic| walk_at "eo") => `(tactic| first
  | exact eo_none
  | (apply eo_some; walk_at "ev"))
local macro_rules | `(tactic| walk_at "ea") => `(tactic| first
  | exact ea_nil
  | (apply ea_cons <;> first | walk_at "ev" | walk_at "ea"))
local macro_rules | `(tactic| walk_at "eb") => `(tactic| first
  | exact eb_yes
  | (apply eb_not; walk_at "eb")
  | (apply eb_test; walk_at "ev")
  | (apply eb_B; walk_at "ev"))
local macro_rules | `(tactic| walk_at "ev") => `(tactic| first
  | exact ev_int
  | exact ev_bl
  | exact ev_non
  | exact ev_ty
  | exact ev_str
  | exact ev_cls
  | exact ev_var rfl
  | assumption
  | (apply ev_row0 <;> first | walk_at "ev" | walk_at "side")
  | (apply ev_row1 <;> first | walk_at "ev" | walk_at "side")
  | (apply ev_rowI <;> first | walk_at "ev" | walk_at "side")
  | (apply ev_add <;> walk_at "ev")
  | (apply ev_sub <;> walk_at "ev")
  | (apply ev_mul <;> first | walk_at "ev" | walk_at "side")
  | (apply ev_neg; walk_at "ev")
  | (apply ev_lt <;> walk_at "ev")
  | (apply ev_le <;> walk_at "ev")
  | (apply ev_gt <;> walk_at "ev")
  | (apply ev_ge <;> walk_at "ev")
  | (apply ev_mod <;> first | walk_at "ev" | walk_at "side")
  | (apply ev_div <;> first | walk_at "ev" | exact ⟨by decide, by decide⟩)
  | (apply ev_eqI <;> walk_at "ev")
  | (apply ev_neI <;> walk_at "ev")
  | (apply ev_max2 <;> walk_at "ev")
  | (apply ev_min2 <;> walk_at "ev")
  | (apply ev_abs; walk_at "ev")
  | (apply ev_lenL; walk_at "ev")
  | (apply ev_lenQ; walk_at "ev")
  | (apply ev_lenT; walk_at "ev")
  | (apply ev_isiB <;> first | walk_at "ev" | rfl | decide +kernel)
  | (apply ev_chainI rfl rfl <;> first | walk_at "ev" | (intro _; walk_at "ev"))
  | (apply ev_notV; walk_at "ev")
  | (apply ev_tup <;> first | walk_at "ea" | simp)
  | (apply ev_new; walk_at "en"))


/-! ### the row of a script -/
def apH (c : Int) : Int × Int := if c % 4 = 0 then (3, 4) else if c % 4 = 1 then (9, 12) else if c % 4 = 2 then (10 ^ 20, 10 ^ 20) else (6, 4)
def stepP (ap p c : Int) : Int := p + 1 + c % ap
def stepH (ap hi c : Int) : Int := 1 + (c / ap + c / 11) % hi
def endP (ap : Int) : Int → List Int → Int
  | p, [] => p
  | p, c :: r => endP ap (stepP ap p c) r
def goR (ap hi : Int) : Int → List Int → List (Int × Int)
  | _, [] => []
  | p, c :: r => (stepP ap p c, stepH ap hi c) :: goR ap hi (stepP ap p c) r
def lrow (ns : List Int) : List (Int × Int) := goR (apH ns.sum).1 (apH ns.sum).2 (-(ns.sum / 4 % 90)) ns
theorem endP_snoc (ap c : Int) : ∀ (l : List Int) (p : Int), endP ap p (l ++ [c]) = stepP ap (endP ap p l) c
  | [], p => rfl
  | x :: l, p => endP_snoc ap c l (stepP ap p x)
theorem goR_snoc (ap hi c : Int) : ∀ (l : List Int) (p : Int), goR ap hi p (l ++ [c]) = goR ap hi p l ++ [(stepP ap (endP ap p l) c, stepH ap hi c)]
  | [], p => rfl
  | x :: l, p => by
    show _ :: goR ap hi (stepP ap p x) (l ++ [c]) = _
    rw [goR_snoc ap hi c l (stepP ap p x)]
    rfl
theorem goR_len (ap hi : Int) : ∀ (l : List Int) (p : Int), (goR ap hi p l).length = l.length
  | [], p => rfl
  | x :: l, p => by
    show (goR ap hi (stepP ap p x) l).length + 1 = _
    rw [goR_len ap hi l]
    rfl
theorem apH_pos (c : Int) : (0 < (apH c).1 ∧ (apH c).1 ≤ 10 ^ 20) ∧ 0 < (apH c).2 := by
  unfold apH
  repeat' split
  all_goals decide
theorem apH_W (c x : Int) : CDivW x (apH c).1 := by
  unfold apH
  repeat' split
  all_goals exact ⟨by decide, by decide +kernel⟩
theorem goR_pos {ap hi : Int} (hh : 0 < hi) : ∀ (l : List Int) (p : Int) (i : Nat), i < l.length → 0 < ((goR ap hi p l).getD i (0, 0)).2
  | [], p, i, h => by simp at h
  | x :: l, p, 0, h => by
    show 0 < 1 + (x / ap + x / 11) % hi
    have := Int.emod_nonneg (x / ap + x / 11) (by omega : hi ≠ 0)
    omega
  | x :: l, p, i + 1, h => goR_pos hh l (stepP ap p x) i (by simpa using h)
theorem goR_inc {ap hi : Int} (ha : 0 < ap) : ∀ (l : List Int) (p : Int) (j : Nat), j < l.length → p < ((goR ap hi p l).getD j (0, 0)).1 ∧ ∀ i, i < j → ((goR ap hi p l).getD i (0, 0)).1 < ((goR ap hi p l).getD j (0, 0)).1
  | [], p, j, h => by simp at h
  | x :: l, p, 0, h => by
    refine ⟨?_, fun i hi => absurd hi (by omega)⟩
    show p < p + 1 + x % ap
    have := Int.emod_nonneg x (by omega : ap ≠ 0)
    omega
  | x :: l, p, j + 1, h => by
    have hx : p < stepP ap p x := by
      show p < p + 1 + x % ap
      have := Int.emod_nonneg x (by omega : ap ≠ 0)
      omega
    obtain ⟨h1, h2⟩ := goR_inc (hi := hi) ha l (stepP ap p x) j (by simpa using h)
    refine ⟨?_, fun i hi => ?_⟩
    · show p < ((goR ap hi (stepP ap p x) l).getD j (0, 0)).1
      omega
    · cases i with
      | zero => exact h1
      | succ i => exact h2 i (by omega)
theorem lrow_len (ns : List Int) : (lrow ns).length = ns.length := goR_len _ _ _ _
theorem lrow_ok {ns : List Int} (h : ns.length ≤ 63) : Okr (lrow ns) := by
  refine ⟨fun i hi => ?_, fun i j hij hj => ?_, by rw [lrow_len]; omega⟩
  · rw [lrow_len] at hi
    unfold hgt
    simp only [Int.toNat_natCast]
    exact goR_pos (apH_pos _).2 ns _ i hi
  · rw [lrow_len] at hj
    unfold plc
    simp only [Int.toNat_natCast]
    exact (goR_inc (apH_pos _).1.1 ns _ j hj).2 i hij
def P_law_row (ds : List Da) (es : List Da) : Prop := ∃ ns, ds = [.sq (intL ns)] ∧ ns.length ≤ 63 ∧ es = rowL (lrow ns)
def P_law_numbers (ds : List Da) (d : Da) : Prop := ∃ ns, ds = [intsD ns] ∧ ns.length ≤ 5000 ∧ d = .bl true
abbrev sp_law_row (K : PySem.W.Frag) (C : CS) : Sp := FnL K P_law_row
abbrev sp_law_numbers (K : PySem.W.Frag) (C : CS) : Sp := FnP K P_law_numbers
def t_law_row (K : PySem.W.Frag) (C : CS) : TS :=
  (tSeq (tAsg (tCB (rSum K) (tCons (tVar 0) tNil)) (gName 1)) (tSeq (tAsg (tOp (rIxT K) (tTup (tCons (tTup (tCons (tC (.int 3)) (tCons (tC (.int 4)) tNil))) (tCons (tTup (tCons (tC (.int 9)) (tCons (tC (.int 12)) tNil))) (tCons (tTup (tCons (tOp rPowI (tC (.int 10)) (tC (.int 20))) (tCons (tOp rPowI (tC (.int 10)) (tC (.int 20))) tNil))) (tCons (tTup (tCons (tC (.int 6)) (tCons (tC (.int 4)) tNil))) tNil))))) (tOp rModI (tVar 1) (tC (.int 4)))) (gTup K 2 (gCons (gName 2) (gCons (gName 3) gNil)))) (tSeq (tAsg (tUn (rU fun i => .int (-i)) (tOp rModI (tOp rDivI (tVar 1) (tC (.int 4))) (tC (.int 90)))) (gName 4)) (tSeq (tAsg (tLst tNil) (gName 5)) (tSeq (tFor (iList K (tVar 0)) (gName 6) (tSeq (tAsg (tOp rAddI (tOp rAddI (tVar 4) (tC (.int 1))) (tOp rModI (tVar 6) (tVar 2))) (gName 4)) (tDrop (tBM K "list" rAppend (tVar 5) (tCons (tTup (tCons (tVar 4) (tCons (tOp rAddI (tC (.int 1)) (tOp rModI (tOp rAddI (tOp rDivW (tVar 6) (tVar 2)) (tOp rDivI (tVar 6) (tC (.int 11)))) (tVar 3))) tNil))) tNil))))) (tRet (tVar 5)))))))
def t_law_numbers (K : PySem.W.Frag) (C : CS) : TS :=
  (tSeq (tIfS (tNot (tB (tCB (rIsi K) (tCons (tVar 0) (tCons (tC (.ty "list")) tNil))))) (tRet (tC (.bl false))) tNext) (tRet (tCB (rAll K) (tCons (tLc (iList K (tVar 0)) (gName 1) tYes (tAndV (tCB (rIsi K) (tCons (tVar 1) (tCons (tC (.ty "int")) tNil))) (tNotV (tCB (rIsi K) (tCons (tVar 1) (tCons (tC (.ty "bool")) tNil))))) [1]) tNil))))
section
variable {K : PySem.W.Frag} {C : CS}
theorem get_row {ns : List Int} {n : Nat} {x : Int} (h : ns[n]? = some x) : ns.take (n + 1) = ns.take n ++ [x] := by
  rw [List.take_add_one, h]
  rfl
theorem intL_get {ns : List Int} {n : Nat} {d : Da} (h : (intL ns)[n]? = some d) : ∃ x, ns[n]? = some x ∧ d = .int x := by
  rw [List.getElem?_map] at h
  cases e : ns[n]? with
  | none =>
    rw [e] at h
    cases h
  | some x =>
    rw [e] at h
    cases h
    exact ⟨x, rfl, rfl⟩
theorem map_get {α : Type} {f : α → Da} {xs : List α} {n : Nat} {d : Da} (h : (xs.map f)[n]? = some d) : ∃ x, xs[n]? = some x ∧ d = f x := by
  rw [List.getElem?_map] at h
  cases e : xs[n]? with
  | none =>
    rw [e] at h
    cases h
  | some x =>
    rw [e] at h
    cases h
    exact ⟨x, rfl, rfl⟩
theorem rowL_snoc (r : List (Int × Int)) (p : Int × Int) : rowL (r ++ [p]) = rowL r ++ [prD p] := List.map_append
theorem intL_snoc (r : List Int) (p : Int) : intL (r ++ [p]) = intL r ++ [.int p] := List.map_append
theorem run_law_row {ds es : List Da} (h : P_law_row ds es) : Run K (t_law_row K C) (ent ds 6) (retL es) := by
  obtain ⟨ns, rfl, hn, rfl⟩ := h
  refine run_seq (run_asg (ev_sumQ (ev_var rfl)) ?_)
  refine run_seq (run_asgT (d := .tup [.int (apH ns.sum).1, .int (apH ns.sum).2]) ?_ (ts_tup2 ts_name ts_name) ?_)
  · refine ev_ixT (ds := [.tup [.int 3, .int 4], .tup [.int 9, .int 12], .tup [.int (10 ^ 20), .int (10 ^ 20)], .tup [.int 6, .int 4]]) (i := ns.sum % 4) (ev_tup (ea_cons (ev_tup (ea_cons ev_int (ea_cons ev_int ea_nil))) (ea_cons (ev_tup (ea_cons ev_int (ea_cons ev_int ea_nil))) (ea_cons (ev_tup (ea_cons ?_ (ea_cons ?_ ea_nil))) (ea_cons (ev_tup (ea_cons ev_int (ea_cons ev_int ea_nil))) ea_nil))))) (ev_mod (ev_var rfl) ev_int (by decide)) ?_
    · exact (ev_pow ev_int ev_int ⟨by decide, by decide, by decide⟩).is rfl
    · exact (ev_pow ev_int ev_int ⟨by decide, by decide, by decide⟩).is rfl
    · have h0 := Int.emod_nonneg ns.sum (by decide : (4 : Int) ≠ 0)
      have h1 := Int.emod_lt_of_pos ns.sum (by decide : (0 : Int) < 4)
      unfold apH
      by_cases e0 : ns.sum % 4 = 0
      · rw [if_pos e0, e0]
        rfl
      · rw [if_neg e0]
        by_cases e1 : ns.sum % 4 = 1
        · rw [if_pos e1, e1]
          rfl
        · rw [if_neg e1]
          by_cases e2 : ns.sum % 4 = 2
          · rw [if_pos e2, e2]
            rfl
          · rw [if_neg e2, show ns.sum % 4 = 3 by omega]
            rfl
  refine run_seq (run_asg (d := .int (-(ns.sum / 4 % 90))) (ev_neg (ev_mod (ev_div (ev_var rfl) ev_int ⟨by decide, by decide⟩) ev_int (by decide))) ?_)
  refine run_seq (run_asgN (en_lst ea_nil) ?_)
  refine run_seq (run_for (wk_sq (ev_var rfl)) (fun n e => ∃ y, e = [.im (.sq (intL ns)), .im (.int ns.sum), .im (.int (apH ns.sum).1), .im (.int (apH ns.sum).2), .im (.int (endP (apH ns.sum).1 (-(ns.sum / 4 % 90)) (ns.take n))), .mu (rowL (goR (apH ns.sum).1 (apH ns.sum).2 (-(ns.sum / 4 % 90)) (ns.take n))), y]) ⟨.no, rfl⟩ ?_ ?_)
  · rintro n d e hd ⟨y, rfl⟩
    obtain ⟨x, hx, rfl⟩ := intL_get hd
    have hl : n < ns.length := (List.getElem?_eq_some_iff.mp hx).1
    refine ⟨_, ts_name, ?_⟩
    refine run_seq (run_asg (d := .int (stepP (apH ns.sum).1 (endP (apH ns.sum).1 (-(ns.sum / 4 % 90)) (ns.take n)) x)) (ev_add (ev_add (ev_var rfl) ev_int) (ev_mod (ev_var rfl) (ev_var rfl) (apH_pos _).1.1)) ?_)
    refine run_app (d := prD (stepP (apH ns.sum).1 (endP (apH ns.sum).1 (-(ns.sum / 4 % 90)) (ns.take n)) x, stepH (apH ns.sum).1 (apH ns.sum).2 x)) (ds := rowL (goR (apH ns.sum).1 (apH ns.sum).2 (-(ns.sum / 4 % 90)) (ns.take n))) rfl ?_ ?_ ⟨.im (.int x), ?_⟩
    · exact ev_tup (ea_cons (ev_var rfl) (ea_cons (ev_add ev_int (ev_mod (ev_add (ev_divW (ev_var rfl) (ev_var rfl) (apH_W _ _)) (ev_div (ev_var rfl) ev_int ⟨by decide, by decide⟩)) (ev_var rfl) (apH_pos _).2)) ea_nil))
    · rw [List.length_map, goR_len, List.length_take]
      omega
    · rw [get_row hx, endP_snoc, goR_snoc, rowL_snoc]
      rfl
  · rintro e ⟨y, rfl⟩
    rw [List.length_map, List.take_length]
    exact run_retV (i := 5) rfl rfl
theorem run_law_numbers {ds : List Da} {d : Da} (h : P_law_numbers ds d) : Run K (t_law_numbers K C) (ent ds 1) (retD d) := by
  obtain ⟨ns, rfl, hn, rfl⟩ := h
  refine run_seq (run_if (b := !true) (eb_not (eb_B ?_)) (fun z => by cases z) fun _ => run_next ?_)
  · exact ev_isiB (n := "list") (ev_var rfl) ev_ty rfl (by decide)
  · refine run_ret (d := .bl (((ns.filter fun _ => true).map fun _ => true).all id)) (ev_all (ev_new ?_)) ?_
    · refine (en_lc (us := [1]) Da.int (fun _ => true) (fun _ => Da.bl (true && !false)) ns (wk_list (ev_var rfl)) (by simp) (by omega) fun p hp => ⟨_, tc_name, eb_yes, fun _ => ?_⟩).is (by rw [List.map_map]; rfl)
      refine ev_andV ?_ fun _ => ?_
      · walk_at "ev"
      · walk_at "ev"
    · show Da.bl _ = Da.bl _
      congr 1
      rw [List.all_map, List.all_eq_true]
      intro _ _
      rfl
end
section
variable {K : PySem.W.Frag} {C : CS} {vs : List V} {H : Hp} {Q : VK} {E : XK}
theorem len_law_row (h : sp_law_row K C vs H Q E) : vs.length = 1 := len_L (m := 1) (fun ds d ⟨_, e, _⟩ => by rw [e]; rfl) h
theorem pure_law_row (h : sp_law_row K C vs H Q E) : t_law_row K C { nx := fun _ H' => Q .non H', rt := Q } (start ["_law_script", "_law_code", "_law_apart", "_law_high", "_law_place", "_law_found", "_law_cell"] vs) H := fnL_of 6 (fun ds d ⟨_, e, _⟩ => by rw [e]; rfl) (fun ds d p => run_law_row p) h
theorem len_law_numbers (h : sp_law_numbers K C vs H Q E) : vs.length = 1 := len_P (m := 1) (fun ds d ⟨_, e, _⟩ => by rw [e]; rfl) h
theorem pure_law_numbers (h : sp_law_numbers K C vs H Q E) : t_law_numbers K C { nx := fun _ H' => Q .non H', rt := Q } (start ["_law_found", "_law_one"] vs) H := fnP_of 1 (fun ds d ⟨_, e, _⟩ => by rw [e]; rfl) (fun ds d p => run_law_numbers p) h
end
end FR

/-! Rows turned round; lists that rise; what falls, found one by one. -/
namespace FR

/-! ### rising lists -/
theorem rise_uniq : ∀ {xs ys : List Int}, xs.Pairwise (· < ·) → ys.Pairwise (· < ·) → (∀ a, a ∈ xs ↔ a ∈ ys) → xs = ys
  | [], [], _, _, _ => rfl
  | [], y :: ys, _, _, h => absurd ((h y).mpr List.mem_cons_self) (by simp)
  | x :: xs, [], _, _, h => absurd ((h x).mp List.mem_cons_self) (by simp)
  | x :: xs, y :: ys, h1, h2, h => by
    obtain ⟨a1, a2⟩ := List.pairwise_cons.mp h1
    obtain ⟨b1, b2⟩ := List.pairwise_cons.mp h2
    have e : x = y := by
      rcases List.mem_cons.mp ((h x).mp List.mem_cons_self) with z | z
      · exact z
      · rcases List.mem_cons.mp ((h y).mpr List.mem_cons_self) with z' | z'
        · exact z'.symm
        · have q1 := b1 x z
          have q2 := a1 y z'
          omega
    subst e
    congr 1
    refine rise_uniq a2 b2 fun a => ⟨fun ha => ?_, fun ha => ?_⟩
    · rcases List.mem_cons.mp ((h a).mp (List.mem_cons_of_mem _ ha)) with z | z
      · have := a1 a ha
        omega
      · exact z
    · rcases List.mem_cons.mp ((h a).mpr (List.mem_cons_of_mem _ ha)) with z | z
      · have := b1 a ha
        omega
      · exact z
theorem rise_of {xs : List Int} (h1 : xs.Pairwise (· ≤ ·)) (h2 : xs.Nodup) : xs.Pairwise (· < ·) := by
  have h3 : xs.Pairwise (fun a b => a ≤ b ∧ a ≠ b) := List.Pairwise.and h1 h2
  exact h3.imp fun h => by omega
theorem range_rise (lo : Int) (n : Nat) : ((List.range n).map fun k => lo + ((k : Nat) : Int)).Pairwise (· < ·) := by
  rw [List.pairwise_map]
  exact List.pairwise_lt_range.imp fun h => by omega
theorem span_rise (lo hi : Int) : (spanL lo hi).Pairwise (· < ·) := range_rise _ _
theorem span_mem {lo hi a : Int} : a ∈ spanL lo hi ↔ lo ≤ a ∧ a ≤ hi := by
  unfold spanL
  simp only [List.mem_map, List.mem_range]
  constructor
  · rintro ⟨k, hk, rfl⟩
    omega
  · rintro ⟨h1, h2⟩
    exact ⟨(a - lo).toNat, by omega, by omega⟩
/-- a sorted arrangement of what lies between -/
theorem sorted_span {xs ys : List Int} {lo hi : Int} (hp : ys.Perm xs) (hs : ys.Pairwise (· ≤ ·)) (hn : xs.Nodup) (hm : ∀ a, a ∈ xs ↔ lo ≤ a ∧ a ≤ hi) : ys = spanL lo hi :=
  rise_uniq (rise_of hs (hp.nodup_iff.mpr hn)) (span_rise _ _) fun a => by rw [hp.mem_iff, hm, span_mem]
theorem nodup_map_inj {α : Type} {f : α → Int} {xs : List α} (h : xs.Nodup) (hf : ∀ a b, f a = f b → a = b) : (xs.map f).Nodup := by
  unfold List.Nodup at *
  rw [List.pairwise_map]
  exact h.imp fun hab z => hab (hf _ _ z)
theorem span_nodup (lo hi : Int) : (spanL lo hi).Nodup := (span_rise lo hi).imp fun h => by omega

/-! ### a row turned round -/
theorem mir_len (row : List (Int × Int)) : (mir row).length = row.length := by
  unfold mir
  rw [List.length_map, List.length_reverse]
theorem mir_get {row : List (Int × Int)} {j : Int} (h0 : 0 ≤ j) (h1 : j < row.length) : plc (mir row) j = -(plc row (row.length - 1 - j)) ∧ hgt (mir row) j = hgt row (row.length - 1 - j) := by
  have hl : j.toNat < row.length := by omega
  have e : (mir row)[j.toNat]? = some (-(plc row (row.length - 1 - j)), hgt row (row.length - 1 - j)) := by
    unfold mir
    rw [List.getElem?_map, List.getElem?_reverse hl]
    have hl2 : row.length - 1 - j.toNat < row.length := by omega
    rw [List.getElem?_eq_getElem hl2]
    have e2 := plc_get (row := row) (List.getElem?_eq_getElem hl2)
    have e3 : ((row.length - 1 - j.toNat : Nat) : Int) = row.length - 1 - j := by omega
    rw [e3] at e2
    rw [e2]
    rfl
  have z := plc_get e
  have e4 : ((j.toNat : Nat) : Int) = j := by omega
  rw [e4] at z
  exact ⟨(congrArg Prod.fst z).symm, (congrArg Prod.snd z).symm⟩
theorem mir_mir (row : List (Int × Int)) : mir (mir row) = row := by
  unfold mir
  rw [← List.map_reverse, List.reverse_reverse, List.map_map]
  conv => rhs; rw [← List.map_id row]
  apply List.map_congr_left
  intro p _
  simp
theorem mir_ok {row : List (Int × Int)} (h : Okr row) : Okr (mir row) := by
  refine ⟨fun i hi => ?_, fun i j hij hj => ?_, by rw [mir_len]; exact h.few⟩
  · rw [mir_len] at hi
    rw [(mir_get (row := row) (j := (i : Nat)) (by omega) (by omega)).2]
    have e : (row.length : Int) - 1 - (i : Nat) = ((row.length - 1 - i : Nat) : Int) := by omega
    rw [e]
    exact h.pos _ (by omega)
  · rw [mir_len] at hj
    rw [(mir_get (row := row) (j := (i : Nat)) (by omega) (by omega)).1, (mir_get (row := row) (j := (j : Nat)) (by omega) (by omega)).1]
    have e1 : (row.length : Int) - 1 - (i : Nat) = ((row.length - 1 - i : Nat) : Int) := by omega
    have e2 : (row.length : Int) - 1 - (j : Nat) = ((row.length - 1 - j : Nat) : Int) := by omega
    rw [e1, e2]
    have := h.inc (row.length - 1 - j) (row.length - 1 - i) (by omega) (by omega)
    omega
theorem goN_congr {q q' : Nat → Int × Int} : ∀ (m k : Nat) (far : Int), (∀ t, k < t → t ≤ k + m → q t = q' t) → goN q m k far = goN q' m k far
  | 0, k, far, h => rfl
  | m + 1, k, far, h => by
    unfold goN
    rw [h (k + 1) (by omega) (by omega)]
    split
    · exact goN_congr m (k + 1) _ fun t h1 h2 => h t (by omega) (by omega)
    · rfl
theorem ah_one (row : List (Int × Int)) (i : Nat) : ah row 1 i = row.length - 1 - i := by
  unfold ah
  simp
theorem ah_neg (row : List (Int × Int)) (i : Nat) : ah row (-1) i = i := by
  unfold ah
  simp
/-- the stones ahead, in range -/
theorem ah_in {row : List (Int × Int)} {s : Int} {i k : Nat} (hi : i < row.length) (hs : Sd s) : k ≤ ah row s i ↔ 0 ≤ (i : Int) + s * k ∧ (i : Int) + s * k < row.length := by
  rcases hs with rfl | rfl
  · rw [ah_one]
    omega
  · rw [ah_neg]
    omega
theorem mir_fell {row : List (Int × Int)} {s : Int} {i : Nat} (hi : i < row.length) (hs : Sd s) : fell (mir row) (-s) (row.length - 1 - i) = fell row s i := by
  have hq : ∀ k, k ≤ ah row s i → qf (mir row) (-s) (row.length - 1 - i) k = qf row s i k := fun k hk => by
    have hk' := (ah_in hi hs).mp hk
    unfold qf
    have e : ((row.length - 1 - i : Nat) : Int) + -s * (k : Nat) = row.length - 1 - ((i : Int) + s * k) := by
      rcases hs with rfl | rfl <;> omega
    have g := mir_get (row := row) (j := row.length - 1 - ((i : Int) + s * k)) (by omega) (by omega)
    have e2 : (row.length : Int) - 1 - (row.length - 1 - ((i : Int) + s * k)) = i + s * k := by omega
    rw [e, g.1, g.2, e2]
    rcases hs with rfl | rfl <;> simp
  have ha : ah (mir row) (-s) (row.length - 1 - i) = ah row s i := by
    rcases hs with rfl | rfl
    · rw [ah_one, ah_neg]
    · have e : -(-1 : Int) = 1 := rfl
      rw [e, ah_one, ah_neg, mir_len]
      omega
  unfold fell
  rw [ha, hq 0 (Nat.zero_le _)]
  exact goN_congr _ _ _ fun t h1 h2 => hq t (by omega)
theorem mir_last {row : List (Int × Int)} {s : Int} {i : Nat} (hi : i < row.length) (hs : Sd s) : lastI (mir row) (-s) (row.length - 1 - i) = row.length - 1 - lastI row s i := by
  unfold lastI
  rw [mir_fell hi hs]
  rcases hs with rfl | rfl <;> omega

/-! ### one by one -/
/-- what waits: found stones (as steps), the first done of them looked through -/
structure Wt (q : Nat → Int × Int) (m K : Nat) (W : List Nat) (done : Nat) : Prop where
  nd : W.Nodup
  le : ∀ k ∈ W, k ≤ K
  z : 0 ∈ W
  few : done ≤ W.length
  cl : ∀ p, p < done → ∀ t, W[p]? = some t → ∀ u, t < u → u ≤ m → (q u).1 ≤ (q t).1 + (q t).2 → u ∈ W
theorem Wt.all {q : Nat → Int × Int} {m K : Nat} {F : Int} {W : List Nat} (c : Chn q m K F) (h : Wt q m K W W.length) : ∀ n k, k ≤ n → k ≤ K → k ∈ W
  | 0, k, h1, h2 => by
    have e : k = 0 := by omega
    subst e
    exact h.z
  | n + 1, k, h1, h2 => by
    by_cases e : k = 0
    · subst e
      exact h.z
    · obtain ⟨t, ht, ht2⟩ := c.by_ (k - 1) (by omega)
      have hw : t ∈ W := Wt.all c h n t (by omega) (by omega)
      obtain ⟨p, hp, ep⟩ := List.mem_iff_getElem.mp hw
      have e1 : k - 1 + 1 = k := by omega
      rw [e1] at ht2
      exact h.cl p hp t (by rw [List.getElem?_eq_getElem hp, ep]) k (by omega) (by have := c.le; omega) ht2
theorem Wt.few_K {q : Nat → Int × Int} {m K done : Nat} {W : List Nat} (h : Wt q m K W done) : W.length ≤ K + 1 := by
  have hsub : W ⊆ List.range (K + 1) := fun k hk => List.mem_range.mpr (Nat.lt_succ_of_le (h.le k hk))
  have := List.Nodup.length_le_of_subset h.nd hsub
  rw [List.length_range] at this
  exact this
end FR

/-! Answers: made, read, asked. -/
namespace FR
open PySem L2 Evl

/-- what isinstance asks of an own class -/
structure Isi (K : PySem.W.Frag) (C : Addr) : Prop where
  cls : Cls K C
  ha : PySem.W.findIn K (.ref C) "__class__" = some (some (.builtin "object.__class__"))
  hn : PySem.W.specialIn K (.builtin "object.__class__") "__get__" = some (some (.builtin "getset_descriptor.__get__"))
  ht : PySem.W.takesIn K (.builtin "object.__class__") = some true
  hm : PySem.W.mroIn K C (.type "object") = some true
/-- a class of answers: its fields are no names of the class -/
structure Fx1 (K : PySem.W.Frag) (A : Addr) (fs : List Str) : Prop where
  isi : Isi K A
  no : ∀ f ∈ fs, NoAttr K A f
/-- whose instance an answer is -/
structure Kits (K : PySem.W.Frag) (A : Addr) (C : CS) (a c s f r h : Bool) : Prop where
  a : PySem.W.kitOne K (.ref A) (.ref C.Answer) = some a
  c : PySem.W.kitOne K (.ref A) (.ref C.Chain) = some c
  s : PySem.W.kitOne K (.ref A) (.ref C.Stands) = some s
  f : PySem.W.kitOne K (.ref A) (.ref C.Fewest) = some f
  r : PySem.W.kitOne K (.ref A) (.ref C.Rights) = some r
  h : PySem.W.kitOne K (.ref A) (.ref C.Higher) = some h
theorem kit_of {K : PySem.W.Frag} {A D : Addr} {b : Bool} (h1 : PySem.W.isClsIn K D = true) (h2 : PySem.W.typeIn K (.ref D) = some (.type "type")) (h3 : PySem.W.subIn K (.ref A) (.ref D) = some b) (h4 : PySem.W.subIn K (.ref A) (.ref A) = some true) : PySem.W.kitOne K (.ref A) (.ref D) = some b := by
  unfold PySem.W.kitOne
  by_cases e : A = D
  · subst e
    rw [h3] at h4
    rw [if_pos (beq_self_eq_true _), h4]
  · have e1 : (Value.ref A == Value.ref D) = false := by simpa using e
    rw [e1, if_neg Bool.false_ne_true]
    have h1' : (PySem.W.clsIn K D).isSome = true := h1
    show (if ((PySem.W.clsIn K D).isSome && PySem.W.typeIn K (.ref D) == some (.type "type")) = true then PySem.W.subIn K (.ref A) (.ref D) else none) = some b
    rw [h1', h2, if_pos (by rw [Bool.true_and]; exact beq_self_eq_true _)]
    exact h3
theorem lk_hd {f n : Str} {v : V} {ns : List Str} {xs : List V} (h : (f == n) = true) : ((n :: ns).zip (v :: xs)).lookup f = some v := by
  show List.lookup f ((n, v) :: ns.zip xs) = some v
  rw [List.lookup_cons, h]
theorem lk_tl {f n : Str} {v : V} {ns : List Str} {xs : List V} (h : (f == n) = false) : ((n :: ns).zip (v :: xs)).lookup f = (ns.zip xs).lookup f := by
  show List.lookup f ((n, v) :: ns.zip xs) = _
  rw [List.lookup_cons, h]
theorem lk_no {f : Str} : ∀ {ns : List Str} {xs : List V}, (ns.any fun n => f == n) = false → (ns.zip xs).lookup f = none
  | [], xs, _ => by simp
  | n :: ns, [], _ => by simp
  | n :: ns, x :: xs, h => by
    rw [List.any_cons, Bool.or_eq_false_iff] at h
    rw [lk_tl h.1]
    exact lk_no h.2
section
variable {K : PySem.W.Frag} {env : En} {te ta tb tc : TE} {t : TA} {d d1 d2 : Da} {ds es : List Da} {C : Addr} {f f1 f2 : Str} {ns : List Str}
/-- a field: which place of the names it has -/
theorem ev_fld (he : EvE K te env (.obj C ns ds)) (c : Cls K C) (na : NoAttr K C f) (hl : ∀ B xs, RpAll K B ds xs → xs.length = ns.length → ∃ v, (ns.zip xs).lookup f = some v ∧ Rp K B d v) : EvE K (tFld K te f) env d := fun σ B s H1 e Q q =>
  he σ B s H1 e _ fun v B2 H2 g r => by
    simp only [Rp] at r
    obtain ⟨a, dx, xs, rfl, h2, h3, h4⟩ := r
    obtain ⟨v, hv, rv⟩ := hl B2 xs h4 h3
    exact ⟨a, C, dx, _, v, rfl, g.h _ _ h2, c, na, hv, q v B2 H2 g rv⟩
theorem ev_fld0 (he : EvE K te env (.obj C (f :: ns) (d :: ds))) (c : Cls K C) (na : NoAttr K C f) : EvE K (tFld K te f) env d :=
  ev_fld he c na fun B xs r hl => by
    obtain ⟨v, t, rfl, r1, r2⟩ := r.uncons
    exact ⟨v, lk_hd (by simp), r1⟩
theorem ev_fld1 (he : EvE K te env (.obj C (f1 :: f :: ns) (d1 :: d :: ds))) (c : Cls K C) (na : NoAttr K C f) (h : (f == f1) = false) : EvE K (tFld K te f) env d :=
  ev_fld he c na fun B xs r hl => by
    obtain ⟨v, t, rfl, r1, r2⟩ := r.uncons
    obtain ⟨v', t', rfl, r3, r4⟩ := r2.uncons
    exact ⟨v', by rw [lk_tl h, lk_hd (by simp)], r3⟩
/-- a method with a data promise -/
theorem ev_meth {P : List Da → Da → Prop} {m : Str} {E : XK} (he : EvE K te env (.obj C ns ds)) (hm : (ns.any fun n => m == n) = false) (ha : EvA K t env es) (hp : P (.obj C ns ds :: es) d) : EvE K (tMeth C m (FnP K P) [] E te t) env d := fun σ B s H1 e Q q =>
  he σ B s H1 e _ fun v B2 H2 g r => by
    have r0 := r
    simp only [Rp] at r0
    obtain ⟨a, dx, xs, rfl, h2, h3, h4⟩ := r0
    refine ⟨a, dx, _, rfl, g.h _ _ h2, lk_no hm, ha σ B2 (s.mono g.b) H2 g.h _ fun vs B3 H3 g3 r3 => ?_⟩
    refine ⟨B3, .obj C ns ds :: es, d, g3.h, ?_, hp, fun v B' H' g' r' => q v B' H' ((g.trans g3).trans g') r'⟩
    rw [List.append_nil]
    exact .cons (r.mono g3.b) r3
/-- isinstance of an answer against an own class -/
theorem ev_isiO {C' : Addr} {b : Bool} (ha : EvE K ta env (.obj C ns ds)) (hb : EvE K tb env (.cls C')) (I : Isi K C) (hk : PySem.W.kitOne K (.ref C) (.ref C') = some b) : EvE K (tCB (rIsi K) (tCons ta (tCons tb tNil))) env (.bl b) :=
  ev_cb (ea_cons ha (ea_cons hb ea_nil)) fun B H vs e r Q q => by
    obtain ⟨v, w, rfl, h1, h2⟩ := two_rp r
    simp only [Rp] at h1 h2
    subst h2
    obtain ⟨a, dx, xs, rfl, h3, h4, h5⟩ := h1
    exact ⟨.ref a, .ref C', .ref C, .ref C', b, rfl, .own C', .base (.ins (e _ _ h3) I.cls I.ha I.hn I.ht I.hm), hk, q _ B H (Gr.refl e) (by simp only [Rp])⟩
/-- an instance with two, with one field(s), made -/
theorem ev_mak2 {sp : Sp} {E : XK} (ha : EvA K t env [d1, d2]) (hs : ∀ (x dx : Addr) (v1 v2 : V) (H : Hp) (Q : VK) (E : XK), H x = some (.ins C dx []) → Q .non (upd (upd H x (.ins C dx [(f1, v1)])) x (.ins C dx [(f1, v1), (f2, v2)])) → sp [.ref x, v1, v2] H Q E) :
    EvE K (tMake C sp [] E t) env (.obj C [f1, f2] [d1, d2]) := fun σ B s H1 e Q q =>
  ha σ B s H1 e _ fun vs B2 H2 g r => by
    obtain ⟨v1, v2, rfl, r1, r2⟩ := two_rp r
    intro x dx hx hdx hne
    refine hs x dx v1 v2 _ _ E upd_same ⟨rfl, ?_⟩
    have bx : B2 x = none := fresh_back g.h hx
    have nb : Ex B2 (upd B2 x (.ins C dx [(f1, v1), (f2, v2)])) := Ex.new bx
    refine q (.ref x) (upd B2 x (.ins C dx [(f1, v1), (f2, v2)])) _ (g.trans ⟨nb, fun a o h => ?_, fun a o h => ?_, fun a h => ?_⟩) ?_
    · by_cases z : a = x
      · subst z
        rw [upd_same] at h ⊢
        exact h
      · rw [upd_ne z] at h
        have hd : a ≠ dx := fun w => by
          rw [w, fresh_back g.h hdx] at h
          cases h
        rw [upd_ne z, upd_ne z, upd_ne z, upd_ne hd]
        exact g.h a o h
    · have h1 : a ≠ x := fun w => by
        rw [w, hx] at h
        cases h
      have h2 : a ≠ dx := fun w => by
        rw [w, hdx] at h
        cases h
      rw [upd_ne h1, upd_ne h1, upd_ne h1, upd_ne h2]
      exact h
    · exact upd_ne fun w => h (by rw [w]; exact hx)
    · simp only [Rp]
      exact ⟨x, dx, [v1, v2], rfl, upd_same, rfl, .cons (r1.mono nb) (.cons (r2.mono nb) .nil)⟩
theorem ev_mak1 {sp : Sp} {E : XK} (ha : EvA K t env [d1]) (hs : ∀ (x dx : Addr) (v1 : V) (H : Hp) (Q : VK) (E : XK), H x = some (.ins C dx []) → Q .non (upd H x (.ins C dx [(f1, v1)])) → sp [.ref x, v1] H Q E) :
    EvE K (tMake C sp [] E t) env (.obj C [f1] [d1]) := fun σ B s H1 e Q q =>
  ha σ B s H1 e _ fun vs B2 H2 g r => by
    obtain ⟨v1, rfl, r1⟩ := one_rp r
    intro x dx hx hdx hne
    refine hs x dx v1 _ _ E upd_same ⟨rfl, ?_⟩
    have bx : B2 x = none := fresh_back g.h hx
    have nb : Ex B2 (upd B2 x (.ins C dx [(f1, v1)])) := Ex.new bx
    refine q (.ref x) (upd B2 x (.ins C dx [(f1, v1)])) _ (g.trans ⟨nb, fun a o h => ?_, fun a o h => ?_, fun a h => ?_⟩) ?_
    · by_cases z : a = x
      · subst z
        rw [upd_same] at h ⊢
        exact h
      · rw [upd_ne z] at h
        have hd : a ≠ dx := fun w => by
          rw [w, fresh_back g.h hdx] at h
          cases h
        rw [upd_ne z, upd_ne z, upd_ne hd]
        exact g.h a o h
    · have h1 : a ≠ x := fun w => by
        rw [w, hx] at h
        cases h
      have h2 : a ≠ dx := fun w => by
        rw [w, hdx] at h
        cases h
      rw [upd_ne h1, upd_ne h1, upd_ne h2]
      exact h
    · exact upd_ne fun w => h (by rw [w]; exact hx)
    · simp only [Rp]
      exact ⟨x, dx, [v1], rfl, upd_same, rfl, .cons (r1.mono nb) .nil⟩
/-- such an __init__, by the heap -/
def InI1 (K : PySem.W.Frag) (C : Addr) (f1 : Str) : Sp := fun vs H Q _ => ∃ (x dx : Addr) (v1 : V), vs = [.ref x, v1] ∧ H x = some (.ins C dx []) ∧ Q .non (upd H x (.ins C dx [(f1, v1)]))
def InI2 (K : PySem.W.Frag) (C : Addr) (f1 f2 : Str) : Sp := fun vs H Q _ => ∃ (x dx : Addr) (v1 v2 : V), vs = [.ref x, v1, v2] ∧ H x = some (.ins C dx []) ∧ Q .non (upd (upd H x (.ins C dx [(f1, v1)])) x (.ins C dx [(f1, v1), (f2, v2)]))
theorem put_one (f : Str) (v : V) : putF f v [] = [(f, v)] := rfl
theorem put_two {f1 f2 : Str} (h : f1 ≠ f2) (v1 v2 : V) : putF f2 v2 [(f1, v1)] = [(f1, v1), (f2, v2)] := by
  show (if f1 = f2 then [(f1, v2)] else (f1, v1) :: putF f2 v2 []) = _
  rw [if_neg h]
  rfl
theorem in_I1 {vs : List V} {H : Hp} {Q : VK} {E : XK} {N : List Str} (hN : N.length = 2) (c : Cls K C) (n1 : NoAttr K C f1) (h : InI1 K C f1 vs H Q E) : sFld K (tVar 0) (tVar 1) f1 { nx := fun _ H' => Q .non H', rt := Q } (start N vs) H := by
  obtain ⟨x, dx, v1, rfl, hx, q⟩ := h
  refine ⟨v1, by rw [start_eq]; rfl, .ref x, by rw [start_eq]; rfl, x, C, dx, [], rfl, hx, c, n1, by simp, ?_⟩
  rw [put_one]
  exact q
theorem in_I2 {vs : List V} {H : Hp} {Q : VK} {E : XK} {N : List Str} (hN : N.length = 3) (c : Cls K C) (n1 : NoAttr K C f1) (n2 : NoAttr K C f2) (hne : f1 ≠ f2) (h : InI2 K C f1 f2 vs H Q E) :
    tSeq (sFld K (tVar 0) (tVar 1) f1) (sFld K (tVar 0) (tVar 2) f2) { nx := fun _ H' => Q .non H', rt := Q } (start N vs) H := by
  obtain ⟨x, dx, v1, v2, rfl, hx, q⟩ := h
  refine ⟨v1, by rw [start_eq]; rfl, .ref x, by rw [start_eq]; rfl, x, C, dx, [], rfl, hx, c, n1, by simp, ?_⟩
  rw [put_one]
  refine ⟨v2, by rw [start_eq]; rfl, .ref x, by rw [start_eq]; rfl, x, C, dx, [(f1, v1)], rfl, upd_same, c, n2, by simp, ?_⟩
  rw [put_two hne]
  exact q
end

/-! ### how far a push fells, as the laws look -/
def P_law_felled (ds : List Da) (d : Da) : Prop := ∃ row, ∃ i : Nat, ∃ s : Int, ds = [rowD row, .int i, .int s] ∧ (i < row.length ∧ row.length ≤ 1000 ∧ Sd s) ∧ d = .int (lastI row s i)
abbrev sp_law_felled (K : PySem.W.Frag) (C : CS) : Sp := FnP K P_law_felled
def t_law_felled (K : PySem.W.Frag) (C : CS) : TS :=
  (tSeq (tPar 3 4 (tCons (tOp rAddI (tOp (rIxT K) (tOp (rIxL K) (tVar 0) (tVar 1)) (tC (.int 0))) (tOp rMulI (tVar 2) (tOp (rIxT K) (tOp (rIxL K) (tVar 0) (tVar 1)) (tC (.int 1))))) (tCons (tVar 1) tNil))) (tSeq (tFor (iList K (tIf (tTest (tOp rEq (tVar 2) (tC (.int 1)))) (tLstRg (tRg2 (tOp rAddI (tVar 1) (tC (.int 1))) (tCB (rLenS K) (tCons (tVar 0) tNil)))) (tLstRg3 (tOp rSubI (tVar 1) (tC (.int 1))) (tUn (rU fun i => .int (-i)) (tC (.int 1))) (tUn (rU fun i => .int (-i)) (tC (.int 1)))))) (gName 5) (tSeq (tAsg (tOp (rIxL K) (tVar 0) (tVar 5)) (gTup K 2 (gCons (gName 6) (gCons (gName 7) gNil)))) (tSeq (tIfS (tTest (tOp rLtI (tOp rMulI (tOp rSubI (tVar 3) (tVar 6)) (tVar 2)) (tC (.int 0)))) (tRet (tVar 4)) tNext) (tSeq (tAsg (tVar 5) (gName 4)) (tIfS (tTest (tOp rGtI (tOp rMulI (tOp rSubI (tOp rAddI (tVar 6) (tOp rMulI (tVar 2) (tVar 7))) (tVar 3)) (tVar 2)) (tC (.int 0)))) (tAsg (tOp rAddI (tVar 6) (tOp rMulI (tVar 2) (tVar 7))) (gName 3)) tNext))))) (tRet (tVar 4))))
section
variable {K : PySem.W.Frag} {C : CS}
theorem cmul_r {s x : Int} (h : Sd s) : CMul x s := .inr (by rcases h with rfl | rfl <;> decide)
theorem ah_one' (row : List (Int × Int)) (i : Nat) : ah row 1 i = row.length - 1 - i := by
  unfold ah
  simp
theorem ah_neg' (row : List (Int × Int)) (i : Nat) : ah row (-1) i = i := by
  unfold ah
  simp
theorem run_law_felled {ds : List Da} {d : Da} (h : P_law_felled ds d) : Run K (t_law_felled K C) (ent ds 5) (retD d) := by
  obtain ⟨row, i, s, rfl, ⟨hi, hn, hs⟩, rfl⟩ := h
  have hss : s * s = 1 := by rcases hs with rfl | rfl <;> rfl
  refine run_seq (run_par (d := .int (s * ((qf row s i 0).1 + (qf row s i 0).2))) (d' := .int (i + s * ((0 : Nat) : Int))) (ea_cons ?_ (ea_cons ?_ ea_nil)) ?_)
  · refine (ev_add (ev_row0 (i := i) (ev_var rfl) (ev_var rfl) (by omega) (by omega)) (ev_mul (ev_var rfl) (ev_row1 (i := i) (ev_var rfl) (ev_var rfl) (by omega) (by omega)) (cmul_s hs))).is ?_
    simp only [qf]
    rcases hs with rfl | rfl <;> simp <;> omega
  · exact (ev_var rfl).is (by simp)
  have hlist : EvE K (tIf (tTest (tOp rEq (tVar 2) (tC (.int 1)))) (tLstRg (tRg2 (tOp rAddI (tVar 1) (tC (.int 1))) (tCB (rLenS K) (tCons (tVar 0) tNil)))) (tLstRg3 (tOp rSubI (tVar 1) (tC (.int 1))) (tUn (rU fun i => .int (-i)) (tC (.int 1))) (tUn (rU fun i => .int (-i)) (tC (.int 1)))))
      (imm ((List.set (ent [rowD row, .int (i : Nat), .int s] 5) 3 (.im (.int (s * ((qf row s i 0).1 + (qf row s i 0).2))))).set 4 (.im (.int (i + s * ((0 : Nat) : Int)))))) (intsD ((List.range (ah row s i)).map fun k => (i : Int) + s * ((k + 1 : Nat) : Int))) := by
    refine ev_ifE (b := decide (s = 1)) (eb_test (ev_eqI (ev_var rfl) ev_int)) (fun hb => ?_) fun hb => ?_
    · have e1 := of_decide_eq_true hb
      subst e1
      refine ev_new ((en_listRg (ev_add (ev_var rfl) ev_int) (ev_lenR (ev_var rfl)) (RgOk.of_le (by omega) (by omega) (by omega) (by omega))).is ?_)
      have e2 : ((row.length : Int) - ((i : Int) + 1)).toNat = ah row 1 i := by
        rw [ah_one']
        omega
      rw [e2, intL, List.map_map]
      apply List.map_congr_left
      intro k _
      show Da.int _ = Da.int _
      congr 1
      show (i : Int) + 1 + ((k : Nat) : Int) = i + 1 * ((k + 1 : Nat) : Int)
      omega
    · have e1 : s = -1 := by
        have := of_decide_eq_false hb
        rcases hs with z | z
        · exact absurd z this
        · exact z
      subst e1
      refine ev_new ((en_listRg3 (ev_sub (ev_var rfl) ev_int) (ev_neg ev_int) (ev_neg ev_int) (rgS_neg (by omega) (by omega) (by omega) (by omega))).is ?_)
      have e2 : ((i : Int) - 1 - -1).toNat = ah row (-1) i := by
        rw [ah_neg']
        omega
      rw [e2, intL]
      congr 1
      apply List.map_congr_left
      intro k _
      omega
  have hah : ∀ k : Nat, k < ah row s i → 0 ≤ (i : Int) + s * ((k + 1 : Nat) : Int) ∧ (i : Int) + s * ((k + 1 : Nat) : Int) < row.length := fun k hk => by
    rcases hs with rfl | rfl
    · rw [ah_one'] at hk
      omega
    · rw [ah_neg'] at hk
      omega
  refine run_seq (run_for (wk_list hlist) (fun k e => ∃ far y5 y6 y7, e = [.im (rowD row), .im (.int i), .im (.int s), .im (.int (s * far)), .im (.int (i + s * ((k : Nat) : Int))), y5, y6, y7] ∧ goN (qf row s i) (ah row s i - k) k far = fell row s i) ⟨_, .no, .no, .no, rfl, rfl⟩ ?_ ?_)
  · rintro k d e hd ⟨far, y5, y6, y7, rfl, hg⟩
    obtain ⟨x, hx, rfl⟩ := intL_get hd
    rw [List.getElem?_map] at hx
    have hk : k < ah row s i := by
      apply Decidable.byContradiction
      intro z
      rw [List.getElem?_eq_none (by rw [List.length_range]; omega)] at hx
      cases hx
    rw [List.getElem?_range hk] at hx
    obtain rfl : (i : Int) + s * ((k + 1 : Nat) : Int) = x := Option.some.inj hx
    have hin := hah k hk
    have hm1 : ah row s i - k = (ah row s i - (k + 1)) + 1 := by omega
    rw [hm1] at hg
    unfold goN at hg
    refine ⟨_, ts_name, ?_⟩
    refine run_seq (run_asgT (ev_rowI (ev_var rfl) (ev_var rfl) hin.1 hin.2) (ts_tup2 ts_name ts_name) ?_)
    refine run_seq (run_if (b := decide ((s * far - plc row (i + s * ((k + 1 : Nat) : Int))) * s < 0)) (eb_test (ev_lt (ev_mul (ev_sub (ev_var rfl) (ev_var rfl)) (ev_var rfl) (cmul_r hs)) ev_int)) (fun hb => ?_) fun hb => run_next ?_)
    · have hlt := of_decide_eq_true hb
      have hq : ¬ (qf row s i (k + 1)).1 ≤ far := by
        show ¬ s * plc row (i + s * ((k + 1 : Nat) : Int)) ≤ far
        rcases hs with rfl | rfl <;> omega
      rw [if_neg hq] at hg
      refine run_ret (ev_var rfl) ?_
      show Da.int _ = Da.int _
      unfold lastI
      rw [← hg]
    · have hge := of_decide_eq_false hb
      have hq : (qf row s i (k + 1)).1 ≤ far := by
        show s * plc row (i + s * ((k + 1 : Nat) : Int)) ≤ far
        rcases hs with rfl | rfl <;> omega
      rw [if_pos hq] at hg
      refine run_seq (run_asg (ev_var rfl) ?_)
      refine run_if (b := decide (0 < (plc row (i + s * ((k + 1 : Nat) : Int)) + s * hgt row (i + s * ((k + 1 : Nat) : Int)) - s * far) * s)) (eb_test (ev_gt (ev_mul (ev_sub (ev_add (ev_var rfl) (ev_mul (ev_var rfl) (ev_var rfl) (cmul_s hs))) (ev_var rfl)) (ev_var rfl) (cmul_r hs)) ev_int)) (fun hb2 => ?_) fun hb2 => run_next ?_
      · have h2 := of_decide_eq_true hb2
        have em : mx far ((qf row s i (k + 1)).1 + (qf row s i (k + 1)).2) = s * plc row (i + s * ((k + 1 : Nat) : Int)) + hgt row (i + s * ((k + 1 : Nat) : Int)) := by
          unfold mx
          show (if s * plc row (i + s * ((k + 1 : Nat) : Int)) + hgt row (i + s * ((k + 1 : Nat) : Int)) > far then s * plc row (i + s * ((k + 1 : Nat) : Int)) + hgt row (i + s * ((k + 1 : Nat) : Int)) else far) = _
          rw [if_pos (by rcases hs with rfl | rfl <;> omega)]
        rw [em] at hg
        have e3 : plc row (i + s * ((k + 1 : Nat) : Int)) + s * hgt row (i + s * ((k + 1 : Nat) : Int)) = s * (s * plc row (i + s * ((k + 1 : Nat) : Int)) + hgt row (i + s * ((k + 1 : Nat) : Int))) := by
          rcases hs with rfl | rfl <;> omega
        exact run_asg ((ev_add (ev_var rfl) (ev_mul (ev_var rfl) (ev_var rfl) (cmul_s hs))).is (congrArg Da.int e3)) ⟨_, _, _, _, rfl, hg⟩
      · have h2 := of_decide_eq_false hb2
        have em : mx far ((qf row s i (k + 1)).1 + (qf row s i (k + 1)).2) = far := by
          unfold mx
          show (if s * plc row (i + s * ((k + 1 : Nat) : Int)) + hgt row (i + s * ((k + 1 : Nat) : Int)) > far then s * plc row (i + s * ((k + 1 : Nat) : Int)) + hgt row (i + s * ((k + 1 : Nat) : Int)) else far) = _
          rw [if_neg (by rcases hs with rfl | rfl <;> omega)]
        rw [em] at hg
        exact ⟨far, _, _, _, rfl, hg⟩
  · rintro e ⟨far, y5, y6, y7, rfl, hg⟩
    rw [List.length_map, List.length_map, List.length_range] at hg ⊢
    rw [Nat.sub_self] at hg
    refine run_ret (ev_var rfl) ?_
    show Da.int _ = Da.int _
    unfold lastI
    rw [← hg]
    rfl
end
section
variable {K : PySem.W.Frag} {C : CS} {vs : List V} {H : Hp} {Q : VK} {E : XK}
theorem lenP_law_felled {ds : List Da} {d : Da} (h : P_law_felled ds d) : ds.length = 3 := by
  unfold P_law_felled at h
  repeat (rcases h with ⟨z, h⟩; first | (subst z; rfl) | skip)
theorem len_law_felled (h : sp_law_felled K C vs H Q E) : vs.length = 3 := len_P (m := 3) (fun _ _ p => lenP_law_felled p) h
theorem pure_law_felled (h : sp_law_felled K C vs H Q E) : t_law_felled K C { nx := fun _ H' => Q .non H', rt := Q } (start ["_law_row_here", "_law_stone", "_law_side", "_law_reach", "_law_at", "_law_other", "_law_place", "_law_height"] vs) H := fnP_of 5 (fun _ _ p => by rw [lenP_law_felled p] <;> rfl) (fun _ _ p => run_law_felled p) h
end
end FR

/-! Instances of one's own, whose fields are lists that may still grow. -/
namespace FR
open PySem L2 Evl
def EvOb (K : PySem.W.Frag) (te : TE) (env : En) (C : Addr) (ns : List Str) (dss : List (List Da)) : Prop := ∀ σ B, SD K B σ env → ∀ H1, Ex B H1 → ∀ Q : VK,
  (∀ a dx ls B' H2, Gr B H1 B' H2 → (a :: ls).Nodup → (∀ x ∈ a :: ls, H1 x = none ∧ B' x = none) → H2 a = some (.ins C dx (ns.zip (ls.map V.ref))) → ls.length = ns.length → OwL K B' H2 dss ls → Q (.ref a) H2) → te σ H1 Q
/-- what becomes visible: the places of A as they stand -/
def vis (B H : Hp) (A : List Addr) : Hp := fun b => if b ∈ A then H b else B b
section
variable {K : PySem.W.Frag} {B B' H H' H1 H2 : Hp} {env : En} {te tv : TE} {t : TA} {d : Da} {ds es : List Da} {C : Addr} {ns : List Str} {dss : List (List Da)} {E : Ed} {i : Nat} {f f1 f2 : Str}
theorem vis_in {A : List Addr} {b : Addr} (h : b ∈ A) : vis B H A b = H b := if_pos h
theorem vis_out {A : List Addr} {b : Addr} (h : b ∉ A) : vis B H A b = B b := if_neg h
theorem vis_ex {A : List Addr} (h : ∀ x ∈ A, B x = none) : Ex B (vis B H A) := fun a o e => by
  rw [vis_out fun z => by rw [h a z] at e; cases e]
  exact e
theorem vis_le {A : List Addr} (h : Ex B H) : Ex (vis B H A) H := fun a o e => by
  by_cases z : a ∈ A
  · rw [vis_in z] at e
    exact e
  · rw [vis_out z] at e
    exact h a o e
theorem OwL.vis {A : List Addr} (hB : ∀ x ∈ A, B x = none) : ∀ {dss : List (List Da)} {ls : List Addr}, (∀ l ∈ ls, l ∈ A) → OwL K B H dss ls → RpAll K (vis B H A) (dss.map Da.lst) (ls.map V.ref)
  | [], ls, _, h => by
    have e : ls = [] := h
    subst e
    exact .nil
  | ds :: r, ls, hl, h => by
    obtain ⟨l, u, xs, rfl, h2, h3, h4⟩ := h
    rw [List.map_cons, List.map_cons]
    refine .cons ?_ (OwL.vis hB (fun x hx => hl x (List.mem_cons_of_mem _ hx)) h4)
    simp only [Rp]
    exact ⟨l, xs, rfl, by rw [vis_in (hl l List.mem_cons_self)]; exact h2, RpAll.mono (vis_ex hB) _ _ h3⟩
theorem ev_ob (h : EvOb K te env C ns dss) : EvE K te env (.obj C ns (dss.map Da.lst)) := fun σ B s H1 e Q q => h σ B s H1 e Q fun a dx ls B' H2 g nd new ha hl ow => by
  have hB : ∀ x ∈ a :: ls, B' x = none := fun x hx => (new x hx).2
  refine q (.ref a) (FR.vis B' H2 (a :: ls)) H2 ⟨g.b.trans (vis_ex hB), vis_le g.h, g.k, fun b hb => ?_⟩ ?_
  · rw [vis_out fun z => hb (new b z).1]
    exact g.n b hb
  · simp only [Rp]
    exact ⟨a, dx, ls.map V.ref, rfl, by rw [vis_in List.mem_cons_self]; exact ha, by rw [List.length_map]; exact hl, ow.vis hB fun l hl => List.mem_cons_of_mem _ hl⟩
theorem run_asgO (h : EvOb K te (imm env) C ns dss) (q : E.nx (env.set i (.ob C ns dss))) : Run K (tAsg te (gName i)) env E := fun B0 H0 B H σ D Bs eb s k =>
  h σ B s.imm H s.eH _ fun a dx ls B' H' g nd new ha hl ow => k.nx _ B' H' _ (s.new (sl := .ob C ns dss) g (a :: ls) (fun x hx => ⟨(new x hx).1, (new x hx).2, fun z => by
    rcases List.mem_cons.mp hx with e | e
    · rw [e, ha] at z
      cases z
    · have : ∀ {dss : List (List Da)} {ls : List Addr}, OwL K B' H' dss ls → ∀ x ∈ ls, H' x ≠ none := by
        intro dss
        induction dss with
        | nil =>
          intro ls h x hx
          have e : ls = [] := h
          subst e
          cases hx
        | cons ds r ih =>
          intro ls h x hx
          obtain ⟨l, u, xs, rfl, h2, h3, h4⟩ := h
          rcases List.mem_cons.mp hx with e | e
          · rw [e, h2]
            exact fun z => by cases z
          · exact ih h4 x e
      exact this ow x e z⟩) ⟨a, dx, ls, rfl, rfl, nd, ha, hl, ow⟩) (eb.trans g.b) q
theorem run_retO (h : EvOb K te (imm env) C ns dss) (q : E.ro C ns dss) : Run K (tRet te) env E := fun B0 H0 B H σ D Bs eb s k =>
  h σ B s.imm H s.eH _ fun a dx ls B' H' g nd new ha hl ow => k.ro a dx ls B' H' C ns dss ((s.up g).gr) nd (fun x hx => ⟨h0_none s (new x hx).1, (new x hx).2⟩) ha hl ow q
theorem eo_call {P : List Da → Addr → List Str → List (List Da) → Prop} {X : XK} (h : EvA K t env es) (hp : P es C ns dss) : EvOb K (tCall (FnO K P) [] X t) env C ns dss := fun σ B s H1 e Q q =>
  h σ B s H1 e _ fun vs B2 H2 g r => by
    refine ⟨B2, es, C, ns, dss, g.h, by rw [List.append_nil]; exact r, hp, fun a dx ls B' H' g' nd new ha hl ow => q a dx ls B' H' (g.trans g') nd (fun x hx => ⟨fresh_back g.k (new x hx).1, (new x hx).2⟩) ha hl ow⟩
def retO (A : Addr) (ns : List Str) (dss : List (List Da)) : Ed := { nx := fun _ => False, rd := fun _ => False, rl := fun _ => False, ro := fun A' ns' dss' => A' = A ∧ ns' = ns ∧ dss' = dss }
theorem fnO_of {P : List Da → Addr → List Str → List (List Da) → Prop} {u : TS} {N : List Str} (n : Nat) (hn : ∀ ds A ns dss, P ds A ns dss → N.length - ds.length = n) (h : ∀ ds A ns dss, P ds A ns dss → Run K u (ent ds n) (retO A ns dss)) {vs : List V} {H : Hp} {Q : VK} {X : XK} (hp : FnO K P vs H Q X) :
    u { nx := fun _ H' => Q .non H', rt := Q } (start N vs) H := by
  obtain ⟨B, ds, A, ns, dss, e, r, p, q⟩ := hp
  have s := sta_ent (n := n) e r
  have hl : N.length - vs.length = n := by rw [r.len]; exact hn ds A ns dss p
  rw [start_eq, hl]
  refine h ds A ns dss p B H B H _ _ B (Ex.refl _) s ⟨fun σ B' H' env s' _ z => z.elim, fun _ _ _ _ _ _ z => z.elim, fun _ _ _ _ _ _ z => z.elim, fun v B' H' d' g r' z => z.elim, fun l xs B' H' es g h1 h2 h3 h4 z => z.elim, fun a dx ls B' H' A' ns' dss' g nd new ha hl ow z => ?_⟩
  obtain ⟨rfl, rfl, rfl⟩ := z
  exact q a dx ls B' H' g nd new ha hl ow
theorem len_O {P : List Da → Addr → List Str → List (List Da) → Prop} {m : Nat} (hm : ∀ ds A ns dss, P ds A ns dss → ds.length = m) {vs : List V} {H : Hp} {Q : VK} {X : XK} (hp : FnO K P vs H Q X) : vs.length = m := by
  obtain ⟨B, ds, A, ns, dss, e, r, p, q⟩ := hp
  rw [r.len]
  exact hm ds A ns dss p
/-- an __init__ that copies one, two lists -/
def InL1 (K : PySem.W.Frag) (C : Addr) (f1 : Str) : Sp := fun vs H Q _ => ∃ (x dx p : Addr) (xs : List V), vs = [.ref x, .ref p] ∧ H x = some (.ins C dx []) ∧ H p = some (.lst xs) ∧ ∀ l, H l = none → Q .non (upd (upd H l (.lst xs)) x (.ins C dx [(f1, .ref l)]))
def InL2 (K : PySem.W.Frag) (C : Addr) (f1 f2 : Str) : Sp := fun vs H Q _ => ∃ (x dx p p' : Addr) (xs ys : List V), vs = [.ref x, .ref p, .ref p'] ∧ H x = some (.ins C dx []) ∧ H p = some (.lst xs) ∧ H p' = some (.lst ys) ∧
  ∀ l, H l = none → ∀ l', upd (upd H l (.lst xs)) x (.ins C dx [(f1, .ref l)]) l' = none → Q .non (upd (upd (upd (upd H l (.lst xs)) x (.ins C dx [(f1, .ref l)])) l' (.lst ys)) x (.ins C dx [(f1, .ref l), (f2, .ref l')]))
theorem in_L1 {vs : List V} {H : Hp} {Q : VK} {X : XK} {N : List Str} (hN : N.length = 2) (c : Cls K C) (n1 : NoAttr K C f1) (h : InL1 K C f1 vs H Q X) : sFld K (tVar 0) (tCB (rListS K) (tCons (tVar 1) tNil)) f1 { nx := fun _ H' => Q .non H', rt := Q } (start N vs) H := by
  obtain ⟨x, dx, p, xs, rfl, hx, hp, q⟩ := h
  refine ⟨.ref p, by rw [start_eq]; rfl, p, xs, rfl, .inl (sq_of hp), fun l hl => ⟨.ref x, by rw [start_eq]; rfl, x, C, dx, [], rfl, ?_, c, n1, by simp, ?_⟩⟩
  · rw [upd_ne (ne_of_none hx hl)]
    exact hx
  · rw [put_one]
    exact q l hl
theorem in_L2 {vs : List V} {H : Hp} {Q : VK} {X : XK} {N : List Str} (hN : N.length = 3) (c : Cls K C) (n1 : NoAttr K C f1) (n2 : NoAttr K C f2) (hne : f1 ≠ f2) (h : InL2 K C f1 f2 vs H Q X) :
    tSeq (sFld K (tVar 0) (tCB (rListS K) (tCons (tVar 1) tNil)) f1) (sFld K (tVar 0) (tCB (rListS K) (tCons (tVar 2) tNil)) f2) { nx := fun _ H' => Q .non H', rt := Q } (start N vs) H := by
  obtain ⟨x, dx, p, p', xs, ys, rfl, hx, hp, hp', q⟩ := h
  refine ⟨.ref p, by rw [start_eq]; rfl, p, xs, rfl, .inl (sq_of hp), fun l hl => ⟨.ref x, by rw [start_eq]; rfl, x, C, dx, [], rfl, ?_, c, n1, by simp, ?_⟩⟩
  · rw [upd_ne (ne_of_none hx hl)]
    exact hx
  · rw [put_one]
    have hp2 : upd (upd H l (.lst xs)) x (.ins C dx [(f1, .ref l)]) p' = some (.lst ys) := by
      rw [upd_ne (ne_of hp' hx (by intro z; cases z)), upd_ne (ne_of_none hp' hl)]
      exact hp'
    refine ⟨.ref p', by rw [start_eq]; rfl, p', ys, rfl, .inl (sq_of hp2), fun l' hl' => ⟨.ref x, by rw [start_eq]; rfl, x, C, dx, [(f1, .ref l)], rfl, ?_, c, n2, by simp, ?_⟩⟩
    · rw [upd_ne (ne_of_none upd_same hl'), upd_same]
    · rw [put_two hne]
      exact q l hl l' hl'
theorem eo_mak1 {X : XK} (h : EvE K te env (.lst ds)) : EvOb K (tMake C (InL1 K C f1) [] X (tCons te tNil)) env C [f1] [ds] := fun σ B s H1 e Q q =>
  h σ B s H1 e _ fun v B2 H2 g r => by
    simp only [Rp] at r
    obtain ⟨p, xs, rfl, hp, rx⟩ := r
    intro x dx hx hdx hne
    have hpH := g.h _ _ hp
    have npx : p ≠ x := ne_of_none hpH hx
    have npd : p ≠ dx := ne_of_none hpH hdx
    refine ⟨x, dx, p, xs, rfl, upd_same, by rw [upd_ne npx, upd_ne npd]; exact hpH, fun l hl => ⟨rfl, ?_⟩⟩
    have nlx : l ≠ x := fun z => by
      rw [z, upd_same] at hl
      cases hl
    rw [upd_ne nlx] at hl
    have nld : l ≠ dx := fun z => by
      rw [z, upd_same] at hl
      cases hl
    rw [upd_ne nld] at hl
    have k2 : Ex H2 (upd (upd (upd (upd H2 dx (.own x)) x (.ins C dx [])) l (.lst xs)) x (.ins C dx [(f1, .ref l)])) := (((Ex.refl H2).mut hdx).mut hx).mut hl |>.mut hx
    refine q x dx [l] B2 _ (g.trans (Gr.keep g.h k2)) (by simp; exact fun z => nlx z.symm) (fun z hz => ?_) upd_same rfl ⟨l, [], xs, rfl, by rw [upd_ne nlx, upd_same], rx, rfl⟩
    rcases List.mem_cons.mp hz with w | w
    · rw [w]
      exact ⟨fresh_back g.k hx, fresh_back g.h hx⟩
    · rw [List.mem_singleton.mp w]
      exact ⟨fresh_back g.k hl, fresh_back g.h hl⟩
theorem eo_mak2 {X : XK} (h : EvE K te env (.lst ds)) (h' : EvE K tv env (.lst es)) : EvOb K (tMake C (InL2 K C f1 f2) [] X (tCons te (tCons tv tNil))) env C [f1, f2] [ds, es] := fun σ B s H1 e Q q =>
  h σ B s H1 e _ fun v B1 H1' g1 r => h' σ B1 (s.mono g1.b) H1' g1.h _ fun v' B2 H2 g2 r' => by
    have g := g1.trans g2
    have r := r.mono g2.b
    simp only [Rp] at r r'
    obtain ⟨p, xs, rfl, hp, rx⟩ := r
    obtain ⟨p', ys, rfl, hp', ry⟩ := r'
    intro x dx hx hdx hne
    have hpH := g.h _ _ hp
    have hpH' := g.h _ _ hp'
    refine ⟨x, dx, p, p', xs, ys, rfl, upd_same, by rw [upd_ne (ne_of_none hpH hx), upd_ne (ne_of_none hpH hdx)]; exact hpH, by rw [upd_ne (ne_of_none hpH' hx), upd_ne (ne_of_none hpH' hdx)]; exact hpH', fun l hl l' hl' => ⟨rfl, ?_⟩⟩
    have nlx : l ≠ x := fun z => by
      rw [z, upd_same] at hl
      cases hl
    rw [upd_ne nlx] at hl
    have nld : l ≠ dx := fun z => by
      rw [z, upd_same] at hl
      cases hl
    rw [upd_ne nld] at hl
    have nlx' : l' ≠ x := fun z => by
      rw [z, upd_same] at hl'
      cases hl'
    rw [upd_ne nlx'] at hl'
    have nll : l' ≠ l := fun z => by
      rw [z, upd_same] at hl'
      cases hl'
    rw [upd_ne nll, upd_ne nlx'] at hl'
    have nld' : l' ≠ dx := fun z => by
      rw [z, upd_same] at hl'
      cases hl'
    rw [upd_ne nld'] at hl'
    have k2 : Ex H2 (upd (upd (upd (upd (upd (upd H2 dx (.own x)) x (.ins C dx [])) l (.lst xs)) x (.ins C dx [(f1, .ref l)])) l' (.lst ys)) x (.ins C dx [(f1, .ref l), (f2, .ref l')])) := ((((((Ex.refl H2).mut hdx).mut hx).mut hl).mut hx).mut hl').mut hx
    refine q x dx [l, l'] B2 _ (g.trans (Gr.keep g.h k2)) ?_ (fun z hz => ?_) upd_same rfl ⟨l, [l'], xs, rfl, by rw [upd_ne nlx, upd_ne (Ne.symm nll), upd_ne nlx, upd_same], rx, l', [], ys, rfl, by rw [upd_ne nlx', upd_same], ry, rfl⟩
    · simp only [List.nodup_cons, List.mem_cons, List.not_mem_nil, or_false, not_or, not_false_eq_true, and_true, List.nodup_nil]
      exact ⟨⟨Ne.symm nlx, Ne.symm nlx'⟩, Ne.symm nll⟩
    · have : z = x ∨ z = l ∨ z = l' := by simpa using hz
      rcases this with w | w | w <;> rw [w]
      · exact ⟨fresh_back g.k hx, fresh_back g.h hx⟩
      · exact ⟨fresh_back g.k hl, fresh_back g.h hl⟩
      · exact ⟨fresh_back g.k hl', fresh_back g.h hl'⟩
/-- the k-th list of an instance -/
theorem OwL.get : ∀ {dss : List (List Da)} {ls : List Addr} {k : Nat} {ds : List Da}, OwL K B H dss ls → dss[k]? = some ds → ∃ l xs, ls[k]? = some l ∧ H l = some (.lst xs) ∧ RpAll K B ds xs
  | [], ls, k, ds, h, e => by simp at e
  | x :: r, ls, 0, ds, h, e => by
    obtain ⟨l, u, xs, rfl, h2, h3, h4⟩ := h
    cases e
    exact ⟨l, xs, rfl, h2, h3⟩
  | x :: r, ls, k + 1, ds, h, e => by
    obtain ⟨l, u, xs, rfl, h2, h3, h4⟩ := h
    have e' : r[k]? = some ds := by simpa using e
    obtain ⟨l', ys, g1, g2, g3⟩ := OwL.get h4 e'
    exact ⟨l', ys, by simpa using g1, g2, g3⟩
theorem OwL.wr : ∀ {dss : List (List Da)} {ls : List Addr} {k : Nat} {l : Addr} {xs : List V} {ds : List Da}, ls.Nodup → OwL K B H dss ls → ls[k]? = some l → RpAll K B ds xs → OwL K B (upd H l (.lst xs)) (dss.set k ds) ls
  | [], ls, k, l, xs, ds, nd, h, e, r => by
    have e2 : ls = [] := h
    subst e2
    simp at e
  | y :: q, ls, 0, l, xs, ds, nd, h, e, r => by
    obtain ⟨l', u, ys, rfl, h2, h3, h4⟩ := h
    have e2 : l' = l := by simpa using e
    subst e2
    obtain ⟨n1, n2⟩ := List.nodup_cons.mp nd
    exact ⟨l', u, xs, rfl, upd_same, r, h4.same fun a ha => upd_ne fun z => n1 (by rw [← z]; exact ha)⟩
  | y :: q, ls, k + 1, l, xs, ds, nd, h, e, r => by
    obtain ⟨l', u, ys, rfl, h2, h3, h4⟩ := h
    obtain ⟨n1, n2⟩ := List.nodup_cons.mp nd
    have e' : u[k]? = some l := by simpa using e
    exact ⟨l', u, ys, rfl, by rw [upd_ne (show l' ≠ l from fun z => n1 (by rw [z]; exact List.mem_of_getElem? e'))]; exact h2, h3, OwL.wr n2 h4 e' r⟩
/-- where a field's list lies: the k-th name -/
def Fat (ns : List Str) (f : Str) (k : Nat) : Prop := ∀ ls : List Addr, ls.length = ns.length → ∀ l, ls[k]? = some l → (ns.zip (ls.map V.ref)).lookup f = some (.ref l)
theorem fat0 {ns : List Str} : Fat (f :: ns) f 0 := fun ls hl l h => by
  cases ls with
  | nil => cases h
  | cons a r =>
    cases h
    exact lk_hd (by simp)
theorem fat1 {ns : List Str} (hne : (f == f1) = false) : Fat (f1 :: f :: ns) f 1 := fun ls hl l h => by
  match ls, hl, h with
  | [], hl, h => simp at h
  | [a], hl, h => simp at h
  | a :: b :: r, hl, h =>
    have e : b = l := by simpa using h
    subst e
    show List.lookup f ((f1, V.ref a) :: (f, V.ref b) :: _) = _
    rw [List.lookup_cons, hne]
    show List.lookup f ((f, V.ref b) :: _) = _
    rw [List.lookup_cons]
    simp
/-- o.f.append(e), o one's own -/
theorem run_appO {k : Nat} (hx : env[i]? = some (.ob C ns dss)) (c : Cls K C) (na : NoAttr K C f) (hf : Fat ns f k) (hk : dss[k]? = some ds) (h : EvE K te (imm env) d) (hz : ds.length < 100000) (q : E.nx (env.set i (.ob C ns (dss.set k (ds ++ [d]))))) :
    Run K (tDrop (tBM K "list" rAppend (tFld K (tVar i) f) (tCons te tNil))) env E := fun B0 H0 B H σ D Bs eb s kk => by
  obtain ⟨ad, a1, a2, a3⟩ := s.own
  obtain ⟨a, dx, ls, h1, h2, nd, h4, h5, h6⟩ := a3 i _ hx
  obtain ⟨l, xs, hl, hlst, rx⟩ := h6.get hk
  refine ⟨_, h1, a, C, dx, _, .ref l, rfl, h4, c, na, hf ls h5 l hl, .inl ⟨rfl, xs, sq_of hlst⟩, h σ B s.imm H s.eH _ fun v B' H' g r => ?_⟩
  have s' := s.up g
  have hA : ∀ i x, x ∈ ad i → H0 x = none ∧ B' x = none ∧ H' x ≠ none := fun i x hx => by
    obtain ⟨z1, z2, z3⟩ := a2 i x hx
    exact ⟨z1, by rw [g.n x z3, z2], ex_nn g.k z3⟩
  rw [h2] at nd
  obtain ⟨n1, n2⟩ := List.nodup_cons.mp nd
  have hla : l ∈ ls := List.mem_of_getElem? hl
  have nla : a ≠ l := fun z => n1 (z ▸ hla)
  refine ⟨l, xs, v, rfl, rfl, g.k _ _ hlst, sz_lt (by rw [rx.len]; exact hz), kk.nx σ B' _ _ (s'.wr (i := i) (sl := .ob C ns (dss.set k (ds ++ [d]))) (H' := upd H' l (.lst (xs ++ [v]))) a1 hA (fun j t ht => (a3 j t ht).up g.b g.k) (fun b hb => upd_ne fun z => hb (by rw [h2, z]; exact List.mem_cons_of_mem _ hla)) (fun b hb => ?_)
    ⟨a, dx, ls, h1, h2, by rw [h2]; exact nd, by rw [upd_ne nla]; exact g.k _ _ h4, h5, OwL.wr n2 (h6.up g.b g.k) hl ((RpAll.mono g.b _ _ rx).app (.cons r .nil))⟩) (eb.trans g.b) q⟩
  by_cases z : b = l
  · rw [z, upd_same]
    exact fun z => by cases z
  · rw [upd_ne z]
    exact (hA i b hb).2.2
/-- o.f.pop() -/
theorem run_popO {k : Nat} (hx : env[i]? = some (.ob C ns dss)) (c : Cls K C) (na : NoAttr K C f) (hf : Fat ns f k) (hk : dss[k]? = some ds) (hz : ds ≠ []) (q : E.nx (env.set i (.ob C ns (dss.set k ds.dropLast)))) :
    Run K (tDrop (tBM0 K "list" rPop (tFld K (tVar i) f))) env E := fun B0 H0 B H σ D Bs eb s kk => by
  obtain ⟨ad, a1, a2, a3⟩ := s.own
  obtain ⟨a, dx, ls, h1, h2, nd, h4, h5, h6⟩ := a3 i _ hx
  obtain ⟨l, xs, hl, hlst, rx⟩ := h6.get hk
  rw [h2] at nd
  obtain ⟨n1, n2⟩ := List.nodup_cons.mp nd
  have hla : l ∈ ls := List.mem_of_getElem? hl
  have nla : a ≠ l := fun z => n1 (z ▸ hla)
  have hlen : xs.length - 1 < xs.length := by
    have := List.length_pos_iff.mpr hz
    rw [rx.len]
    omega
  refine ⟨_, h1, a, C, dx, _, .ref l, rfl, h4, c, na, hf ls h5 l hl, .inl ⟨rfl, xs, sq_of hlst⟩, l, xs, _, rfl, rfl, hlst, List.getElem?_eq_getElem hlen, ?_⟩
  refine kk.nx σ B _ _ (s.wr (i := i) (sl := .ob C ns (dss.set k ds.dropLast)) (H' := upd H l (.lst xs.dropLast)) a1 a2 a3 (fun b hb => upd_ne fun z => hb (by rw [h2, z]; exact List.mem_cons_of_mem _ hla)) (fun b hb => ?_) ⟨a, dx, ls, h1, h2, by rw [h2]; exact nd, by rw [upd_ne nla]; exact h4, h5, OwL.wr n2 h6 hl rx.dropLast⟩) eb q
  by_cases z : b = l
  · rw [z, upd_same]
    exact fun z => by cases z
  · rw [upd_ne z]
    exact (a2 i b hb).2.2
/-- xs[j] = e, xs one's own -/
theorem run_setL {ti : TE} {j : Nat} (hx : env[i]? = some (.mu ds)) (h : EvE K te (imm env) d) (hs : isSc d = true) (hi : EvE K ti (frz env) (.int (j : Nat))) (hj : j < ds.length) (q : E.nx (env.set i (.mu (ds.set j d)))) : Run K (tAsg te (gSub (tVar i) ti rSetL)) env E := fun B0 H0 B H σ D Bs eb s kk => by
  refine h σ B s.imm H s.eH _ fun v B' H' g r => ?_
  have s' := s.grow g.k
  obtain ⟨ad, a1, a2, a3⟩ := s'.own
  obtain ⟨l, xs, h1, h2, h3, h4⟩ := a3 i _ hx
  refine ⟨_, h1, hi σ H' s'.frz H' (Ex.refl _) _ fun w B3 H3 g3 r3 => ?_⟩
  simp only [Rp] at r3
  subst r3
  have s3 := s'.grow g3.k
  refine ⟨l, xs, ((j : Nat) : Int), j, rfl, rfl, g3.k _ _ h3, Evl.ixN_nat (by rw [h4.len]; exact hj), kk.nx σ B _ _ (s3.wr (i := i) (sl := .mu (ds.set j d)) (H' := upd H3 l (.lst (xs.set j v))) a1 (fun p x hx => ?_) (fun p t ht => (a3 p t ht).up (Ex.refl _) g3.k) (fun a ha => upd_ne fun e => ha (by rw [h2, e]; exact List.mem_cons_self)) (fun a ha => ?_) ⟨l, _, h1, h2, upd_same, h4.set j (r.sc hs)⟩) eb q⟩
  · obtain ⟨z1, z2, z3⟩ := a2 p x hx
    exact ⟨z1, z2, ex_nn g3.k z3⟩
  · rw [h2, List.mem_singleton] at ha
    subst ha
    rw [upd_same]
    exact fun z => by cases z
end
end FR

/-! max over tuples; every second of a list; how many in a set; a walk over new lists. -/
namespace FR
open PySem L2 Evl
open PySem.Spec PyProof.Rows

/-! ### max(xs), alike data -/
def rMaxD (K : PySem.W.Frag) : List V → Hp → VK → Prop := fun vs H Q => ∃ (a : Addr) (xs : List V) (d : PyData) (ds : List PyData), vs = [V.ref a] ∧ SqL K H a xs ∧ DpAll K H xs (d :: ds) ∧ PySem.W.AlikeAll (d :: ds) ∧ PyData.depthAll (d :: ds) ≤ 60 ∧
  ∀ (i : Nat) (y : V), xs[i]? = some y → (d :: ds)[i]? = some (PySem.W.maxD d ds) → Q y H
theorem dpAll_get {K : PySem.W.Frag} {H : Hp} : ∀ {xs : List V} {ds : List PyData} {i : Nat} {y : V}, DpAll K H xs ds → xs[i]? = some y → ∃ d, ds[i]? = some d ∧ Dp K H y d
  | _, _, i, y, .nil, h => by simp at h
  | _, _, 0, y, .cons h1 h2, h => ⟨_, rfl, by
    have : _ = y := Option.some.inj h
    rw [← this]
    exact h1⟩
  | _, _, i + 1, y, .cons h1 h2, h => by
    obtain ⟨d, e, r⟩ := dpAll_get (i := i) h2 (by simpa using h)
    exact ⟨d, by simpa using e, r⟩
theorem vals_get {xs : List V} {us : List Value} (h : Vals xs us) : ∀ {i : Nat} {u : Value}, us[i]? = some u → ∃ y, xs[i]? = some y ∧ RelV y u := by
  induction h with
  | nil => intro i u h; simp at h
  | cons r t ih =>
    intro i u h
    cases i with
    | zero => exact ⟨_, rfl, by
        have : _ = u := Option.some.inj h
        rw [← this]
        exact r⟩
    | succ i =>
      obtain ⟨y, e, r'⟩ := ih (i := i) (by simpa using h)
      exact ⟨y, by simpa using e, r'⟩
theorem maxD_mem : ∀ (ds : List PyData) (d : PyData), PySem.W.maxD d ds ∈ d :: ds
  | [], d => List.mem_cons_self
  | e :: ds, d => by
    show PySem.W.maxD (if PySem.W.dataLt d e then e else d) ds ∈ _
    have := maxD_mem ds (if PySem.W.dataLt d e then e else d)
    rcases List.mem_cons.mp this with h | h
    · rw [h]
      split
      · exact List.mem_cons_of_mem _ List.mem_cons_self
      · exact List.mem_cons_self
    · exact List.mem_cons_of_mem _ (List.mem_cons_of_mem _ h)
theorem cr_maxD {X : Cx} (hc : X.calm = true) (hu : X.A.units + 64 < cLine) : CallR X (.builtin "max") (rMaxD X.K) := by
  intro pins s σ H vs us Q I r h
  obtain ⟨a, xs, d, ds, rfl, hs, hd, ha, hp, q⟩ := h
  obtain ⟨its, rv, hl, _⟩ := I.list hs
  rw [Vals.ref1 r]
  obtain ⟨as, hr⟩ := Dp.readsAll I (d :: ds) xs its hd rv
  refine PySem.W.max_list_data (I.ok.hd hc) hl.isList (by simpa using hr) ha (by omega) fun i v h' tk bs hv hrd hk => ?_
  obtain ⟨y, hy, ry⟩ := vals_get rv (i := i) (u := v) (by simpa using hv)
  obtain ⟨e, he, hde⟩ := dpAll_get hd hy
  have I' := I.kept (t' := tk) hk
  obtain ⟨cs, hrd2⟩ := Dp.reads I' e y v hde ry
  have : e = PySem.W.maxD d ds := PySem.W.alike_unique e _ v _ _ (ha.1 e (List.mem_of_getElem? he) _ (maxD_mem ds d)) hrd2 hrd
  exact ⟨y, H, I', ry, q i y hy (by rw [← this]; exact he)⟩
abbrev Tri : Type := Int × (Int × Int)
def triD (t : Tri) : Da := .tup [.int t.1, prD t.2]
theorem py_tri (t : Tri) : py (triD t) = PySem.W.Datum.toD t := by
  obtain ⟨a, b, c⟩ := t
  simp only [triD, prD, py, pyAll]
  rfl
theorem toD_inj {t u : Tri} (h : PySem.W.Datum.toD t = PySem.W.Datum.toD u) : t = u := by
  obtain ⟨a, b, c⟩ := t
  obtain ⟨d, e, f⟩ := u
  have h' : PyData.tuple [.int a, .tuple [.int b, .int c]] = PyData.tuple [.int d, .tuple [.int e, .int f]] := h
  simp only [PyData.tuple.injEq, List.cons.injEq, PyData.int.injEq, and_true] at h'
  obtain ⟨rfl, rfl, rfl⟩ := h'
  rfl
section
variable {K : PySem.W.Frag} {env : En} {te ta tb : TE} {ds es : List Da} {i j : Int}
theorem ev_maxT {t : Tri} {ts : List Tri} (ha : EvE K ta env (.lst ((t :: ts).map triD))) : EvE K (tCB (rMaxD K) (tCons ta tNil)) env (triD (PySem.W.maxOf t ts)) :=
  ev_cb (ea_cons ha ea_nil) fun B H vs e r Q q => by
    obtain ⟨v, rfl, h3⟩ := one_rp r
    simp only [Rp] at h3
    obtain ⟨a, xs, rfl, h4, h5⟩ := h3
    have ep : pyAll ((t :: ts).map triD) = (t :: ts).map PySem.W.Datum.toD := by
      rw [pyAll_map]
      exact List.map_congr_left fun x _ => py_tri x
    have hd := dpAll_of e _ _ (isPyAll_map (f := triD) (xs := t :: ts) fun x _ => by simp [triD, prD, isPy, isPyAll]) h5
    rw [ep] at hd
    refine ⟨a, xs, PySem.W.Datum.toD t, ts.map PySem.W.Datum.toD, rfl, sq_of (e _ _ h4), hd, PySem.W.alikeAll_datum (t :: ts), ?_, fun i y hy hm => ?_⟩
    · have := depAll (f := fun u : Tri => PySem.W.Datum.toD u) (n := 2) (xs := t :: ts) fun u => by
        obtain ⟨a, b, c⟩ := u
        show (PyData.tuple [.int a, .tuple [.int b, .int c]]).depth ≤ 2
        simp [PyData.depth, PyData.depthAll]
      exact Nat.le_trans this (by decide)
    · rw [PySem.W.maxD_map] at hm
      have hm' : ((t :: ts).map PySem.W.Datum.toD)[i]? = some (PySem.W.Datum.toD (PySem.W.maxOf t ts)) := hm
      rw [List.getElem?_map] at hm'
      obtain ⟨d, hd2, rd⟩ := h5.getV hy
      rw [List.getElem?_map] at hd2
      cases hu : (t :: ts)[i]? with
      | none =>
        rw [hu] at hd2
        cases hd2
      | some u =>
        rw [hu] at hd2 hm'
        have e1 : triD u = d := Option.some.inj hd2
        have e2 : u = PySem.W.maxOf t ts := toD_inj (Option.some.inj hm')
        exact q y B H (Gr.refl e) (by rw [← e2, e1]; exact rd)
theorem max_mem : ∀ (ts : List Tri) (t : Tri), PySem.W.maxOf t ts ∈ t :: ts
  | [], t => List.mem_cons_self
  | e :: ds, d => by
    show PySem.W.maxOf (if PySem.W.DatumOrd.lt d e = true then e else d) ds ∈ _
    have := max_mem ds (if PySem.W.DatumOrd.lt d e = true then e else d)
    rcases List.mem_cons.mp this with h | h
    · rw [h]
      split
      · exact List.mem_cons_of_mem _ List.mem_cons_self
      · exact List.mem_cons_self
    · exact List.mem_cons_of_mem _ (List.mem_cons_of_mem _ h)
theorem lt_tri (a b : Tri) : (PySem.W.DatumOrd.lt a b = true → a.1 ≤ b.1) ∧ (PySem.W.DatumOrd.lt a b = false → b.1 ≤ a.1) := by
  have e : PySem.W.DatumOrd.lt a b = if a.1 = b.1 then PySem.W.DatumOrd.lt a.2 b.2 else decide (a.1 < b.1) := rfl
  rw [e]
  by_cases h : a.1 = b.1
  · rw [if_pos h]
    exact ⟨fun _ => by omega, fun _ => by omega⟩
  · rw [if_neg h]
    exact ⟨fun z => by have := of_decide_eq_true z; omega, fun z => by have := of_decide_eq_false z; omega⟩
theorem max_ge : ∀ (ts : List Tri) (t : Tri), ∀ u ∈ t :: ts, u.1 ≤ (PySem.W.maxOf t ts).1
  | [], t, u, h => by
    have : u = t := by simpa using h
    rw [this]
    exact Int.le_refl _
  | e :: ds, d, u, h => by
    show u.1 ≤ (PySem.W.maxOf (if PySem.W.DatumOrd.lt d e = true then e else d) ds).1
    have ih := max_ge ds (if PySem.W.DatumOrd.lt d e = true then e else d)
    have h0 := ih _ List.mem_cons_self
    obtain ⟨l1, l2⟩ := lt_tri d e
    by_cases hl : PySem.W.DatumOrd.lt d e = true
    · rw [if_pos hl] at h0 ih ⊢
      have := l1 hl
      rcases List.mem_cons.mp h with rfl | h
      · omega
      · rcases List.mem_cons.mp h with rfl | h
        · exact h0
        · exact ih u (List.mem_cons_of_mem _ h)
    · rw [if_neg hl] at h0 ih ⊢
      have := l2 (by simpa using hl)
      rcases List.mem_cons.mp h with rfl | h
      · exact h0
      · rcases List.mem_cons.mp h with rfl | h
        · omega
        · exact ih u (List.mem_cons_of_mem _ h)

/-! ### len(set(xs)), no int twice -/
theorem ev_lenSet {ns : List Int} (ha : EvE K ta env (intsD ns)) (h1 : ns.Nodup) (h2 : ns.length ≤ 4000) : EvE K (RZ.tLenSetI K ta) env (.int (ns.length : Int)) := fun σ B s H1 e Q q =>
  ha σ B s H1 e _ fun v B2 H2 g r => by
    simp only [intsD, Rp] at r
    obtain ⟨a, xs, rfl, h3, h4⟩ := r
    have z := rp_ints h4
    subst z
    exact ⟨a, ns, rfl, sq_of (g.h _ _ h3), h1, h2, q _ B2 H2 g (by simp only [Rp])⟩

/-! ### xs[j::2] -/
def ev2 {α : Type} : List α → List α
  | [] => []
  | [a] => [a]
  | a :: _ :: r => a :: ev2 r
def tSl2 (K : PySem.W.Frag) (te : TE) (tl : TO) : TE := fun σ H Q => te σ H fun x H1 => tl σ H1 fun l H2 => ∃ (a : Addr) (xs : List V), ∃ j : Nat, x = .ref a ∧ SqL K H2 a xs ∧ (l = none ∧ j = 0 ∨ l = some (j : Int)) ∧ ∀ p, H2 p = none → Q (.ref p) (upd H2 p (.lst (ev2 (xs.drop j))))
theorem ev2_len {α : Type} : ∀ xs : List α, (ev2 xs).length = (xs.length + 1) / 2
  | [] => by simp [ev2]
  | [a] => by simp [ev2]
  | a :: b :: r => by
    show (ev2 r).length + 1 = _
    rw [ev2_len r]
    simp
    omega
theorem ev2_pick {α : Type} : ∀ xs : List α, (List.range ((xs.length + 1) / 2)).filterMap (fun k => xs[2 * k]?) = ev2 xs
  | [] => by simp [ev2]
  | [a] => by simp [ev2]
  | a :: b :: r => by
    have e : ((a :: b :: r).length + 1) / 2 = (r.length + 1) / 2 + 1 := by simp; omega
    rw [e, List.range_succ_eq_map, List.filterMap_cons]
    show a :: _ = a :: ev2 r
    rw [List.filterMap_map, ← ev2_pick r]
    rfl
theorem vals_ev2 : ∀ {xs : List V} {us : List Value}, Vals xs us → Vals (ev2 xs) (ev2 us)
  | [], _, .nil => .nil
  | [_], _, .cons r .nil => .cons r .nil
  | _ :: _ :: _, _, .cons r (.cons _ t) => .cons r (vals_ev2 t)
theorem slice_two (items : Array Value) (l : Option Int) (j : Nat) (h : l = none ∧ j = 0 ∨ l = some (j : Int)) : slicePick items l none (some 2) = (ev2 (items.toList.drop j)).toArray := by
  have hb : sliceBounds l none (some 2) items.size = (((min j items.size : Nat) : Int), ((items.size : Nat) : Int), 2) := by
    rcases h with ⟨rfl, rfl⟩ | rfl
    · simp [sliceBounds]
    · have : ¬ ((j : Int) < 0) := by omega
      simp only [sliceBounds, Option.getD, this, if_false]
      refine Prod.ext ?_ rfl
      simp
      omega
  unfold slicePick
  rw [hb]
  unfold sliceRange
  rw [← ev2_pick]
  congr 1
  have hc : (if (2 : Int) > 0 then (if ((min j items.size : Nat) : Int) < (items.size : Int) then ((items.size : Int) - ((min j items.size : Nat) : Int) + 2 - 1) / 2 else 0) else (if ((min j items.size : Nat) : Int) > (items.size : Int) then (((min j items.size : Nat) : Int) - (items.size : Int) - 2 - 1) / (-2) else 0)).toNat = ((items.toList.drop j).length + 1) / 2 := by
    rw [if_pos (by decide), List.length_drop, Array.length_toList]
    split <;> omega
  show ((List.range _).map _).filterMap _ = _
  rw [hc, List.filterMap_map]
  by_cases hj : j < items.size
  · congr 1
    funext k
    show items[(((min j items.size : Nat) : Int) + 2 * (k : Int)).toNat]? = (items.toList.drop j)[2 * k]?
    have e : (((min j items.size : Nat) : Int) + 2 * (k : Int)).toNat = j + 2 * k := by omega
    rw [e, List.getElem?_drop, Array.getElem?_toList]
  · have e : ((items.toList.drop j).length + 1) / 2 = 0 := by
      rw [List.length_drop, Array.length_toList]
      omega
    rw [e]
    rfl
theorem pe_slice2 {X : Cx} {e : Expr} {lo : Option Expr} {te : TE} {tl : TO} {k : Nat} {p1 p3 pos : Pos} (he : PE X e te) (hl : PO X lo tl) : PE X (.Subscript e (.Slice lo none (some (.Constant (.int 2) k p1)) p3) pos) (tSl2 X.K te tl) := by
  refine ⟨fun pins s σ H Q I h => ?_⟩
  refine Subscript_ (thn (he.run pins s σ H _ I h) fun v s1 ⟨x, H1, I1, r1, q1⟩ => ?_)
  refine wpAny_Slice (thn (hl.run pins s1 σ H1 _ I1 q1) fun vl s2 ⟨l, H2, I2, pl, q2⟩ => ?_)
  obtain ⟨a, xs, j, ex, hx, hj, q⟩ := q2
  subst ex
  cases r1
  have hst : PO X (some (.Constant (.int 2) k p1)) (tPart (tC (.int 2))) := po_some pe_int
  refine thn (po_none.run pins s2 σ H2 (fun o H3 => o = none ∧ H3 = H2) I2 ⟨rfl, rfl⟩) fun vu s3 ⟨u, H3, I3, pu, eu, e3⟩ => ?_
  subst eu e3
  refine thn (hst.run pins s3 σ H3 (fun o H4 => o = some 2 ∧ H4 = H3) I3 ⟨2, rfl, rfl, rfl⟩) fun vs s4 ⟨o, H4, I4, ps, eo, e4⟩ => ?_
  subst eo e4
  have I5 : Inv X pins σ H4 { s4 with heap := s4.heap.push { cls := .type "slice", data := .fields #[vl, vu, vs] } } := I4.kept (t' := s4.toks) fun b ob q => Heap.get?_push_of_some _ q
  obtain ⟨its, r, ht, hz⟩ := I5.list hx
  have hlen := r.length
  show wpAny (model X.prog X.w) X.A (subscriptTail e (.Slice lo none (some (.Constant (.int 2) k p1)) p3) (.ref a) (.ref s4.heap.objs.size)) (EP X pins σ Q) X.xe { s4 with heap := s4.heap.push { cls := .type "slice", data := .fields #[vl, vu, vs] } }
  refine tail_any (ops := [.ref a, .ref s4.heap.objs.size]) ht.isList.typeIs (PySem.slot_list_getitem.lookup) ?_ (by with_unfolding_all rfl)
  refine wpAny_getItem_list_slice ht.isList (Heap.IsSliceOf.new _ vl vu vs) pl pu ps (by decide) ?_ (by rw [List.size_toArray]; omega)
  rw [slice_two _ _ _ hj]
  refine ⟨.ref _, _, I5.laid (t' := s4.toks) (o := .lst (ev2 (xs.drop j))) (fun b ob q => Heap.get?_push_of_some _ q) (Nat.le_refl _) ?_, rfl, q _ (I5.hok.fresh (Nat.le_refl _))⟩
  exact ⟨by rw [ev2_len, List.length_drop]; omega, _, 0, vals_ev2 (r.drop j), Heap.get?_push_size _ rfl⟩
theorem rp_ev2 {B : Hp} : ∀ {ds : List Da} {xs : List V}, RpAll K B ds xs → RpAll K B (ev2 ds) (ev2 xs)
  | [], xs, h => by
    have : xs = [] := by simpa only [RpAll] using h
    subst this
    exact .nil
  | [d], xs, h => by
    obtain ⟨v, t, rfl, h2, h3⟩ := h.uncons
    have : t = [] := by simpa only [RpAll] using h3
    subst this
    exact .cons h2 .nil
  | d :: d' :: r, xs, h => by
    obtain ⟨v, t, rfl, h2, h3⟩ := h.uncons
    obtain ⟨v', t', rfl, h4, h5⟩ := h3.uncons
    exact .cons h2 (rp_ev2 h5)
theorem ev2_map {α β : Type} (f : α → β) : ∀ xs : List α, ev2 (xs.map f) = (ev2 xs).map f
  | [] => rfl
  | [a] => rfl
  | a :: b :: r => by
    show f a :: ev2 (r.map f) = f a :: (ev2 r).map f
    rw [ev2_map f r]
theorem rp_drop {B : Hp} : ∀ {ds : List Da} {xs : List V} (n : Nat), RpAll K B ds xs → RpAll K B (ds.drop n) (xs.drop n)
  | ds, xs, 0, h => h
  | [], xs, n + 1, h => by
    have : xs = [] := by simpa only [RpAll] using h
    subst this
    exact .nil
  | d :: r, xs, n + 1, h => by
    obtain ⟨v, t, rfl, h2, h3⟩ := h.uncons
    exact rp_drop n h3
theorem en_sl2 {tl : TO} {l : Option Int} {k : Nat} (h : EvE K te env (.lst ds)) (h1 : EvO K tl env l) (hl : l = none ∧ k = 0 ∨ l = some (k : Int)) : EvN K (tSl2 K te tl) env (ev2 (ds.drop k)) := fun σ B s H1 e Q q =>
  h σ B s H1 e _ fun v B2 H2 g r => h1 σ B2 (s.mono g.b) H2 g.h _ fun H3 e3 => by
    have r' := r
    simp only [Rp] at r'
    obtain ⟨a, xs, rfl, h2, h3⟩ := r'
    have g2 := g.trans (Gr.keep g.h e3)
    exact ⟨a, xs, k, rfl, sq_of (e3 _ _ (g.h _ _ h2)), hl, fun p hp => q p _ B2 _ (g2.trans (Gr.put g2.h hp)) (fresh_back g2.k hp) (fresh_back g2.h hp) upd_same (rp_ev2 (rp_drop k h3))⟩
end
end FR

/-! Spans; the fewest pushes; the pushes to the right: the mathematics. -/
namespace FR
open PySem L2 Evl
theorem last_rng {row : List (Int × Int)} {s : Int} {i : Nat} (hi : i < row.length) (hs : Sd s) : 0 ≤ lastI row s i ∧ lastI row s i < row.length := by
  have c := fell_chn row s i
  exact (ah_in (k := (fell row s i).1) hi hs).mp c.le
theorem last_ge {row : List (Int × Int)} {i : Nat} : (i : Int) ≤ lastI row 1 i := by
  unfold lastI
  omega
theorem mn_le (a b : Int) : mn a b ≤ a ∧ mn a b ≤ b := by
  unfold mn
  split <;> omega
theorem mx_ge (a b : Int) : a ≤ mx a b ∧ b ≤ mx a b := by
  unfold mx
  split <;> omega
theorem mn_or (a b : Int) : mn a b = a ∨ mn a b = b := by
  unfold mn
  split <;> simp
theorem mx_or (a b : Int) : mx a b = a ∨ mx a b = b := by
  unfold mx
  split <;> simp
/-- a span: the first, the last, the push -/
abbrev Span : Type := Int × Tri
def spanT (row : List (Int × Int)) (i : Nat) (s : Int) : Span := (mn i (lastI row s i), (mx i (lastI row s i), ((i : Int), s)))
def spD (t : Span) : Da := .tup [.int t.1, .int t.2.1, prD t.2.2]
def spansK (row : List (Int × Int)) (k : Nat) : List Span := (List.range k).flatMap fun i => [spanT row i 1, spanT row i (-1)]
def spansL (row : List (Int × Int)) : List Span := spansK row row.length
theorem spansK_succ (row : List (Int × Int)) (k : Nat) : spansK row (k + 1) = spansK row k ++ [spanT row k 1, spanT row k (-1)] := by
  unfold spansK
  rw [List.range_succ, List.flatMap_append]
  simp
theorem spansK_len (row : List (Int × Int)) : ∀ k, (spansK row k).length = 2 * k
  | 0 => rfl
  | k + 1 => by
    rw [spansK_succ, List.length_append, spansK_len row k]
    simp
    omega
theorem span_in {row : List (Int × Int)} {t : Span} : t ∈ spansL row ↔ ∃ i : Nat, ∃ s, i < row.length ∧ Sd s ∧ t = spanT row i s := by
  unfold spansL spansK
  rw [List.mem_flatMap]
  constructor
  · rintro ⟨i, hi, h⟩
    have hi' := List.mem_range.mp hi
    simp only [List.mem_cons, List.not_mem_nil, or_false] at h
    rcases h with rfl | rfl
    · exact ⟨i, 1, hi', .inl rfl, rfl⟩
    · exact ⟨i, -1, hi', .inr rfl, rfl⟩
  · rintro ⟨i, s, hi, hs, rfl⟩
    refine ⟨i, List.mem_range.mpr hi, ?_⟩
    rcases hs with rfl | rfl <;> simp
def inS (t : Span) (z : Int) : Bool := decide (t.1 ≤ z) && decide (z ≤ t.2.1)
theorem inS_iff {t : Span} {z : Int} : inS t z = true ↔ t.1 ≤ z ∧ z ≤ t.2.1 := by
  unfold inS
  rw [Bool.and_eq_true, decide_eq_true_eq, decide_eq_true_eq]
def candL (row : List (Int × Int)) (z : Int) : List Tri := ((spansL row).filter fun t => inS t z).map fun t => t.2
def bestT (row : List (Int × Int)) (z : Int) : Tri := match candL row z with
  | [] => (z, (0, 1))
  | t :: ts => PySem.W.maxOf t ts
theorem best_ok {row : List (Int × Int)} {z : Int} (h0 : 0 ≤ z) (h1 : z < row.length) : (∃ t ts, candL row z = t :: ts ∧ bestT row z = PySem.W.maxOf t ts) ∧
    (∃ t ∈ spansL row, inS t z = true ∧ t.2 = bestT row z) ∧ ∀ t ∈ spansL row, inS t z = true → t.2.1 ≤ (bestT row z).1 := by
  have hm : (spanT row z.toNat 1) ∈ (spansL row).filter fun t => inS t z := by
    refine List.mem_filter.mpr ⟨span_in.mpr ⟨z.toNat, 1, by omega, .inl rfl, rfl⟩, inS_iff.mpr ⟨?_, ?_⟩⟩
    · have := (mn_le (z.toNat : Int) (lastI row 1 z.toNat)).1
      show mn (z.toNat : Int) _ ≤ z
      omega
    · have := (mx_ge (z.toNat : Int) (lastI row 1 z.toNat)).1
      show z ≤ mx (z.toNat : Int) _
      omega
  have hne : candL row z ≠ [] := by
    unfold candL
    intro e
    rw [List.map_eq_nil_iff] at e
    rw [e] at hm
    cases hm
  have hb : ∃ t ts, candL row z = t :: ts ∧ bestT row z = PySem.W.maxOf t ts := by
    unfold bestT
    cases e : candL row z with
    | nil => exact absurd e hne
    | cons t ts => exact ⟨t, ts, rfl, rfl⟩
  obtain ⟨t, ts, e1, e2⟩ := hb
  refine ⟨⟨t, ts, e1, e2⟩, ?_, fun u hu hz => ?_⟩
  · have := max_mem ts t
    rw [← e2, ← e1] at this
    obtain ⟨u, hu, e⟩ := List.mem_map.mp this
    obtain ⟨hu1, hu2⟩ := List.mem_filter.mp hu
    exact ⟨u, hu1, hu2, e⟩
  · rw [e2]
    refine max_ge ts t u.2 ?_
    rw [← e1]
    exact List.mem_map.mpr ⟨u, List.mem_filter.mpr ⟨hu, hz⟩, rfl⟩
/-- the greedy choice -/
def fewF (row : List (Int × Int)) : Nat → Int → List ((Int × Int) × Int)
  | 0, _ => []
  | f + 1, z => if z < row.length then ((bestT row z).2, z) :: fewF row f ((bestT row z).1 + 1) else []
def fewL (row : List (Int × Int)) : List ((Int × Int) × Int) := fewF row row.length 0
def fewP (row : List (Int × Int)) : List (Int × Int) := (fewL row).map fun q => q.1
def fewZ (row : List (Int × Int)) : List Int := (fewL row).map fun q => q.2
theorem best_end {row : List (Int × Int)} {z : Int} (h0 : 0 ≤ z) (h1 : z < row.length) : z ≤ (bestT row z).1 ∧ (bestT row z).1 < row.length := by
  obtain ⟨_, ⟨t, ht, hz, e⟩, _⟩ := best_ok h0 h1
  rw [← e]
  refine ⟨(inS_iff.mp hz).2, ?_⟩
  obtain ⟨i, s, hi, hs, rfl⟩ := span_in.mp ht
  have := last_rng hi hs
  show mx (i : Int) _ < _
  rcases mx_or (i : Int) (lastI row s i) with e | e <;> rw [e] <;> omega
theorem fewF_len (row : List (Int × Int)) : ∀ f z, (fewF row f z).length ≤ f
  | 0, z => Nat.le_refl _
  | f + 1, z => by
    unfold fewF
    split
    · rw [List.length_cons]
      have := fewF_len row f ((bestT row z).1 + 1)
      omega
    · simp
/-- what the choice gives -/
structure Few (row : List (Int × Int)) (z : Int) (q : List ((Int × Int) × Int)) : Prop where
  rise : (q.map fun x => x.2).Pairwise (· < ·)
  rng : ∀ x ∈ q, z ≤ x.2 ∧ x.2 < row.length
  push : ∀ x ∈ q, ∃ t ∈ spansL row, inS t x.2 = true ∧ t.2.2 = x.1
  cov : ∀ k : Int, z ≤ k → k < row.length → ∃ x ∈ q, ∃ t ∈ spansL row, t.2.2 = x.1 ∧ inS t k = true
  ind : ∀ t ∈ spansL row, ∀ x ∈ q, ∀ y ∈ q, inS t x.2 = true → inS t y.2 = true → x.2 = y.2
theorem fewF_ok (row : List (Int × Int)) : ∀ (f : Nat) (z : Int), 0 ≤ z → (row.length : Int) ≤ z + f → Few row z (fewF row f z)
  | 0, z, h0, hf => ⟨by simp [fewF], fun x hx => by simp [fewF] at hx, fun x hx => by simp [fewF] at hx, fun k h1 h2 => by omega, fun t ht x hx => by simp [fewF] at hx⟩
  | f + 1, z, h0, hf => by
    unfold fewF
    by_cases hz : z < row.length
    · rw [if_pos hz]
      obtain ⟨_, ⟨t, ht, hti, e⟩, hmax⟩ := best_ok h0 hz
      obtain ⟨e1, e2⟩ := best_end h0 hz
      have ih := fewF_ok row f ((bestT row z).1 + 1) (by omega) (by omega)
      have cross : ∀ u ∈ spansL row, ∀ y ∈ fewF row f ((bestT row z).1 + 1), inS u z = true → inS u y.2 = true → False := fun u hu y hy h1 h2 => by
        have := hmax u hu h1
        have := (inS_iff.mp h2).2
        have := (ih.rng y hy).1
        omega
      refine ⟨?_, ?_, ?_, ?_, ?_⟩
      · rw [List.map_cons, List.pairwise_cons]
        refine ⟨fun a ha => ?_, ih.rise⟩
        obtain ⟨y, hy, rfl⟩ := List.mem_map.mp ha
        have := (ih.rng y hy).1
        show z < y.2
        omega
      · intro x hx
        rcases List.mem_cons.mp hx with rfl | hx
        · exact ⟨Int.le_refl _, hz⟩
        · have := ih.rng x hx
          omega
      · intro x hx
        rcases List.mem_cons.mp hx with rfl | hx
        · exact ⟨t, ht, hti, by rw [e]⟩
        · exact ih.push x hx
      · intro k h1 h2
        by_cases hk : k ≤ (bestT row z).1
        · refine ⟨_, List.mem_cons_self, t, ht, by rw [e], inS_iff.mpr ⟨?_, by rw [e]; exact hk⟩⟩
          have := (inS_iff.mp hti).1
          omega
        · obtain ⟨x, hx, r⟩ := ih.cov k (by omega) h2
          exact ⟨x, List.mem_cons_of_mem _ hx, r⟩
      · intro u hu x hx y hy h1 h2
        rcases List.mem_cons.mp hx with rfl | hx
        · rcases List.mem_cons.mp hy with rfl | hy
          · rfl
          · exact (cross u hu y hy h1 h2).elim
        · rcases List.mem_cons.mp hy with rfl | hy
          · exact (cross u hu x hx h2 h1).elim
          · exact ih.ind u hu x hx y hy h1 h2
    · rw [if_neg hz]
      exact ⟨List.Pairwise.nil, fun x hx => (by cases hx), fun x hx => (by cases hx), fun k h1 h2 => (by omega), fun t ht x hx => (by cases hx)⟩
theorem fewL_ok (row : List (Int × Int)) : Few row 0 (fewL row) := fewF_ok row _ 0 (Int.le_refl _) (by omega)
theorem few_lens (row : List (Int × Int)) : (fewP row).length = (fewZ row).length := by
  unfold fewP fewZ
  rw [List.length_map, List.length_map]
theorem fewL_len (row : List (Int × Int)) : (fewL row).length ≤ row.length := fewF_len row _ _
/-- each of these in one of those, no two in the same: no more of these -/
theorem pigeon {α : Type} (In : α → Int → Bool) : ∀ (cs : List α) (zs : List Int), zs.Nodup → (∀ z ∈ zs, ∃ c ∈ cs, In c z = true) → (∀ c ∈ cs, ∀ x ∈ zs, ∀ y ∈ zs, In c x = true → In c y = true → x = y) → zs.length ≤ cs.length
  | [], zs, hn, hc, hi => by
    cases zs with
    | nil => exact Nat.le_refl _
    | cons z r =>
      obtain ⟨c, h, _⟩ := hc z List.mem_cons_self
      cases h
  | c :: cs, zs, hn, hc, hi => by
    have ih := pigeon In cs (zs.filter fun z => !In c z) (hn.filter _) (fun z hz => by
      obtain ⟨h1, h2⟩ := List.mem_filter.mp hz
      obtain ⟨d, hd, hd2⟩ := hc z h1
      rcases List.mem_cons.mp hd with rfl | hd
      · rw [hd2] at h2
        cases h2
      · exact ⟨d, hd, hd2⟩) fun d hd x hx y hy => hi d (List.mem_cons_of_mem _ hd) x (List.mem_filter.mp hx).1 y (List.mem_filter.mp hy).1
    have h1 : (zs.filter fun z => In c z).length ≤ 1 := by
      have hnd := hn.filter fun z => In c z
      cases e : zs.filter fun z => In c z with
      | nil => simp
      | cons a r =>
        cases r with
        | nil => simp
        | cons b r =>
          rw [e] at hnd
          have ha : a ∈ zs.filter fun z => In c z := by rw [e]; exact List.mem_cons_self
          have hb : b ∈ zs.filter fun z => In c z := by rw [e]; exact List.mem_cons_of_mem _ List.mem_cons_self
          obtain ⟨a1, a2⟩ := List.mem_filter.mp ha
          obtain ⟨b1, b2⟩ := List.mem_filter.mp hb
          have := hi c List.mem_cons_self a a1 b b1 a2 b2
          subst this
          exact absurd List.mem_cons_self (List.nodup_cons.mp hnd).1
    have h2 : zs.length = (zs.filter fun z => In c z).length + (zs.filter fun z => !In c z).length := by
      clear ih h1 hn hc hi
      induction zs with
      | nil => rfl
      | cons z r ih =>
        rw [List.filter_cons, List.filter_cons, List.length_cons, ih]
        cases In c z <;> simp <;> omega
    rw [List.length_cons]
    omega
theorem rise_nodup {xs : List Int} (h : xs.Pairwise (· < ·)) : xs.Nodup := h.imp fun h => by omega
/-- no more than any spans that cover all -/
theorem few_least {row : List (Int × Int)} {cs : List Span} (h1 : ∀ c ∈ cs, c ∈ spansL row) (h2 : ∀ k : Int, 0 ≤ k → k < row.length → ∃ c ∈ cs, inS c k = true) : (fewL row).length ≤ cs.length := by
  have F := fewL_ok row
  have := pigeon inS cs ((fewL row).map fun x => x.2) (rise_nodup F.rise) (fun z hz => by
    obtain ⟨x, hx, rfl⟩ := List.mem_map.mp hz
    obtain ⟨r1, r2⟩ := F.rng x hx
    exact h2 _ r1 r2) fun c hc x hx y hy e1 e2 => by
      obtain ⟨x', hx', rfl⟩ := List.mem_map.mp hx
      obtain ⟨y', hy', rfl⟩ := List.mem_map.mp hy
      exact F.ind c (h1 c hc) x' hx' y' hy' e1 e2
  rwa [List.length_map] at this

/-! ### pushes to the right alone -/
def rtsF (row : List (Int × Int)) : Nat → Int → List Int
  | 0, _ => []
  | f + 1, z => if z < row.length then z :: rtsF row f (lastI row 1 z.toNat + 1) else []
def rts (row : List (Int × Int)) : List Int := rtsF row row.length 0
theorem rtsF_len (row : List (Int × Int)) : ∀ f z, (rtsF row f z).length ≤ f
  | 0, z => Nat.le_refl _
  | f + 1, z => by
    unfold rtsF
    split
    · rw [List.length_cons]
      have := rtsF_len row f (lastI row 1 z.toNat + 1)
      omega
    · simp
/-- no stone ahead reaches it -/
def Free (row : List (Int × Int)) (z : Int) : Prop := ∀ j : Nat, (j : Int) < z → plc row j + hgt row j < plc row z
structure RtOK (row : List (Int × Int)) (zs : List Int) : Prop where
  rise : zs.Pairwise (· < ·)
  rng : ∀ z ∈ zs, 0 ≤ z ∧ z < row.length
  free : ∀ z ∈ zs, Free row z
  cov : ∀ k : Int, 0 ≤ k → k < row.length → ∃ z ∈ zs, z ≤ k ∧ k ≤ lastI row 1 z.toNat
theorem rtsF_ok {row : List (Int × Int)} (ok : Okr row) : ∀ (f : Nat) (z : Int), 0 ≤ z → (row.length : Int) ≤ z + f → (z < row.length → Free row z) →
    (rtsF row f z).Pairwise (· < ·) ∧ (∀ x ∈ rtsF row f z, z ≤ x ∧ x < row.length) ∧ (∀ x ∈ rtsF row f z, Free row x) ∧ ∀ k : Int, z ≤ k → k < row.length → ∃ x ∈ rtsF row f z, x ≤ k ∧ k ≤ lastI row 1 x.toNat
  | 0, z, h0, hf, hz => ⟨by simp [rtsF], fun x hx => by simp [rtsF] at hx, fun x hx => by simp [rtsF] at hx, fun k h1 h2 => by omega⟩
  | f + 1, z, h0, hf, hfree => by
    unfold rtsF
    by_cases hz : z < row.length
    · rw [if_pos hz]
      have hl := last_rng (row := row) (i := z.toNat) (by omega) (.inl rfl)
      have hg := last_ge (row := row) (i := z.toNat)
      have ih := rtsF_ok ok f (lastI row 1 z.toNat + 1) (by omega) (by omega) fun hn => by
        intro j hj
        have c := fell_chn row 1 z.toNat
        have hK : lastI row 1 z.toNat = (z.toNat : Int) + 1 * ((fell row 1 z.toNat).1 : Nat) := rfl
        have hlt : (fell row 1 z.toNat).1 < ah row 1 z.toNat := by
          rw [ah_one]
          omega
        have e : plc row (lastI row 1 z.toNat + 1) = (qf row 1 z.toNat ((fell row 1 z.toNat).1 + 1)).1 := by
          show _ = 1 * plc row _
          rw [Int.one_mul, hK]
          congr 1 <;> omega
        by_cases hjz : (j : Int) < z
        · have h1 := hfree hz j hjz
          have h2 : plc row z < plc row (lastI row 1 z.toNat + 1) := by
            have := ok.inc z.toNat (lastI row 1 z.toNat + 1).toNat (by omega) (by omega)
            have e1 : ((z.toNat : Nat) : Int) = z := by omega
            have e2 : (((lastI row 1 z.toNat + 1).toNat : Nat) : Int) = lastI row 1 z.toNat + 1 := by omega
            rw [e1, e2] at this
            exact this
          omega
        · have h1 := c.stop hlt (j - z.toNat) (by omega)
          rw [← e] at h1
          have e3 : (z.toNat : Int) + 1 * ((j - z.toNat : Nat) : Int) = j := by omega
          have e4 : (qf row 1 z.toNat (j - z.toNat)).1 + (qf row 1 z.toNat (j - z.toNat)).2 = plc row j + hgt row j := by
            show 1 * plc row _ + hgt row _ = _
            rw [e3]
            omega
          omega
      obtain ⟨i1, i2, i3, i4⟩ := ih
      refine ⟨?_, ?_, ?_, ?_⟩
      · rw [List.pairwise_cons]
        exact ⟨fun a ha => by have := (i2 a ha).1; omega, i1⟩
      · intro x hx
        rcases List.mem_cons.mp hx with rfl | hx
        · exact ⟨Int.le_refl _, hz⟩
        · have := i2 x hx
          omega
      · intro x hx
        rcases List.mem_cons.mp hx with rfl | hx
        · exact hfree hz
        · exact i3 x hx
      · intro k h1 h2
        by_cases hk : k ≤ lastI row 1 z.toNat
        · exact ⟨z, List.mem_cons_self, h1, hk⟩
        · obtain ⟨x, hx, r⟩ := i4 k (by omega) h2
          exact ⟨x, List.mem_cons_of_mem _ hx, r⟩
    · rw [if_neg hz]
      exact ⟨List.Pairwise.nil, fun x hx => (by cases hx), fun x hx => (by cases hx), fun k h1 h2 => (by omega)⟩
theorem rts_ok {row : List (Int × Int)} (ok : Okr row) : RtOK row (rts row) := by
  obtain ⟨h1, h2, h3, h4⟩ := rtsF_ok ok row.length 0 (Int.le_refl _) (by omega) fun _ j hj => by omega
  exact ⟨h1, h2, h3, h4⟩
theorem few_rts {row : List (Int × Int)} (ok : Okr row) : (fewP row).length ≤ (rts row).length := by
  have R := rts_ok ok
  unfold fewP
  rw [List.length_map]
  have := few_least (row := row) (cs := (rts row).map fun z => spanT row z.toNat 1) (fun c hc => by
    obtain ⟨z, hz, rfl⟩ := List.mem_map.mp hc
    have := R.rng z hz
    exact span_in.mpr ⟨z.toNat, 1, by omega, .inl rfl, rfl⟩) fun k h1 h2 => by
      obtain ⟨z, hz, h3, h4⟩ := R.cov k h1 h2
      have := R.rng z hz
      refine ⟨_, List.mem_map.mpr ⟨z, hz, rfl⟩, inS_iff.mpr ⟨?_, ?_⟩⟩
      · have := (mn_le (z.toNat : Int) (lastI row 1 z.toNat)).1
        show mn (z.toNat : Int) _ ≤ k
        omega
      · have := (mx_ge (z.toNat : Int) (lastI row 1 z.toNat)).2
        show k ≤ mx (z.toNat : Int) _
        omega
  rwa [List.length_map] at this
noncomputable def rightsB (row : List (Int × Int)) (zs : List Int) : Bool := @decide (RtOK row zs) (Classical.propDecidable _)
theorem rB_t {row : List (Int × Int)} {zs : List Int} (h : RtOK row zs) : rightsB row zs = true := by
  unfold rightsB
  exact @decide_eq_true _ (Classical.propDecidable _) h
theorem rB_f {row : List (Int × Int)} {zs : List Int} (h : ¬ RtOK row zs) : rightsB row zs = false := by
  unfold rightsB
  exact @decide_eq_false _ (Classical.propDecidable _) h
theorem rts_more {row : List (Int × Int)} {zs : List Int} (h : RtOK row zs) : rightsB row (zs ++ [(0 : Int)]) = false := by
  apply rB_f
  intro R
  cases zs with
  | nil =>
    have h1 := R.rng 0 (by simp)
    obtain ⟨z, hz, _⟩ := h.cov 0 (by omega) h1.2
    cases hz
  | cons a r =>
    have h1 := R.rise
    rw [List.cons_append, List.pairwise_cons] at h1
    have := h1.1 0 (by simp)
    have := (R.rng a (by simp)).1
    omega
end FR

/-! spans_of, fewest: what they compute. -/
namespace FR
open PySem L2 Evl
abbrev FxF (K : PySem.W.Frag) (C : CS) : Prop := Fx1 K C.Fewest ["pushes", "stones"]
def P_spans_of (ds es : List Da) : Prop := ∃ row, ds = [rowD row] ∧ row.length ≤ 1000 ∧ es = (spansL row).map spD
def P_fewest (C : CS) (ds : List Da) (A : Addr) (ns : List Str) (dss : List (List Da)) : Prop := ∃ row, ds = [rowD row] ∧ Okr row ∧ A = C.Fewest ∧ ns = (["pushes", "stones"] : List Str) ∧ dss = [rowL (fewP row), intL (fewZ row)]
abbrev sp_Fewest_init (K : PySem.W.Frag) (C : CS) : Sp := InL2 K C.Fewest "pushes" "stones"
abbrev sp_spans_of (K : PySem.W.Frag) (C : CS) : Sp := FnL K P_spans_of
abbrev sp_fewest (K : PySem.W.Frag) (C : CS) : Sp := FnO K (P_fewest C)
def t_Fewest_init (K : PySem.W.Frag) (C : CS) : TS :=
  (tSeq (sFld K (tVar 0) (tCB (rListS K) (tCons (tVar 1) tNil)) "pushes") (sFld K (tVar 0) (tCB (rListS K) (tCons (tVar 2) tNil)) "stones"))
def t_spans_of (K : PySem.W.Frag) (C : CS) : TS :=
  (tSeq (tAsg (tLst tNil) (gName 1)) (tSeq (tFor (iRng1 (tCons (tCB (rLenS K) (tCons (tVar 0) tNil)) tNil)) (gName 2) (tFor (iTup K (tTup (tCons (tC (.int 1)) (tCons (tUn (rU fun i => .int (-i)) (tC (.int 1))) tNil)))) (gName 3) (tSeq (tAsg (tOp (rIxT K) (tCall (sp_last_felled K C) [] E0 (tCons (tVar 0) (tCons (tVar 2) (tCons (tVar 3) tNil)))) (tC (.int 0))) (gName 4)) (tDrop (tBM K "list" rAppend (tVar 1) (tCons (tTup (tCons (tCB rMin2 (tCons (tVar 2) (tCons (tVar 4) tNil))) (tCons (tCB rMax2 (tCons (tVar 2) (tCons (tVar 4) tNil))) (tCons (tTup (tCons (tVar 2) (tCons (tVar 3) tNil))) tNil)))) tNil)))))) (tRet (tVar 1))))
def t_fewest (K : PySem.W.Frag) (C : CS) : TS :=
  (tSeq (tDrop (tCall (sp_check_row K C) [] E0 (tCons (tVar 0) tNil))) (tSeq (tAsg (tCall (sp_spans_of K C) [] E0 (tCons (tVar 0) tNil)) (gName 1)) (tSeq (tAsg (tLst tNil) (gName 2)) (tSeq (tAsg (tLst tNil) (gName 3)) (tSeq (tAsg (tC (.int 0)) (gName 4)) (tSeq (tWhile (tTest (tOp rLtI (tVar 4) (tCB (rLenS K) (tCons (tVar 0) tNil)))) (tSeq (tAsg (tCB (rMaxD K) (tCons (tLc (iList K (tVar 1)) (gTup K 3 (gCons (gName 7) (gCons (gName 8) (gCons (gName 6) gNil)))) (tTest (tChain rLeI rLeI (tVar 7) (tVar 4) (tVar 8))) (tTup (tCons (tVar 8) (tCons (tVar 6) tNil))) [7, 8, 6]) tNil)) (gTup K 2 (gCons (gName 5) (gCons (gName 6) gNil)))) (tSeq (tDrop (tBM K "list" rAppend (tVar 2) (tCons (tVar 6) tNil))) (tSeq (tDrop (tBM K "list" rAppend (tVar 3) (tCons (tVar 4) tNil))) (tAsg (tOp rAddI (tVar 5) (tC (.int 1))) (gName 4)))))) (tRet (tMake C.Fewest (sp_Fewest_init K C) [] E0 (tCons (tVar 2) (tCons (tVar 3) tNil))))))))))
section
variable {K : PySem.W.Frag} {C : CS}
theorem pure_Fewest_init (A : FxF K C) {vs : List V} {H : Hp} {Q : VK} {E : XK} (h : sp_Fewest_init K C vs H Q E) : t_Fewest_init K C { nx := fun _ H' => Q .non H', rt := Q } (start ["self", "pushes", "stones"] vs) H :=
  in_L2 rfl A.isi.cls (A.no _ List.mem_cons_self) (A.no _ (List.mem_cons_of_mem _ List.mem_cons_self)) (by decide) h
theorem len_Fewest_init {vs : List V} {H : Hp} {Q : VK} {E : XK} (h : sp_Fewest_init K C vs H Q E) : vs.length = 3 := by
  obtain ⟨x, dx, p, p', xs, ys, rfl, _⟩ := h
  rfl
theorem run_spans_of {ds es : List Da} (h : P_spans_of ds es) : Run K (t_spans_of K C) (ent ds 4) (retL es) := by
  obtain ⟨row, rfl, hn, rfl⟩ := h
  refine run_seq (run_asgN (ds := []) (en_lst ea_nil) ?_)
  refine run_seq (run_for (wk_rng1 (ev_lenR (ev_var rfl)) (by omega)) (fun k e => ∃ y2 y3 y4, e = [.im (rowD row), .mu ((spansK row k).map spD), y2, y3, y4]) ⟨.no, .no, .no, rfl⟩ ?_ ?_)
  · rintro k d e hd ⟨y2, y3, y4, rfl⟩
    have hk : k < ((row.length : Int) - 0).toNat := by
      have := (List.getElem?_eq_some_iff.mp hd).1
      rw [rngD_len] at this
      exact this
    rw [rngD_get hk] at hd
    obtain rfl : Da.int ((0 : Int) + (k : Nat)) = d := Option.some.inj hd
    rw [Int.zero_add]
    have hk' : k < row.length := by omega
    refine ⟨_, ts_name, ?_⟩
    refine run_for (ds := intL [1, -1]) (wk_tup (ev_tup (ea_cons ev_int (ea_cons (ev_neg ev_int) ea_nil)))) (fun m e => ∃ y3 y4, e = [.im (rowD row), .mu ((spansK row k ++ ([1, -1].take m).map (spanT row k)).map spD), .im (.int (k : Nat)), y3, y4]) ⟨y3, y4, by simp⟩ ?_ ?_
    · rintro m d e hd2 ⟨y3, y4, rfl⟩
      obtain ⟨s, hs, rfl⟩ := intL_get hd2
      have hsd : Sd s := by
        have := List.mem_of_getElem? hs
        simpa [Sd] using this
      have hm : m < 2 := (List.getElem?_eq_some_iff.mp hs).1
      refine ⟨_, ts_name, ?_⟩
      refine run_seq (run_asg (d := .int (lastI row s k)) (ev_pr0 (p := (lastI row s k, farI row s k)) (ev_call (ds := [rowD row, .int (k : Nat), .int s]) (ea_cons (ev_var rfl) (ea_cons (ev_var rfl) (ea_cons (ev_var rfl) ea_nil))) ⟨row, k, s, rfl, ⟨hk', hn, hsd⟩, rfl⟩)) ?_)
      refine run_app (d := spD (spanT row k s)) (ds := (spansK row k ++ ([1, -1].take m).map (spanT row k)).map spD) rfl (ev_tup (ea_cons (ev_min2 (ev_var rfl) (ev_var rfl)) (ea_cons (ev_max2 (ev_var rfl) (ev_var rfl)) (ea_cons (ev_tup (ea_cons (ev_var rfl) (ea_cons (ev_var rfl) ea_nil))) ea_nil)))) ?_ ⟨.im (.int s), .im (.int (lastI row s k)), ?_⟩
      · rw [List.length_map, List.length_append, spansK_len, List.length_map, List.length_take]
        have : min m ([1, -1] : List Int).length ≤ 2 := Nat.min_le_right _ _
        omega
      · rw [get_row hs, List.map_append, List.map_append, List.map_append]
        show _ = _
        simp
    · rintro e ⟨y3, y4, rfl⟩
      refine ⟨.im (.int (k : Nat)), y3, y4, ?_⟩
      rw [spansK_succ]
      rfl
  · rintro e ⟨y2, y3, y4, rfl⟩
    rw [rngD_len]
    exact run_retV (i := 1) rfl (by
      show _ = _
      unfold spansL
      congr 2)
theorem run_fewest {ds : List Da} {A : Addr} {ns : List Str} {dss : List (List Da)} (h : P_fewest C ds A ns dss) : Run K (t_fewest K C) (ent ds 8) (retO A ns dss) := by
  obtain ⟨row, rfl, ok, rfl, rfl, rfl⟩ := h
  have hn := ok.few
  have hsl : (spansL row).length ≤ 2000 := by
    unfold spansL
    rw [spansK_len]
    omega
  refine run_seq (run_drop (d := .non) (ev_call (ds := [rowD row]) (ea_cons (ev_var rfl) ea_nil) ⟨row, rfl, ok, rfl⟩) ?_)
  refine run_seq (run_asgN (ds := (spansL row).map spD) (en_call (ds := [rowD row]) (ea_cons (ev_var rfl) ea_nil) ⟨row, rfl, hn, rfl⟩) (run_fix (i := 1) rfl ?_))
  refine run_seq (run_asgN (ds := []) (en_lst ea_nil) ?_)
  refine run_seq (run_asgN (ds := []) (en_lst ea_nil) ?_)
  refine run_seq (run_asg (d := .int 0) ev_int ?_)
  refine run_seq (run_while (fun r e => ∃ z pre y5 y6, e = [.im (rowD row), .im (.lst ((spansL row).map spD)), .mu (rowL (pre.map fun q => q.1)), .mu (intL (pre.map fun q => q.2)), .im (.int z), y5, y6, .no, .no] ∧ 0 ≤ z ∧ (row.length : Int) ≤ z + r ∧ pre.length + r ≤ row.length ∧ pre ++ fewF row r z = fewL row) row.length ⟨0, [], .no, .no, rfl, Int.le_refl _, by omega, by simp, rfl⟩ ?_)
  rintro r e ⟨z, pre, y5, y6, rfl, h0, h1, h2, h3⟩
  refine ⟨decide (z < (row.length : Int)), eb_test (ev_lt (ev_var rfl) (ev_lenR (ev_var rfl))), fun hb => ?_, fun hb => ?_⟩
  · have hz := of_decide_eq_true hb
    obtain ⟨f, rfl⟩ : ∃ f, r = f + 1 := ⟨r - 1, by omega⟩
    obtain ⟨⟨t, ts, e1, e2⟩, _, _⟩ := best_ok h0 hz
    obtain ⟨e3, e4⟩ := best_end h0 hz
    have h4 : fewF row (f + 1) z = ((bestT row z).2, z) :: fewF row f ((bestT row z).1 + 1) := by
      show (if z < row.length then _ else _) = _
      rw [if_pos hz]
    refine run_seq (run_asgT (d := triD (bestT row z)) ?_ (ts_tup2 ts_name ts_name) ?_)
    · refine (ev_maxT (t := t) (ts := ts) (ev_new ((en_lc (us := [7, 8, 6]) spD (fun u => inS u z) (fun u => triD u.2) (spansL row) (wk_list (ev_var rfl)) (by simp) (by omega) fun u hu => ⟨_, tc_tup3 tc_name tc_name tc_name, eb_test (ev_chainI rfl rfl (ev_var rfl) (ev_var rfl) fun _ => ev_var rfl), fun _ => ev_tup (ea_cons (ev_var rfl) (ea_cons (ev_var rfl) ea_nil))⟩).is ?_))).is (by rw [e2])
      rw [← e1]
      unfold candL
      rw [List.map_map]
      rfl
    refine run_seq (run_app (i := 2) (d := prD (bestT row z).2) (ds := rowL (pre.map fun q => q.1)) rfl (ev_var rfl) (by rw [List.length_map, List.length_map]; omega) ?_)
    refine run_seq (run_app (i := 3) (d := .int z) (ds := intL (pre.map fun q => q.2)) rfl (ev_var rfl) (by rw [List.length_map, List.length_map]; omega) ?_)
    refine run_asg (d := .int ((bestT row z).1 + 1)) (ev_add (ev_var rfl) ev_int) ⟨f, by omega, (bestT row z).1 + 1, pre ++ [((bestT row z).2, z)], .im (.int (bestT row z).1), .im (prD (bestT row z).2), ?_, by omega, by omega, ?_, ?_⟩
    · have ea : rowL ((pre ++ [((bestT row z).2, z)]).map fun q => q.1) = rowL (pre.map fun q => q.1) ++ [prD (bestT row z).2] := by
        rw [List.map_append]
        exact rowL_snoc _ _
      have eb : intL ((pre ++ [((bestT row z).2, z)]).map fun q => q.2) = intL (pre.map fun q => q.2) ++ [Da.int z] := by
        rw [List.map_append]
        exact intL_snoc _ _
      rw [ea, eb]
      rfl
    · rw [List.length_append, List.length_singleton]
      omega
    · rw [← h3, h4, List.append_assoc]
      rfl
  · have hz := of_decide_eq_false hb
    have h4 : fewF row r z = [] := by
      cases r with
      | zero => rfl
      | succ f =>
        show (if z < row.length then _ else _) = _
        rw [if_neg hz]
    rw [h4, List.append_nil] at h3
    subst h3
    refine run_fix (i := 2) rfl (run_fix (i := 3) rfl ?_)
    exact run_retO (eo_mak2 (ev_var rfl) (ev_var rfl)) ⟨rfl, rfl, rfl⟩
theorem len_fewest {vs : List V} {H : Hp} {Q : VK} {E : XK} (h : sp_fewest K C vs H Q E) : vs.length = 1 := len_O (m := 1) (fun ds A ns dss ⟨_, e, _⟩ => by rw [e]; rfl) h
theorem pure_fewest {vs : List V} {H : Hp} {Q : VK} {E : XK} (h : sp_fewest K C vs H Q E) : t_fewest K C { nx := fun _ H' => Q .non H', rt := Q } (start ["row", "spans", "pushes", "stones", "stone", "end", "push", "first", "last"] vs) H :=
  fnO_of 8 (fun ds A ns dss ⟨_, e, _⟩ => by rw [e]; rfl) (fun ds A ns dss p => run_fewest p) h
end
section
variable {K : PySem.W.Frag} {C : CS} {vs : List V} {H : Hp} {Q : VK} {E : XK}
theorem lenP_spans_of {ds es : List Da} (h : P_spans_of ds es) : ds.length = 1 := by
  unfold P_spans_of at h
  repeat (rcases h with ⟨z, h⟩; first | (subst z; rfl) | skip)
theorem len_spans_of (h : sp_spans_of K C vs H Q E) : vs.length = 1 := len_L (m := 1) (fun _ _ p => lenP_spans_of p) h
theorem pure_spans_of (h : sp_spans_of K C vs H Q E) : t_spans_of K C { nx := fun _ H' => Q .non H', rt := Q } (start ["row", "found", "stone", "side", "last"] vs) H := fnL_of 4 (fun _ _ p => by rw [lenP_spans_of p] <;> rfl) (fun _ _ p => run_spans_of p) h
end
end FR

/-! The fourth law's own defs. -/
namespace FR
open PySem L2 Evl

/-! ### cuts -/
theorem cutD_to {α : Type} (f : α → Da) (xs : List α) {z : Int} (h : 0 ≤ z) : cutD (xs.map f) none (some z) = (xs.take z.toNat).map f := by
  obtain ⟨j, rfl⟩ : ∃ j : Nat, z = j := ⟨z.toNat, by omega⟩
  unfold cutD
  rw [HT.sIx_none, HT.sIx_nat, List.drop_zero, Nat.sub_zero, List.length_map, ← List.map_take, Int.toNat_natCast]
  congr 1
  by_cases hj : j ≤ xs.length
  · rw [Nat.min_eq_left hj]
  · rw [Nat.min_eq_right (by omega), List.take_of_length_le (Nat.le_refl _), List.take_of_length_le (by omega)]
theorem cutD_fr {α : Type} (f : α → Da) (xs : List α) {z : Int} (h : 0 ≤ z) : cutD (xs.map f) (some z) none = (xs.drop z.toNat).map f := by
  obtain ⟨j, rfl⟩ : ∃ j : Nat, z = j := ⟨z.toNat, by omega⟩
  unfold cutD
  rw [HT.sIx_none, HT.sIx_nat, List.length_map, ← List.map_drop, ← List.map_take, Int.toNat_natCast]
  congr 1
  by_cases hj : j ≤ xs.length
  · rw [Nat.min_eq_left hj, List.take_of_length_le (by rw [List.length_drop]; omega)]
  · have e1 : xs.drop j = [] := List.drop_of_length_le (by omega)
    have e2 : xs.drop xs.length = [] := List.drop_of_length_le (Nat.le_refl _)
    rw [Nat.min_eq_right (by omega), e1, e2]
    simp
theorem cutD_mid {α : Type} (f : α → Da) (xs : List α) {z : Int} (h : 0 ≤ z) : ∃ ys : List α, ys.length ≤ xs.length ∧ cutD (xs.map f) (some z) (some (z + 1)) = ys.map f := by
  refine ⟨(xs.drop (HT.sIx xs.length 0 (some z))).take (HT.sIx xs.length xs.length (some (z + 1)) - HT.sIx xs.length 0 (some z)), ?_, ?_⟩
  · rw [List.length_take, List.length_drop]
    omega
  · unfold cutD
    rw [List.length_map, List.map_take, List.map_drop]
theorem cutD_last {α : Type} (f : α → Da) (xs : List α) : cutD (xs.map f) none (some (-1)) = xs.dropLast.map f := by
  unfold cutD
  have e : HT.sIx (xs.map f).length (xs.map f).length (some (-1)) = xs.length - 1 := by
    rw [List.length_map]
    show (if (-1 : Int) < 0 then ((-1 : Int) + (xs.length : Int)).toNat else min (-1 : Int).toNat xs.length) = _
    rw [if_pos (by decide)]
    omega
  rw [HT.sIx_none, e, List.drop_zero, Nat.sub_zero, ← List.map_take, List.dropLast_eq_take]

/-! ### a walk over new lists of ints, made from what is one's own -/
def NwL (H1 H2 : Hp) : List (List Int) → List Addr → Prop
  | [], ls => ls = []
  | zs :: r, ls => ∃ l u, ls = l :: u ∧ H1 l = none ∧ H2 l = some (.lst (zs.map V.int)) ∧ NwL H1 H2 r u
theorem NwL.new {H1 H2 : Hp} : ∀ {zss : List (List Int)} {ls : List Addr}, NwL H1 H2 zss ls → ∀ l ∈ ls, H1 l = none
  | [], ls, h, l, hl => by
    have : ls = [] := h
    subst this
    cases hl
  | zs :: r, ls, h, l, hl => by
    obtain ⟨a, u, rfl, h1, _, h3⟩ := h
    rcases List.mem_cons.mp hl with rfl | hl
    · exact h1
    · exact h3.new l hl
theorem NwL.back {H0 H1 H2 : Hp} (e : Ex H0 H1) : ∀ {zss : List (List Int)} {ls : List Addr}, NwL H1 H2 zss ls → NwL H0 H2 zss ls
  | [], ls, h => h
  | zs :: r, ls, h => by
    obtain ⟨a, u, rfl, h1, h2, h3⟩ := h
    exact ⟨a, u, rfl, fresh_back e h1, h2, h3.back e⟩
theorem NwL.len {H1 H2 : Hp} : ∀ {zss : List (List Int)} {ls : List Addr}, NwL H1 H2 zss ls → ls.length = zss.length
  | [], ls, h => by
    have : ls = [] := h
    subst this
    rfl
  | zs :: r, ls, h => by
    obtain ⟨a, u, rfl, h1, h2, h3⟩ := h
    rw [List.length_cons, List.length_cons, h3.len]
theorem NwL.get {H1 H2 : Hp} : ∀ {zss : List (List Int)} {ls : List Addr} {i : Nat} {l : Addr}, NwL H1 H2 zss ls → ls[i]? = some l → ∃ zs, zss[i]? = some zs ∧ H2 l = some (.lst (zs.map V.int))
  | [], ls, i, l, h, hl => by
    have : ls = [] := h
    subst this
    simp at hl
  | zs :: r, ls, 0, l, h, hl => by
    obtain ⟨a, u, rfl, h1, h2, h3⟩ := h
    have : a = l := by simpa using hl
    subst this
    exact ⟨zs, rfl, h2⟩
  | zs :: r, ls, i + 1, l, h, hl => by
    obtain ⟨a, u, rfl, h1, h2, h3⟩ := h
    obtain ⟨y, e1, e2⟩ := h3.get (i := i) (by simpa using hl)
    exact ⟨y, by simpa using e1, e2⟩
def EaN (K : PySem.W.Frag) (t : TA) (env : En) (zss : List (List Int)) : Prop := ∀ σ B, SD K B σ env → ∀ H1, Ex B H1 → ∀ Q : List V → Hp → Prop, (∀ ls B' H2, Gr B H1 B' H2 → NwL H1 H2 zss ls → Q (ls.map V.ref) H2) → t σ H1 Q
section
variable {K : PySem.W.Frag} {env : En} {E : Ed} {te ta tb tc : TE} {t : TA} {ds es : List Da} {zs : List Int} {zss : List (List Int)}
theorem ean_nil : EaN K tNil env [] := fun σ B s H1 e Q q => q [] B H1 (Gr.refl e) rfl
theorem ean_cons (h : EvN K te env (intL zs)) (h' : EaN K t env zss) : EaN K (tCons te t) env (zs :: zss) := fun σ B s H1 e Q q =>
  h σ B s H1 e _ fun p xs B2 H2 g h1 h2 h3 r => h' σ B2 (s.mono g.b) H2 g.h _ fun ls B3 H3 g3 nw => by
    have z := rp_ints r
    subst z
    exact q (p :: ls) B3 H3 (g.trans g3) ⟨p, ls, rfl, h1, g3.k _ _ h3, nw.back g.k⟩
theorem run_forS {wi : TI} {g : TG} {tb : TS} (hw : ∀ B0 H0 B H σ, Sta K B0 H0 B H σ env → ∀ R : It → Hp → Prop, (∀ J B' H2 G Y, Gr B H B' H2 → Walk J ds.length G Y → (∀ H, Ex B' H → G H) → (∀ i H x H' Bi, Ex B' Bi → Ex Bi H → Y i H x H' → ∃ d B2, ds[i]? = some d ∧ Gr Bi H B2 H' ∧ Rp K B2 d x) → R J H2) → wi σ H R) (I : Nat → En → Prop) (h0 : I 0 env)
    (hs : ∀ n d e, ds[n]? = some d → I n e → ∃ e', TgS K g d e e' ∧ Run K tb e' { E with nx := I (n + 1), ct := I (n + 1), bk := E.nx }) (hd : ∀ e, I ds.length e → E.nx e) : Run K (tFor wi g tb) env E := fun B0 H0 B H σ D Bs eb s k =>
  hw B0 H0 B H σ s _ fun J B' H2 G Y g0 w hG hY => by
    refine for_it w (fun n σ' H' => ∃ e Bi, I n e ∧ Sta K B0 H0 Bi H' σ' e ∧ Ex B' Bi) ⟨env, B', h0, s.up g0, Ex.refl _⟩ (fun n σ' H' _ ⟨e, Bi, _, s', eb'⟩ => hG H' (eb'.trans s'.eH)) ?_ ?_
    · rintro n x σ' H' H3 hn ⟨e, Bi, hi, s', eb'⟩ y
      obtain ⟨d, B3, hd', gy, rd⟩ := hY n H' x H3 Bi eb' s'.eH y
      obtain ⟨e', tg, rb⟩ := hs n d e hd' hi
      refine tg B0 H0 B3 H3 σ' x (s'.up gy) rd _ fun σ2 s2 => ?_
      exact rb B0 H0 B3 H3 σ2 _ B' (eb'.trans gy.b) s2 ⟨fun σ4 B4 H4 e4 s4 eb4 q => ⟨e4, B4, q, s4, eb4⟩, fun σ4 B4 H4 e4 s4 eb4 q => k.nx σ4 B4 H4 e4 s4 ((eb.trans g0.b).trans eb4) q, fun σ4 B4 H4 e4 s4 eb4 q => ⟨e4, B4, q, s4, eb4⟩, k.rd, k.rl, k.ro⟩
    · rintro σ' H' ⟨e, Bi, hi, s', eb'⟩
      exact k.nx σ' Bi H' e s' ((eb.trans g0.b).trans eb') (hd e hi)
theorem run_forL {g : TG} {tb : TS} (h : EaN K t (frz env) zss) (hl : zss.length ≤ 1000) (I : Nat → En → Prop) (h0 : I 0 env)
    (hs : ∀ n d e, (zss.map intsD)[n]? = some d → I n e → ∃ e', TgS K g d e e' ∧ Run K tb e' { E with nx := I (n + 1), ct := I (n + 1), bk := E.nx }) (hd : ∀ e, I (zss.map intsD).length e → E.nx e) : Run K (tFor (iList K (tLst t)) g tb) env E := by
  refine run_forS (ds := zss.map intsD) (fun B0 H0 B H σ s R q => ?_) I h0 hs hd
  refine h σ H s.frz H (Ex.refl _) _ fun ls B' H' g nw => ?_
  refine ⟨sz_of (by rw [List.length_map, nw.len]; omega), fun p hp => ?_⟩
  have hB : ∀ x ∈ p :: ls, H x = none := fun x hx => by
    rcases List.mem_cons.mp hx with rfl | hx
    · exact fresh_back g.k hp
    · exact nw.new x hx
  have hk : Ex H (upd H' p (.lst (ls.map V.ref))) := g.k.trans (Ex.new hp)
  have hnp : ∀ l ∈ ls, l ≠ p := fun l hl z => by
    obtain ⟨i, hi⟩ := List.getElem?_of_mem hl
    obtain ⟨zs, _, e⟩ := nw.get hi
    rw [z, hp] at e
    cases e
  have gr : Gr B H (vis B (upd H' p (.lst (ls.map V.ref))) (p :: ls)) (upd H' p (.lst (ls.map V.ref))) :=
    ⟨vis_ex fun x hx => fresh_back s.eH (hB x hx), vis_le (s.eH.trans hk), hk, fun a ha => vis_out fun z => ha (hB a z)⟩
  have w : Walk (Itl K p) (ls.map V.ref).length (fun H => SqL K H p (ls.map V.ref)) (YAt (ls.map V.ref)) := walk_list
  have hlen : (ls.map V.ref).length = (zss.map intsD).length := by rw [List.length_map, List.length_map, nw.len]
  rw [hlen] at w
  have hvp : vis B (upd H' p (.lst (ls.map V.ref))) (p :: ls) p = some (.lst (ls.map V.ref)) := by rw [vis_in List.mem_cons_self, upd_same]
  refine ⟨p, rfl, ⟨_, sq_of upd_same⟩, q _ _ _ _ _ gr w (fun H2 e2 => sq_of (e2 _ _ hvp)) fun i H2 x H3 Bi eb eh y => ?_⟩
  obtain ⟨rfl, hx⟩ := y
  rw [List.getElem?_map] at hx
  cases hi : ls[i]? with
  | none =>
    rw [hi] at hx
    cases hx
  | some l =>
    rw [hi] at hx
    obtain rfl : V.ref l = x := Option.some.inj hx
    obtain ⟨zs, e1, e2⟩ := nw.get hi
    have hm : l ∈ ls := List.mem_of_getElem? hi
    refine ⟨intsD zs, Bi, by rw [List.getElem?_map, e1]; rfl, Gr.refl eh, ?_⟩
    simp only [intsD, Rp]
    exact ⟨l, zs.map V.int, rfl, eb _ _ (by rw [vis_in (List.mem_cons_of_mem _ hm), upd_ne (hnp l hm)]; exact e2), ints_rp zs⟩
end

/-! ### the mathematics of the two looks -/
structure ShI (row : List (Int × Int)) (ps : List Int) (la fl : Int) : Prop where
  rise : ps.Pairwise (· < ·)
  rng : ∀ z ∈ ps, 0 ≤ z ∧ z < row.length
  free : ∀ z ∈ ps, Free row z
  la0 : -1 ≤ la
  top : ∀ z ∈ ps, z ≤ la
  lam : la = -1 ∨ la ∈ ps
  fl0 : la ≤ fl
  fl1 : fl ≤ (row.length : Int) - 1
  le : ∀ z ∈ ps, lastI row 1 z.toNat ≤ fl
  cov : ∀ k : Int, 0 ≤ k → k ≤ fl → ∃ z ∈ ps, z ≤ k ∧ k ≤ lastI row 1 z.toNat
theorem ShI.nil (row : List (Int × Int)) : ShI row [] (-1) (-1) :=
  ⟨List.Pairwise.nil, fun z h => (by cases h), fun z h => (by cases h), by omega, fun z h => (by cases h), .inl rfl, by omega, by omega, fun z h => (by cases h), fun k h1 h2 => (by omega)⟩
theorem ShI.bad {row : List (Int × Int)} {ps r : List Int} {la fl z : Int} (h : ShI row ps la fl) (hb : ¬ la < z ∨ ¬ z < row.length ∨ z > fl + 1) : ¬ RtOK row (ps ++ z :: r) := by
  intro R
  have hz := R.rng z (by simp)
  obtain ⟨h1, h2, h3⟩ := List.pairwise_append.mp R.rise
  rcases hb with hb | hb | hb
  · rcases h.lam with e | e
    · omega
    · exact hb (h3 la e z (by simp))
  · exact hb hz.2
  · have := h.la0
    have := h.fl0
    obtain ⟨y, hy, e1, e2⟩ := R.cov (fl + 1) (by omega) (by omega)
    rcases List.mem_append.mp hy with hy | hy
    · have := h.le y hy
      omega
    · rcases List.mem_cons.mp hy with rfl | hy
      · omega
      · have := (List.pairwise_cons.mp h2).1 y hy
        omega
theorem ShI.step {row : List (Int × Int)} {ps : List Int} {la fl z : Int} (h : ShI row ps la fl) (h1 : la < z) (h2 : z < row.length) (h3 : ¬ z > fl + 1) (hf : Free row z) : ShI row (ps ++ [z]) z (mx fl (lastI row 1 z.toNat)) := by
  have a0 := h.la0
  have hl := last_rng (row := row) (i := z.toNat) (by omega) (.inl rfl)
  have hg := last_ge (row := row) (i := z.toNat)
  have hm := mx_ge fl (lastI row 1 z.toNat)
  have f1 := h.fl1
  refine ⟨?_, ?_, ?_, by omega, ?_, .inr (by simp), by omega, ?_, ?_, ?_⟩
  · rw [List.pairwise_append]
    refine ⟨h.rise, List.pairwise_singleton _ _, fun a ha b hb => ?_⟩
    have := h.top a ha
    rw [List.mem_singleton.mp hb]
    omega
  · intro y hy
    rcases List.mem_append.mp hy with hy | hy
    · exact h.rng y hy
    · rw [List.mem_singleton.mp hy]
      omega
  · intro y hy
    rcases List.mem_append.mp hy with hy | hy
    · exact h.free y hy
    · rw [List.mem_singleton.mp hy]
      exact hf
  · intro y hy
    rcases List.mem_append.mp hy with hy | hy
    · have := h.top y hy
      omega
    · rw [List.mem_singleton.mp hy]
      omega
  · rcases mx_or fl (lastI row 1 z.toNat) with e | e <;> rw [e] <;> omega
  · intro y hy
    rcases List.mem_append.mp hy with hy | hy
    · have := h.le y hy
      omega
    · rw [List.mem_singleton.mp hy]
      omega
  · intro k k0 k1
    by_cases hk : k ≤ fl
    · obtain ⟨y, hy, r⟩ := h.cov k k0 hk
      exact ⟨y, List.mem_append_left _ hy, r⟩
    · refine ⟨z, by simp, by omega, ?_⟩
      rcases mx_or fl (lastI row 1 z.toNat) with e | e <;> rw [e] at k1 <;> omega
theorem ShI.fin {row : List (Int × Int)} {zs : List Int} {la fl : Int} (h : ShI row zs la fl) : rightsB row zs = decide (fl = (row.length : Int) - 1) := by
  have := h.fl1
  have := h.la0
  have := h.fl0
  by_cases e : fl = (row.length : Int) - 1
  · rw [decide_eq_true e]
    exact rB_t ⟨h.rise, h.rng, h.free, fun k k0 k1 => h.cov k k0 (by omega)⟩
  · rw [decide_eq_false e]
    apply rB_f
    intro R
    obtain ⟨y, hy, e1, e2⟩ := R.cov (fl + 1) (by omega) (by omega)
    have := h.le y hy
    omega
theorem free_iff {row : List (Int × Int)} {z : Int} (h0 : 0 ≤ z) (h1 : z < row.length) : Free row z ↔ ∀ q ∈ row.take z.toNat, q.1 + q.2 < plc row z := by
  constructor
  · intro h q hq
    obtain ⟨j, hj, e⟩ := List.mem_iff_getElem.mp hq
    rw [List.length_take] at hj
    have e2 : row[j]? = some q := by
      rw [← e, List.getElem_take]
      exact List.getElem?_eq_getElem _
    rw [plc_get e2]
    exact h j (by omega)
  · intro h j hj
    have hj' : j < row.length := by omega
    have e2 : row[j]? = some row[j] := List.getElem?_eq_getElem hj'
    have := h row[j] (List.mem_iff_getElem.mpr ⟨j, by rw [List.length_take]; omega, List.getElem_take⟩)
    rw [plc_get e2] at this
    exact this
def sortI (zs : List Int) : List Int := zs.mergeSort (fun a b => decide (a ≤ b))
theorem sortI_perm (zs : List Int) : (sortI zs).Perm zs := List.mergeSort_perm _ _
theorem sortI_sorted (zs : List Int) : (sortI zs).Pairwise (· ≤ ·) := by
  have := List.pairwise_mergeSort (le := fun a b : Int => decide (a ≤ b)) (fun a b c h1 h2 => by simp at *; omega) (fun a b => by simp; omega) zs
  exact this.imp fun h => by simpa using h
theorem sortI_uniq {zs ns : List Int} (hn : zs.Nodup) (hp : ns.Perm zs) (hs : ns.Pairwise (· ≤ ·)) : ns = sortI zs :=
  rise_uniq (rise_of hs (hp.nodup_iff.mpr hn)) (rise_of (sortI_sorted zs) ((sortI_perm zs).nodup_iff.mpr hn)) fun a => by rw [hp.mem_iff, (sortI_perm zs).mem_iff]
theorem sortI_rise {zs : List Int} (hn : zs.Nodup) (h : zs = sortI zs) : zs.Pairwise (· < ·) := by
  refine rise_of ?_ hn
  rw [h]
  exact sortI_sorted zs
theorem rise_sortI {zs : List Int} (h : zs.Pairwise (· < ·)) : zs = sortI zs := sortI_uniq (rise_nodup h) (List.Perm.refl _) (h.imp fun h => by omega)
def covB (row : List (Int × Int)) (ps : List Int) (j : Nat) : Bool := ps.any fun z => decide (z ≤ j) && decide ((j : Int) ≤ lastI row 1 z.toNat)
def metK (row : List (Int × Int)) (ps : List Int) (z m : Int) : List Bool := (List.range row.length).map fun j => covB row ps j || (decide (z ≤ j) && decide ((j : Int) < z + m))
def metL (row : List (Int × Int)) (ps : List Int) : List Bool := (List.range row.length).map fun j => covB row ps j
theorem metK_zero (row : List (Int × Int)) (ps : List Int) (z : Int) : metK row ps z ((0 : Nat) : Int) = metL row ps := by
  unfold metK metL
  apply List.map_congr_left
  intro j _
  have : (decide (z ≤ (j : Int)) && decide ((j : Int) < z + ((0 : Nat) : Int))) = false := by
    rw [Bool.and_eq_false_iff, decide_eq_false_iff_not, decide_eq_false_iff_not]
    omega
  rw [this, Bool.or_false]
theorem metK_end {row : List (Int × Int)} {ps : List Int} {z : Int} (h0 : 0 ≤ z) : metK row ps z ((lastI row 1 z.toNat + 1 - z).toNat : Nat) = metL row (ps ++ [z]) := by
  have hg := last_ge (row := row) (i := z.toNat)
  unfold metK metL
  apply List.map_congr_left
  intro j _
  unfold covB
  rw [List.any_append]
  congr 1
  show _ = (decide (z ≤ (j : Int)) && decide ((j : Int) ≤ lastI row 1 z.toNat) || false)
  rw [Bool.or_false]
  congr 1
  apply decide_eq_decide.mpr
  omega
theorem metK_set {row : List (Int × Int)} {ps : List Int} {z : Int} {m : Nat} (h0 : 0 ≤ z) (h : z + m < row.length) : (metK row ps z (m : Nat)).set (z + m).toNat true = metK row ps z ((m + 1 : Nat) : Int) := by
  unfold metK
  apply List.ext_getElem?
  intro j
  rw [List.getElem?_set]
  by_cases hj : j < row.length
  · rw [List.getElem?_map, List.getElem?_map, List.getElem?_range hj]
    show (if _ then _ else some _) = some _
    by_cases e : (z + (m : Nat)).toNat = j
    · have e1 : (decide (z ≤ (j : Int)) && decide ((j : Int) < z + ((m + 1 : Nat) : Int))) = true := by
        rw [Bool.and_eq_true, decide_eq_true_eq, decide_eq_true_eq]
        omega
      rw [if_pos e, if_pos (by rw [List.length_map, List.length_range]; omega)]
      show some true = some (covB row ps j || (decide (z ≤ (j : Int)) && decide ((j : Int) < z + ((m + 1 : Nat) : Int))))
      rw [e1, Bool.or_true]
    · rw [if_neg e]
      show some (covB row ps j || (decide (z ≤ (j : Int)) && decide ((j : Int) < z + (m : Int)))) = some (covB row ps j || (decide (z ≤ (j : Int)) && decide ((j : Int) < z + ((m + 1 : Nat) : Int))))
      have e1 : decide ((j : Int) < z + (m : Int)) = decide ((j : Int) < z + ((m + 1 : Nat) : Int)) ∨ decide (z ≤ (j : Int)) = false := by
        by_cases hz : z ≤ (j : Int)
        · left
          apply decide_eq_decide.mpr
          omega
        · right
          exact decide_eq_false hz
      rcases e1 with e1 | e1 <;> rw [e1]
      rfl
  · have e1 : ((List.range row.length).map fun j => covB row ps j || (decide (z ≤ (j : Int)) && decide ((j : Int) < z + ((m + 1 : Nat) : Int))))[j]? = none := List.getElem?_eq_none (by rw [List.length_map, List.length_range]; omega)
    rw [e1, if_neg (by omega)]
    exact List.getElem?_eq_none (by rw [List.length_map, List.length_range]; omega)
theorem met_all {row : List (Int × Int)} {zs : List Int} (h1 : zs.Pairwise (· < ·)) (h2 : ∀ z ∈ zs, 0 ≤ z ∧ z < row.length) (h3 : ∀ z ∈ zs, Free row z) : (metL row zs).all id = rightsB row zs := by
  unfold metL
  rw [List.all_map]
  by_cases h : (List.range row.length).all (id ∘ fun j => covB row zs j) = true
  · rw [h]
    symm
    refine rB_t ⟨h1, h2, h3, fun k k0 k1 => ?_⟩
    have := List.all_eq_true.mp h k.toNat (List.mem_range.mpr (by omega))
    obtain ⟨z, hz, e⟩ := List.any_eq_true.mp (show covB row zs k.toNat = true from this)
    simp only [Bool.and_eq_true, decide_eq_true_eq] at e
    exact ⟨z, hz, by omega, by omega⟩
  · have h' : (List.range row.length).all (id ∘ fun j => covB row zs j) = false := by simpa using h
    rw [h']
    symm
    apply rB_f
    intro R
    apply h
    rw [List.all_eq_true]
    intro j hj
    have hj' := List.mem_range.mp hj
    obtain ⟨z, hz, e1, e2⟩ := R.cov j (by omega) (by omega)
    show covB row zs j = true
    exact List.any_eq_true.mpr ⟨z, hz, by simp only [Bool.and_eq_true, decide_eq_true_eq]; exact ⟨e1, e2⟩⟩
end FR

/-! The fewest pushes: what is looked at, and that it is so. -/
namespace FR
open PySem L2 Evl
theorem ev2_get {α : Type} : ∀ (xs : List α) (j : Nat), (ev2 xs)[j]? = xs[2 * j]?
  | [], j => by simp [ev2]
  | [a], 0 => by simp [ev2]
  | [a], j + 1 => by
    have e : 2 * (j + 1) = 2 * j + 1 + 1 := by omega
    rw [e]
    simp [ev2]
  | a :: b :: r, 0 => by simp [ev2]
  | a :: b :: r, j + 1 => by
    have e : 2 * (j + 1) = 2 * j + 1 + 1 := by omega
    rw [e]
    simp only [ev2, List.getElem?_cons_succ]
    exact ev2_get r j
theorem ev2_plc (row : List (Int × Int)) (j : Nat) : plc (ev2 row) j = plc row ((2 * j : Nat) : Int) ∧ hgt (ev2 row) j = hgt row ((2 * j : Nat) : Int) := by
  unfold plc hgt
  rw [List.getD_eq_getElem?_getD, List.getD_eq_getElem?_getD, Int.toNat_natCast, Int.toNat_natCast, ev2_get]
  exact ⟨rfl, rfl⟩
theorem ev2_ok {row : List (Int × Int)} (h : Okr row) : Okr (ev2 row) := by
  have hl := ev2_len row
  have := h.few
  refine ⟨fun i hi => ?_, fun i j hij hj => ?_, by omega⟩
  · rw [(ev2_plc row i).2]
    exact h.pos _ (by omega)
  · rw [(ev2_plc row i).1, (ev2_plc row j).1]
    exact h.inc _ _ (by omega) (by omega)
theorem sub_plc (row : List (Int × Int)) (a b j : Nat) (h : j < b) : plc ((row.drop a).take b) j = plc row ((a + j : Nat) : Int) ∧ hgt ((row.drop a).take b) j = hgt row ((a + j : Nat) : Int) := by
  unfold plc hgt
  rw [List.getD_eq_getElem?_getD, List.getD_eq_getElem?_getD, Int.toNat_natCast, Int.toNat_natCast, List.getElem?_take_of_lt h, List.getElem?_drop]
  exact ⟨rfl, rfl⟩
theorem sub_ok {row : List (Int × Int)} (ok : Okr row) (a b : Nat) : Okr ((row.drop a).take b) := by
  have := ok.few
  have hl : ((row.drop a).take b).length = min b (row.length - a) := by rw [List.length_take, List.length_drop]
  refine ⟨fun i hi => ?_, fun i j hij hj => ?_, by omega⟩
  · rw [(sub_plc row a b i (by omega)).2]
    exact ok.pos _ (by omega)
  · rw [(sub_plc row a b i (by omega)).1, (sub_plc row a b j (by omega)).1]
    exact ok.inc _ _ (by omega) (by omega)
theorem drop_ok {row : List (Int × Int)} (ok : Okr row) (a : Nat) : Okr (row.drop a) := by
  have := sub_ok ok a row.length
  rwa [List.take_of_length_le (by rw [List.length_drop]; omega)] at this
theorem take_ok {row : List (Int × Int)} (ok : Okr row) (b : Nat) : Okr (row.take b) := by
  have := sub_ok ok 0 b
  rwa [List.drop_zero] at this

/-! ### what is looked at -/
def inP (row : List (Int × Int)) (p : Int × Int) (k : Int) : Bool := inS (spanT row p.1.toNat p.2) k
def Pok (row : List (Int × Int)) (p : Int × Int) : Prop := (0 ≤ p.1 ∧ p.1 < row.length) ∧ Sd p.2
structure FwOK (row : List (Int × Int)) (ps : List (Int × Int)) (zs : List Int) : Prop where
  len : ps.length = zs.length
  rng : ∀ z ∈ zs, 0 ≤ z ∧ z < row.length
  pok : ∀ p ∈ ps, Pok row p
  cov : ∀ k : Int, 0 ≤ k → k < row.length → ∃ p ∈ ps, inP row p k = true
  ind : ∀ i : Nat, i < row.length → ∀ s, Sd s → (zs.filter fun z => inS (spanT row i s) z).length ≤ 1
noncomputable def fewB (row : List (Int × Int)) (ps : List (Int × Int)) (zs : List Int) : Bool := @decide (FwOK row ps zs) (Classical.propDecidable _)
theorem fB_t {row ps : List (Int × Int)} {zs : List Int} (h : FwOK row ps zs) : fewB row ps zs = true := by
  unfold fewB
  exact @decide_eq_true _ (Classical.propDecidable _) h
theorem fB_f {row ps : List (Int × Int)} {zs : List Int} (h : ¬ FwOK row ps zs) : fewB row ps zs = false := by
  unfold fewB
  exact @decide_eq_false _ (Classical.propDecidable _) h
theorem le_one {In : Int → Bool} {zs : List Int} (hn : zs.Nodup) (hi : ∀ x ∈ zs, ∀ y ∈ zs, In x = true → In y = true → x = y) : (zs.filter In).length ≤ 1 := by
  have hnd := hn.filter In
  cases e : zs.filter In with
  | nil => simp
  | cons a r =>
    cases r with
    | nil => simp
    | cons b r =>
      rw [e] at hnd
      have ha : a ∈ zs.filter In := by rw [e]; exact List.mem_cons_self
      have hb : b ∈ zs.filter In := by rw [e]; exact List.mem_cons_of_mem _ List.mem_cons_self
      obtain ⟨a1, a2⟩ := List.mem_filter.mp ha
      obtain ⟨b1, b2⟩ := List.mem_filter.mp hb
      have := hi a a1 b b1 a2 b2
      subst this
      exact absurd List.mem_cons_self (List.nodup_cons.mp hnd).1
theorem push_of {row : List (Int × Int)} {t : Span} {p : Int × Int} (h : t ∈ spansL row) (e : t.2.2 = p) : Pok row p ∧ t = spanT row p.1.toNat p.2 := by
  obtain ⟨i, s, hi, hs, rfl⟩ := span_in.mp h
  have e' : ((i : Int), s) = p := e
  subst e'
  refine ⟨⟨by show 0 ≤ (i : Int) ∧ (i : Int) < _; omega, hs⟩, ?_⟩
  show spanT row i s = spanT row ((i : Int)).toNat s
  rw [Int.toNat_natCast]
theorem few_FwOK (row : List (Int × Int)) : FwOK row (fewP row) (fewZ row) := by
  have F := fewL_ok row
  refine ⟨few_lens row, fun z hz => ?_, fun p hp => ?_, fun k k0 k1 => ?_, fun i hi s hs => ?_⟩
  · obtain ⟨x, hx, rfl⟩ := List.mem_map.mp hz
    exact F.rng x hx
  · obtain ⟨x, hx, rfl⟩ := List.mem_map.mp hp
    obtain ⟨t, ht, _, e⟩ := F.push x hx
    exact (push_of ht e).1
  · obtain ⟨x, hx, t, ht, e, hk⟩ := F.cov k k0 k1
    refine ⟨x.1, List.mem_map.mpr ⟨x, hx, rfl⟩, ?_⟩
    unfold inP
    rw [← (push_of ht e).2]
    exact hk
  · refine le_one (rise_nodup F.rise) fun x hx y hy e1 e2 => ?_
    obtain ⟨x', hx', rfl⟩ := List.mem_map.mp hx
    obtain ⟨y', hy', rfl⟩ := List.mem_map.mp hy
    exact F.ind _ (span_in.mpr ⟨i, s, hi, hs, rfl⟩) x' hx' y' hy' e1 e2
theorem mn_mx_in {a b k : Int} : (mn a b ≤ k ∧ k ≤ mx a b) ↔ (a ≤ k ∧ k ≤ b) ∨ (b ≤ k ∧ k ≤ a) := by
  unfold mn mx
  by_cases h : b < a
  · rw [if_pos h, if_neg (by omega)]
    omega
  · rw [if_neg h]
    by_cases h2 : b > a
    · rw [if_pos h2]
      omega
    · rw [if_neg h2]
      omega
theorem few_mir (row : List (Int × Int)) : (fewL (mir row)).length ≤ (fewL row).length := by
  have F := fewL_ok row
  have G := fewL_ok (mir row)
  have hml := mir_len row
  have := pigeon (fun (t : Span) (z : Int) => inS t ((row.length : Int) - 1 - z)) ((fewL row).map fun x => spanT row x.1.1.toNat x.1.2) ((fewL (mir row)).map fun x => x.2) (rise_nodup G.rise) (fun z hz => by
    obtain ⟨x, hx, rfl⟩ := List.mem_map.mp hz
    have h1 := G.rng x hx
    obtain ⟨y, hy, t, ht, e, hk⟩ := F.cov ((row.length : Int) - 1 - x.2) (by omega) (by omega)
    refine ⟨_, List.mem_map.mpr ⟨y, hy, rfl⟩, ?_⟩
    show inS (spanT row y.1.1.toNat y.1.2) _ = true
    rw [← (push_of ht e).2]
    exact hk) fun c hc x hx y hy e1 e2 => by
      obtain ⟨q, hq, rfl⟩ := List.mem_map.mp hc
      obtain ⟨x', hx', rfl⟩ := List.mem_map.mp hx
      obtain ⟨y', hy', rfl⟩ := List.mem_map.mp hy
      obtain ⟨t, ht, _, e⟩ := F.push q hq
      obtain ⟨⟨p1, p2⟩, hs⟩ := (push_of ht e).1
      have hi : q.1.1.toNat < row.length := by omega
      have hlast := mir_last (row := row) (s := q.1.2) (i := q.1.1.toNat) hi hs
      have cross : ∀ z : Int, inS (spanT row q.1.1.toNat q.1.2) ((row.length : Int) - 1 - z) = true → inS (spanT (mir row) (row.length - 1 - q.1.1.toNat) (-q.1.2)) z = true := fun z hz => by
        have h1 := mn_mx_in.mp (inS_iff.mp hz)
        refine inS_iff.mpr (mn_mx_in.mpr ?_)
        rw [hlast]
        omega
      exact G.ind _ (span_in.mpr ⟨row.length - 1 - q.1.1.toNat, -q.1.2, by omega, by rcases hs with e | e <;> rw [e] <;> simp [Sd], rfl⟩) x' hx' y' hy' (cross _ e1) (cross _ e2)
  rwa [List.length_map, List.length_map] at this
theorem few_same (row : List (Int × Int)) : (fewZ row).length = (fewZ (mir row)).length := by
  have h1 := few_mir row
  have h2 := few_mir (mir row)
  rw [mir_mir] at h2
  unfold fewZ
  rw [List.length_map, List.length_map]
  omega

/-! ### keys of a dict, marks of a list -/
def keysD (ks : List Int) : List (Int × Da) := ks.map fun j => (j, Da.bl true)
def insI (ks : List Int) (j : Int) : List Int := if j ∈ ks then ks else ks ++ [j]
theorem put_keys (ks : List Int) (j : Int) : putD (keysD ks) j (.bl true) = keysD (insI ks j) := by
  have e : ((keysD ks).any fun kv => decide (kv.1 = j)) = decide (j ∈ ks) := by
    unfold keysD
    rw [List.any_map]
    by_cases h : j ∈ ks
    · rw [decide_eq_true h, List.any_eq_true]
      exact ⟨j, h, by simp⟩
    · rw [decide_eq_false h, List.any_eq_false]
      intro x hx
      show ¬ decide (x = j) = true
      rw [decide_eq_true_eq]
      rintro rfl
      exact h hx
  unfold putD insI
  rw [e]
  by_cases h : j ∈ ks
  · rw [if_pos (decide_eq_true h), if_pos h]
    unfold keysD
    rw [List.map_map]
    apply List.map_congr_left
    intro x _
    show (if x = j then (x, Da.bl true) else (x, Da.bl true)) = _
    split <;> rfl
  · rw [if_neg (by simpa using h), if_neg h]
    unfold keysD
    rw [List.map_append]
    rfl
theorem ins_nodup {ks : List Int} {j : Int} (h : ks.Nodup) : (insI ks j).Nodup := by
  unfold insI
  split
  · exact h
  · rename_i hj
    rw [List.nodup_append]
    refine ⟨h, by simp, fun a ha c hc => ?_⟩
    rw [List.mem_singleton.mp hc]
    rintro rfl
    exact hj ha
theorem ins_mem {ks : List Int} {j k : Int} : k ∈ insI ks j ↔ k ∈ ks ∨ k = j := by
  unfold insI
  split
  · rename_i hj
    constructor
    · exact .inl
    · rintro (h | rfl)
      · exact h
      · exact hj
  · simp
theorem keys_le {ks : List Int} {n : Nat} (hn : ks.Nodup) (hr : ∀ j ∈ ks, 0 ≤ j ∧ j < n) : ks.length ≤ n := by
  have := pigeon (fun (c : Nat) (z : Int) => decide ((c : Int) = z)) (List.range n) ks hn (fun z hz => by
    have := hr z hz
    exact ⟨z.toNat, List.mem_range.mpr (by omega), by rw [decide_eq_true_eq]; omega⟩) fun c _ x _ y _ e1 e2 => by
      have := of_decide_eq_true e1
      have := of_decide_eq_true e2
      omega
  rwa [List.length_range] at this
theorem keys_lt {ks : List Int} {n : Nat} (hn : ks.Nodup) (hr : ∀ j ∈ ks, 0 ≤ j ∧ j < n) : ks.length < n ↔ ∃ k : Int, 0 ≤ k ∧ k < n ∧ k ∉ ks := by
  constructor
  · intro h
    apply Classical.byContradiction
    intro hc
    have all : ∀ k : Int, 0 ≤ k → k < n → k ∈ ks := fun k k0 k1 => Classical.byContradiction fun z => hc ⟨k, k0, k1, z⟩
    have := pigeon (fun (c : Int) (z : Int) => decide (c = z)) ks ((List.range n).map fun j : Nat => (j : Int)) (nodup_map_inj List.nodup_range fun a b e => by omega) (fun z hz => by
      obtain ⟨j, hj, rfl⟩ := List.mem_map.mp hz
      have := List.mem_range.mp hj
      exact ⟨(j : Int), all _ (by omega) (by omega), by simp⟩) fun c _ x _ y _ e1 e2 => by
        have := of_decide_eq_true e1
        have := of_decide_eq_true e2
        omega
    rw [List.length_map, List.length_range] at this
    omega
  · rintro ⟨k, k0, k1, hk⟩
    have h1 : (k :: ks).Nodup := List.nodup_cons.mpr ⟨hk, hn⟩
    have := keys_le (n := n) h1 fun j hj => by
      rcases List.mem_cons.mp hj with rfl | hj
      · exact ⟨k0, k1⟩
      · exact hr j hj
    rw [List.length_cons] at this
    omega
def metG (n : Nat) (f : Nat → Bool) (z m : Int) : List Bool := (List.range n).map fun j => f j || (decide (z ≤ j) && decide ((j : Int) < z + m))
theorem metG_zero (n : Nat) (f : Nat → Bool) (z : Int) : metG n f z ((0 : Nat) : Int) = (List.range n).map f := by
  unfold metG
  apply List.map_congr_left
  intro j _
  have : (decide (z ≤ (j : Int)) && decide ((j : Int) < z + ((0 : Nat) : Int))) = false := by
    rw [Bool.and_eq_false_iff, decide_eq_false_iff_not, decide_eq_false_iff_not]
    omega
  rw [this, Bool.or_false]
theorem metG_end {n : Nat} {f f' : Nat → Bool} {z m : Int} (h : ∀ j : Nat, f' j = (f j || (decide (z ≤ (j : Int)) && decide ((j : Int) < z + m)))) : metG n f z m = (List.range n).map f' := by
  unfold metG
  apply List.map_congr_left
  intro j _
  exact (h j).symm
theorem metG_set {n : Nat} {f : Nat → Bool} {z : Int} {m : Nat} (h0 : 0 ≤ z) (h : z + m < n) : (metG n f z (m : Nat)).set (z + m).toNat true = metG n f z ((m + 1 : Nat) : Int) := by
  unfold metG
  apply List.ext_getElem?
  intro j
  rw [List.getElem?_set]
  by_cases hj : j < n
  · rw [List.getElem?_map, List.getElem?_map, List.getElem?_range hj]
    show (if _ then _ else some _) = some _
    by_cases e : (z + (m : Nat)).toNat = j
    · have e1 : (decide (z ≤ (j : Int)) && decide ((j : Int) < z + ((m + 1 : Nat) : Int))) = true := by
        rw [Bool.and_eq_true, decide_eq_true_eq, decide_eq_true_eq]
        omega
      rw [if_pos e, if_pos (by rw [List.length_map, List.length_range]; omega)]
      show some true = some (f j || (decide (z ≤ (j : Int)) && decide ((j : Int) < z + ((m + 1 : Nat) : Int))))
      rw [e1, Bool.or_true]
    · rw [if_neg e]
      show some (f j || (decide (z ≤ (j : Int)) && decide ((j : Int) < z + (m : Int)))) = some (f j || (decide (z ≤ (j : Int)) && decide ((j : Int) < z + ((m + 1 : Nat) : Int))))
      have e1 : decide ((j : Int) < z + (m : Int)) = decide ((j : Int) < z + ((m + 1 : Nat) : Int)) ∨ decide (z ≤ (j : Int)) = false := by
        by_cases hz : z ≤ (j : Int)
        · left
          apply decide_eq_decide.mpr
          omega
        · right
          exact decide_eq_false hz
      rcases e1 with e1 | e1 <;> rw [e1]
      rfl
  · have e1 : ((List.range n).map fun j => f j || (decide (z ≤ (j : Int)) && decide ((j : Int) < z + ((m + 1 : Nat) : Int))))[j]? = none := List.getElem?_eq_none (by rw [List.length_map, List.length_range]; omega)
    rw [e1, if_neg (by omega)]
    exact List.getElem?_eq_none (by rw [List.length_map, List.length_range]; omega)
theorem few_longer_z {row ps : List (Int × Int)} {zs : List Int} {z : Int} (h : ps.length = zs.length) : fewB row ps (zs ++ [z]) = false := by
  apply fB_f
  intro R
  have := R.len
  rw [List.length_append, List.length_singleton] at this
  omega
theorem few_longer_p {row ps : List (Int × Int)} {zs : List Int} {p : Int × Int} (h : ps.length = zs.length) : fewB row (ps ++ [p]) zs = false := by
  apply fB_f
  intro R
  have := R.len
  rw [List.length_append, List.length_singleton] at this
  omega
end FR

/-! The third law's own defs. -/
namespace FR
open PySem L2 Evl
structure Fx3 (K : PySem.W.Frag) (C : CS) : Prop where
  f : FxF K C
  k : Kits K C.Fewest C true false false true false false
def fewD (C : CS) (ps : List (Int × Int)) (zs : List Int) : Da := .obj C.Fewest ["pushes", "stones"] [rowD ps, intsD zs]
def P_Fewest_shows (C : CS) (ds : List Da) (d : Da) : Prop := ∃ row ps zs, ds = [fewD C ps zs, rowD row] ∧ (row.length ≤ 1000 ∧ ps.length ≤ 3000 ∧ zs.length ≤ 3000) ∧ d = .bl (fewB row ps zs)
def P_law_few (ds : List Da) (d : Da) : Prop := ∃ row ps zs, ds = [rowD row, rowD ps, intsD zs] ∧ (row.length ≤ 1000 ∧ ps.length ≤ 3000 ∧ zs.length ≤ 3000) ∧ d = .bl (fewB row ps zs)
def P_law_right (ds : List Da) (d : Da) : Prop := ∃ row be, ds = [rowD row, rowD be] ∧ (Okr row ∧ be.length ≤ 1000) ∧ d = .bl true
def P_law (ds : List Da) (d : Da) : Prop := ∃ ns, ds = [.sq (intL ns)] ∧ ns.length ≤ 63 ∧ d = .bl true
abbrev sp_Fewest_shows (K : PySem.W.Frag) (C : CS) : Sp := FnP K (P_Fewest_shows C)
abbrev sp_law_few (K : PySem.W.Frag) (C : CS) : Sp := FnP K P_law_few
abbrev sp_law_right (K : PySem.W.Frag) (C : CS) : Sp := FnP K P_law_right
abbrev sp_law (K : PySem.W.Frag) (C : CS) : Sp := FnP K P_law
def t_Fewest_shows (K : PySem.W.Frag) (C : CS) : TS :=
  (tSeq (tAsg (tCB (rLenS K) (tCons (tVar 1) tNil)) (gName 2)) (tSeq (tIfS (tOr (tTest (tOp rNe (tCB (rLenS K) (tCons (tFld K (tVar 0) "pushes") tNil)) (tCB (rLenS K) (tCons (tFld K (tVar 0) "stones") tNil)))) (tNot (tB (tCB (rAll K) (tCons (tLc (iList K (tFld K (tVar 0) "stones")) (gName 4) tYes (tChain rLeI rLtI (tC (.int 0)) (tVar 4) (tVar 2)) [4]) tNil))))) (tRet (tC (.bl false))) tNext) (tSeq (tAsg tDNewK (gName 3)) (tSeq (tFor (iList K (tFld K (tVar 0) "pushes")) (gTup K 2 (gCons (gName 4) (gCons (gName 5) gNil))) (tSeq (tIfS (tOr (tNot (tTest (tChain rLeI rLtI (tC (.int 0)) (tVar 4) (tVar 2)))) (tTest (tOp (rIn K true) (tVar 5) (tTup (tCons (tC (.int 1)) (tCons (tUn (rU fun i => .int (-i)) (tC (.int 1))) tNil)))))) (tRet (tC (.bl false))) tNext) (tFor (iList K (tCall (sp_felled_by K C) [] E0 (tCons (tVar 1) (tCons (tVar 4) (tCons (tVar 5) tNil))))) (gName 6) (sDPut (tVar 3) (tVar 6) (tC (.bl true)))))) (tSeq (tIfS (tTest (tOp rLtI (tCB rLenD (tCons (tVar 3) tNil)) (tVar 2))) (tRet (tC (.bl false))) tNext) (tSeq (tFor (iRng1 (tCons (tVar 2) tNil)) (gName 4) (tFor (iTup K (tTup (tCons (tC (.int 1)) (tCons (tUn (rU fun i => .int (-i)) (tC (.int 1))) tNil)))) (gName 5) (tSeq (tAsg (tOp (rIxT K) (tCall (sp_last_felled K C) [] E0 (tCons (tVar 1) (tCons (tVar 4) (tCons (tVar 5) tNil)))) (tC (.int 0))) (gName 7)) (tSeq (tAsg (tTup (tCons (tCB rMin2 (tCons (tVar 4) (tCons (tVar 7) tNil))) (tCons (tCB rMax2 (tCons (tVar 4) (tCons (tVar 7) tNil))) tNil))) (gTup K 2 (gCons (gName 8) (gCons (gName 9) gNil)))) (tIfS (tTest (tOp rGtI (tCB (rLenS K) (tCons (tLc (iList K (tFld K (tVar 0) "stones")) (gName 6) (tTest (tChain rLeI rLeI (tVar 8) (tVar 6) (tVar 9))) (tVar 6) [6]) tNil)) (tC (.int 1)))) (tRet (tC (.bl false))) tNext))))) (tRet (tC (.bl true)))))))))
def t_law_few (K : PySem.W.Frag) (C : CS) : TS :=
  (tSeq (tAsg (tCB (rLenS K) (tCons (tVar 0) tNil)) (gName 3)) (tSeq (tIfS (tOr (tTest (tOp rNe (tCB (rLenS K) (tCons (tVar 1) tNil)) (tCB (rLenS K) (tCons (tVar 2) tNil)))) (tB (tCB (rAny K) (tCons (tLc (iList K (tVar 2)) (gName 5) tYes (tNotV (tChain rLeI rLtI (tC (.int 0)) (tVar 5) (tVar 3))) [5]) tNil)))) (tRet (tC (.bl false))) tNext) (tSeq (tAsg (tLc (iList K (tVar 0)) (gName 5) tYes (tC (.bl false)) [5]) (gName 4)) (tSeq (tFor (iList K (tVar 1)) (gTup K 2 (gCons (gName 5) (gCons (gName 6) gNil))) (tSeq (tIfS (tOr (tNot (tTest (tChain rLeI rLtI (tC (.int 0)) (tVar 5) (tVar 3)))) (tAnd (tTest (tOp rNe (tVar 6) (tC (.int 1)))) (tTest (tOp rNe (tVar 6) (tUn (rU fun i => .int (-i)) (tC (.int 1))))))) (tRet (tC (.bl false))) tNext) (tSeq (tAsg (tCall (sp_law_felled K C) [] E0 (tCons (tVar 0) (tCons (tVar 5) (tCons (tVar 6) tNil)))) (gName 7)) (tFor (iRng2 (tCons (tCB rMin2 (tCons (tVar 5) (tCons (tVar 7) tNil))) (tCons (tOp rAddI (tCB rMax2 (tCons (tVar 5) (tCons (tVar 7) tNil))) (tC (.int 1))) tNil))) (gName 8) (tAsg (tC (.bl true)) (gSub (tVar 4) (tVar 8) rSetL)))))) (tSeq (tIfS (tNot (tB (tCB (rAll K) (tCons (tVar 4) tNil)))) (tRet (tC (.bl false))) tNext) (tSeq (tFor (iRng1 (tCons (tVar 3) tNil)) (gName 5) (tFor (iList K (tLst (tCons (tC (.int 1)) (tCons (tUn (rU fun i => .int (-i)) (tC (.int 1))) tNil)))) (gName 6) (tSeq (tAsg (tCall (sp_law_felled K C) [] E0 (tCons (tVar 0) (tCons (tVar 5) (tCons (tVar 6) tNil)))) (gName 7)) (tIfS (tTest (tOp rGtI (tCB (rSum K) (tCons (tLc (iList K (tVar 2)) (gName 8) (tTest (tChain rLeI rLeI (tCB rMin2 (tCons (tVar 5) (tCons (tVar 7) tNil))) (tVar 8) (tCB rMax2 (tCons (tVar 5) (tCons (tVar 7) tNil))))) (tC (.int 1)) [8]) tNil)) (tC (.int 1)))) (tRet (tC (.bl false))) tNext)))) (tRet (tC (.bl true)))))))))
def t_law_right (K : PySem.W.Frag) (C : CS) : TS :=
  (tSeq (tAsg (tCB (rListS K) (tCons (tVar 0) tNil)) (gName 2)) (tSeq (tAsg (tCall (sp_fewest K C) [] E0 (tCons (tVar 2) tNil)) (gName 3)) (tSeq (tIfS (tOr (tNot (tB (tCB (rIsi K) (tCons (tVar 3) (tCons (tC (.ref C.Answer)) tNil))))) (tOr (tNot (tB (tCB (rIsi K) (tCons (tVar 3) (tCons (tC (.ref C.Fewest)) tNil))))) (tTest (tOp (rNeD K) (tVar 2) (tVar 0))))) (tRet (tC (.bl false))) tNext) (tSeq (tIfS (tB (tCB (rAny K) (tCons (tLst (tCons (tCB (rIsi K) (tCons (tVar 3) (tCons (tC (.ref C.Chain)) tNil))) (tCons (tCB (rIsi K) (tCons (tVar 3) (tCons (tC (.ref C.Higher)) tNil))) (tCons (tCB (rIsi K) (tCons (tVar 3) (tCons (tC (.ref C.Rights)) tNil))) (tCons (tCB (rIsi K) (tCons (tVar 3) (tCons (tC (.ref C.Stands)) tNil))) tNil))))) tNil))) (tRet (tC (.bl false))) tNext) (tSeq (tIfS (tOr (tNot (tB (tCall (sp_law_numbers K C) [] E0 (tCons (tFld K (tVar 3) "stones") tNil)))) (tNot (tB (tCB (rIsi K) (tCons (tFld K (tVar 3) "pushes") (tCons (tC (.ty "list")) tNil)))))) (tRet (tC (.bl false))) tNext) (tSeq (tIfS (tNot (tB (tCB (rAll K) (tCons (tLc (iList K (tFld K (tVar 3) "pushes")) (gName 4) tYes (tAndV (tCB (rIsi K) (tCons (tVar 4) (tCons (tC (.ty "tuple")) tNil))) (tAndV (tOp rEq (tCB (rLenS K) (tCons (tVar 4) tNil)) (tC (.int 2))) (tCall (sp_law_numbers K C) [] E0 (tCons (tCB (rListS K) (tCons (tVar 4) tNil)) tNil)))) [4]) tNil)))) (tRet (tC (.bl false))) tNext) (tSeq (tIfS (tOr (tNot (tB (tCall (sp_law_few K C) [] E0 (tCons (tVar 0) (tCons (tFld K (tVar 3) "pushes") (tCons (tFld K (tVar 3) "stones") tNil)))))) (tTest (tOp rNotB (tMeth C.Fewest "shows" (sp_Fewest_shows K C) [] E0 (tVar 3) (tCons (tVar 0) tNil)) (tC (.bl true))))) (tRet (tC (.bl false))) tNext) (tSeq (tIfS (tTest (tOp rNe (tMeth C.Fewest "shows" (sp_Fewest_shows K C) [] E0 (tVar 3) (tCons (tVar 1) tNil)) (tCall (sp_law_few K C) [] E0 (tCons (tVar 1) (tCons (tFld K (tVar 3) "pushes") (tCons (tFld K (tVar 3) "stones") tNil)))))) (tRet (tC (.bl false))) tNext) (tSeq (tDrop (tBM K "list" rAppend (tFld K (tVar 3) "stones") (tCons (tC (.int 0)) tNil))) (tSeq (tIfS (tTest (tOp rNotB (tMeth C.Fewest "shows" (sp_Fewest_shows K C) [] E0 (tVar 3) (tCons (tVar 0) tNil)) (tC (.bl false)))) (tRet (tC (.bl false))) tNext) (tSeq (tDrop (tBM0 K "list" rPop (tFld K (tVar 3) "stones"))) (tSeq (tDrop (tBM K "list" rAppend (tFld K (tVar 3) "pushes") (tCons (tTup (tCons (tC (.int 0)) (tCons (tC (.int 1)) tNil))) tNil))) (tRet (tAndV (tOp rIsB (tMeth C.Fewest "shows" (sp_Fewest_shows K C) [] E0 (tVar 3) (tCons (tVar 0) tNil)) (tC (.bl false))) (tOp (rEqD K) (tVar 2) (tVar 0))))))))))))))))
def t_law (K : PySem.W.Frag) (C : CS) : TS :=
  (tSeq (tAsg (tCall (sp_law_row K C) [] E0 (tCons (tVar 0) tNil)) (gName 1)) (tSeq (tAsg (tOp rModI (tOp rDivI (tCB (rSum K) (tCons (tVar 0) tNil)) (tC (.int 3))) (tCB rMax2 (tCons (tC (.int 1)) (tCons (tCB (rLenS K) (tCons (tVar 1) tNil)) tNil)))) (gName 2)) (tSeq (tAsg (tOp rCat (tOp rCat (tSl (rSlL K) (tVar 1) tNoPart (tPart (tVar 2))) (tLc (iList K (tSl (rSlL K) (tVar 1) (tPart (tVar 2)) (tPart (tOp rAddI (tVar 2) (tC (.int 1)))))) (gTup K 2 (gCons (gName 5) (gCons (gName 6) gNil))) tYes (tTup (tCons (tVar 5) (tCons (tOp rAddI (tOp rAddI (tVar 6) (tC (.int 1))) (tOp rModI (tCB (rSum K) (tCons (tVar 0) tNil)) (tC (.int 5)))) tNil))) [5, 6])) (tSl (rSlL K) (tVar 1) (tPart (tOp rAddI (tVar 2) (tC (.int 1)))) tNoPart)) (gName 3)) (tSeq (tAsg (tLc (iList K (tRevL K (tVar 1))) (gTup K 2 (gCons (gName 5) (gCons (gName 6) gNil))) tYes (tTup (tCons (tUn (rU fun i => .int (-i)) (tVar 5)) (tCons (tVar 6) tNil))) [5, 6]) (gName 4)) (tSeq (tIfS (tOr (tNot (tB (tCall (sp_law_right K C) [] E0 (tCons (tVar 1) (tCons (tVar 3) tNil))))) (tOr (tNot (tB (tCall (sp_law_right K C) [] E0 (tCons (tSl2 K (tVar 1) (tPart (tC (.int 1)))) (tCons (tSl2 K (tVar 1) tNoPart) tNil))))) (tNot (tB (tCall (sp_law_right K C) [] E0 (tCons (tSl (rSlL K) (tVar 4) tNoPart (tPart (tC (.int 9)))) (tCons (tSl (rSlL K) (tVar 3) tNoPart (tPart (tC (.int 9)))) tNil))))))) (tRet (tC (.bl false))) tNext) (tRet (tOp rEq (tCB (rLenS K) (tCons (tFld K (tCall (sp_fewest K C) [] E0 (tCons (tVar 1) tNil)) "stones") tNil)) (tCB (rLenS K) (tCons (tFld K (tCall (sp_fewest K C) [] E0 (tCons (tVar 4) tNil)) "stones") tNil)))))))))
section
variable {K : PySem.W.Frag} {C : CS} {env : En} {te ta tb tc : TE} {row ps : List (Int × Int)} {zs : List Int} {D : Addr} {b : Bool}
theorem ev_fp (A : FxF K C) (h : EvE K te env (fewD C ps zs)) : EvE K (tFld K te "pushes") env (rowD ps) := ev_fld0 h A.isi.cls (A.no _ List.mem_cons_self)
theorem ev_fz (A : FxF K C) (h : EvE K te env (fewD C ps zs)) : EvE K (tFld K te "stones") env (intsD zs) := ev_fld1 h A.isi.cls (A.no _ (List.mem_cons_of_mem _ List.mem_cons_self)) (by decide)
theorem inP_iff {row : List (Int × Int)} {p : Int × Int} {k : Int} (h0 : 0 ≤ p.1) : inP row p k = true ↔ mn p.1 (lastI row p.2 p.1.toNat) ≤ k ∧ k ≤ mx p.1 (lastI row p.2 p.1.toNat) := by
  have e : ((p.1.toNat : Nat) : Int) = p.1 := by omega
  unfold inP
  rw [inS_iff]
  unfold spanT
  rw [e]
theorem mn_mx_rng {row : List (Int × Int)} {p : Int × Int} (h : Pok row p) : 0 ≤ mn p.1 (lastI row p.2 p.1.toNat) ∧ mx p.1 (lastI row p.2 p.1.toNat) < row.length ∧ mn p.1 (lastI row p.2 p.1.toNat) ≤ mx p.1 (lastI row p.2 p.1.toNat) := by
  obtain ⟨⟨h0, h1⟩, hs⟩ := h
  have hl := last_rng (row := row) (i := p.1.toNat) (s := p.2) (by omega) hs
  refine ⟨?_, ?_, ?_⟩
  · rcases mn_or p.1 (lastI row p.2 p.1.toNat) with e | e <;> rw [e] <;> omega
  · rcases mx_or p.1 (lastI row p.2 p.1.toNat) with e | e <;> rw [e] <;> omega
  · have := (mn_le p.1 (lastI row p.2 p.1.toNat)).1
    have := (mx_ge p.1 (lastI row p.2 p.1.toNat)).1
    omega
theorem run_Fewest_shows (A : FxF K C) {ds : List Da} {d : Da} (h : P_Fewest_shows C ds d) : Run K (t_Fewest_shows K C) (ent ds 8) (retD d) := by
  obtain ⟨row, ps, zs, rfl, ⟨hn, hp, hz⟩, rfl⟩ := h
  refine run_seq (run_asg (d := .int (row.length : Int)) (ev_lenR (ev_var rfl)) ?_)
  refine run_seq (run_if (b := !decide ((ps.length : Int) = (zs.length : Int)) || !(((zs.filter fun _ => true).map fun o => decide (0 ≤ o) && decide (o < (row.length : Int))).all id)) (eb_or ?_ fun _ => ?_) (fun hb => ?_) fun hb => run_next ?_)
  · exact eb_test (ev_neI (ev_lenR (ev_fp (zs := zs) A (ev_var rfl))) (ev_lenI (ev_fz (ps := ps) A (ev_var rfl))))
  · exact eb_not (eb_B (ev_all (ev_new ((en_lc (us := [4]) Da.int (fun _ => true) (fun o => Da.bl (decide (0 ≤ o) && decide (o < (row.length : Int)))) zs (wk_list (ev_fz (ps := ps) A (ev_var rfl))) (by simp) (by omega) fun o ho => ⟨_, tc_name, eb_yes, fun _ => ev_chainI rfl rfl ev_int (ev_var rfl) fun _ => ev_var rfl⟩).is (by simp only [blL, List.map_map]; rfl)))))
  · refine run_ret ev_bl ?_
    show Da.bl _ = Da.bl _
    rw [fB_f]
    intro R
    have h1 := R.len
    rw [decide_eq_true (by omega), List.filter_eq_self.mpr fun _ _ => rfl] at hb
    simp only [Bool.not_true, Bool.false_or, Bool.not_eq_true', List.all_map, List.all_eq_false] at hb
    obtain ⟨z, hz2, e⟩ := hb
    have := R.rng z hz2
    apply e
    show (decide (0 ≤ z) && decide (z < (row.length : Int))) = true
    rw [decide_eq_true this.1, decide_eq_true this.2]
    rfl
  simp only [Bool.or_eq_false_iff, Bool.not_eq_false', decide_eq_true_eq] at hb
  obtain ⟨hlen, hr⟩ := hb
  have hlen' : ps.length = zs.length := by omega
  have hrng : ∀ z ∈ zs, 0 ≤ z ∧ z < row.length := fun z hz2 => by
    rw [List.filter_eq_self.mpr fun _ _ => rfl, List.all_map, List.all_eq_true] at hr
    have e' : (decide (0 ≤ z) && decide (z < (row.length : Int))) = true := hr z hz2
    simpa using e'
  refine run_seq (run_asgD ed_new ?_)
  refine run_seq (run_for (ds := rowL ps) (wk_list (ev_fp (zs := zs) A (ev_var rfl))) (fun k e => ∃ ks y4 y5 y6, e = [.im (fewD C ps zs), .im (rowD row), .im (.int (row.length : Int)), .md (keysD ks), y4, y5, y6, .no, .no, .no] ∧ (∀ p ∈ ps.take k, Pok row p) ∧ ks.Nodup ∧ (∀ j ∈ ks, 0 ≤ j ∧ j < row.length) ∧ ∀ j, j ∈ ks ↔ ∃ p ∈ ps.take k, inP row p j = true) ⟨[], .no, .no, .no, rfl, by simp, List.nodup_nil, by simp, by simp⟩ ?_ ?_)
  · rintro k d e hd ⟨ks, y4, y5, y6, rfl, i1, i2, i3, i4⟩
    obtain ⟨p, hx, rfl⟩ := map_get hd
    have etk : ps.take (k + 1) = ps.take k ++ [p] := by
      rw [List.take_add_one, hx]
      rfl
    refine ⟨_, ts_tup2 ts_name ts_name, ?_⟩
    refine run_seq (run_if (b := !(decide (0 ≤ p.1) && decide (p.1 < (row.length : Int))) || (if true = true then !decide (p.2 ∈ [1, -1]) else decide (p.2 ∈ [1, -1]))) (eb_or (eb_not (eb_test (ev_chainI rfl rfl ev_int (ev_var rfl) fun _ => ev_var rfl))) fun _ => eb_test (ev_inI (ns := [1, -1]) (ev_var rfl) (ev_tup (ea_cons ev_int (ea_cons (ev_neg ev_int) ea_nil))))) (fun hb => ?_) fun hb => run_next ?_)
    · refine run_ret ev_bl ?_
      show Da.bl _ = Da.bl _
      rw [fB_f]
      intro R
      obtain ⟨⟨h0, h1⟩, hs⟩ := R.pok p (List.mem_of_getElem? hx)
      rw [decide_eq_true h0, decide_eq_true h1] at hb
      rcases hs with e | e <;> rw [e] at hb <;> simp at hb
    have hpok : Pok row p := by
      simp only [Bool.or_eq_false_iff, Bool.not_eq_false', Bool.and_eq_true, decide_eq_true_eq, if_true] at hb
      refine ⟨hb.1, ?_⟩
      have := hb.2
      simpa [Sd] using this
    obtain ⟨l0, l1, l2⟩ := mn_mx_rng hpok
    obtain ⟨⟨h0, h1⟩, hs⟩ := hpok
    have ei : p.1 = ((p.1.toNat : Nat) : Int) := by omega
    refine run_for (ds := intL (fellL row p.1.toNat p.2)) (wk_list (ev_new (en_call (ds := [rowD row, .int ((p.1.toNat : Nat) : Int), .int p.2]) (ea_cons (ev_var rfl) (ea_cons ((ev_var rfl).is (congrArg Da.int ei)) (ea_cons (ev_var rfl) ea_nil))) ⟨row, p.1.toNat, p.2, rfl, ⟨by omega, hn, hs⟩, rfl⟩))) (fun m e => ∃ ks y6, e = [.im (fewD C ps zs), .im (rowD row), .im (.int (row.length : Int)), .md (keysD ks), .im (.int p.1), .im (.int p.2), y6, .no, .no, .no] ∧ ks.Nodup ∧ (∀ j ∈ ks, 0 ≤ j ∧ j < row.length) ∧ ∀ j, j ∈ ks ↔ (∃ p ∈ ps.take k, inP row p j = true) ∨ j ∈ (fellL row p.1.toNat p.2).take m) ⟨ks, y6, rfl, i2, i3, fun j => by rw [i4]; simp⟩ ?_ ?_
    · rintro m d e hd2 ⟨ks, y6, rfl, j2, j3, j4⟩
      obtain ⟨o, ho, rfl⟩ := intL_get hd2
      have hom := List.mem_of_getElem? ho
      have hor : mn p.1 (lastI row p.2 p.1.toNat) ≤ o ∧ o ≤ mx p.1 (lastI row p.2 p.1.toNat) := by
        have := span_mem.mp hom
        rw [← ei] at this
        exact this
      refine ⟨_, ts_name, run_dput (kvs := keysD ks) rfl ev_bl (ev_var rfl) ?_ ⟨insI ks o, .im (.int o), ?_, ins_nodup j2, fun j hj => ?_, fun j => ?_⟩⟩
      · unfold keysD
        rw [List.length_map]
        have := keys_le j2 j3
        omega
      · rw [put_keys]
        rfl
      · rcases ins_mem.mp hj with hj | rfl
        · exact j3 j hj
        · omega
      · rw [ins_mem, j4, get_row ho]
        simp [or_assoc]
    · rintro e ⟨ks, y6, rfl, j2, j3, j4⟩
      refine ⟨ks, .im (.int p.1), .im (.int p.2), y6, rfl, fun q hq => ?_, j2, j3, fun j => ?_⟩
      · rw [etk] at hq
        rcases List.mem_append.mp hq with hq | hq
        · exact i1 q hq
        · rw [List.mem_singleton.mp hq]
          exact ⟨⟨h0, h1⟩, hs⟩
      · rw [j4, List.length_map, List.take_length, etk]
        have e1 : j ∈ fellL row p.1.toNat p.2 ↔ inP row p j = true := by
          rw [inP_iff h0]
          refine span_mem.trans ?_
          rw [← ei]
        rw [e1]
        constructor
        · rintro (⟨q, hq, e⟩ | e)
          · exact ⟨q, List.mem_append_left _ hq, e⟩
          · exact ⟨p, by simp, e⟩
        · rintro ⟨q, hq, e⟩
          rcases List.mem_append.mp hq with hq | hq
          · exact .inl ⟨q, hq, e⟩
          · rw [List.mem_singleton.mp hq] at e
            exact .inr e
  rintro e ⟨ks, y4, y5, y6, rfl, i1, i2, i3, i4⟩
  rw [List.length_map, List.take_length] at i1 i4
  have hkl := keys_lt i2 i3
  refine run_seq (run_if (b := decide (((keysD ks).length : Int) < (row.length : Int))) (eb_test (ev_lt (ev_lenD rfl) (ev_var rfl))) (fun hb => ?_) fun hb => run_next ?_)
  · refine run_ret ev_bl ?_
    show Da.bl _ = Da.bl _
    rw [fB_f]
    intro R
    have hb' := of_decide_eq_true hb
    unfold keysD at hb'
    rw [List.length_map] at hb'
    obtain ⟨k, k0, k1, hk⟩ := hkl.mp (by omega)
    exact hk ((i4 k).mpr (R.cov k k0 k1))
  have hcov : ∀ k : Int, 0 ≤ k → k < row.length → ∃ p ∈ ps, inP row p k = true := fun k k0 k1 => by
    apply (i4 k).mp
    apply Classical.byContradiction
    intro hk
    have := hkl.mpr ⟨k, k0, k1, hk⟩
    have hb' := of_decide_eq_false hb
    unfold keysD at hb'
    rw [List.length_map] at hb'
    omega
  refine run_seq (run_for (wk_rng1 (ev_var rfl) (by omega)) (fun k e => ∃ y4 y5 y6 y7 y8 y9, e = [.im (fewD C ps zs), .im (rowD row), .im (.int (row.length : Int)), .md (keysD ks), y4, y5, y6, y7, y8, y9] ∧ ∀ i : Nat, i < k → ∀ s, Sd s → (zs.filter fun z => inS (spanT row i s) z).length ≤ 1) ⟨y4, y5, y6, .no, .no, .no, rfl, fun i hi => absurd hi (by omega)⟩ ?_ ?_)
  · rintro k d e hd ⟨y4, y5, y6, y7, y8, y9, rfl, hI⟩
    have hk : k < ((row.length : Int) - 0).toNat := by
      have := (List.getElem?_eq_some_iff.mp hd).1
      rw [rngD_len] at this
      exact this
    rw [rngD_get hk] at hd
    obtain rfl : Da.int ((0 : Int) + (k : Nat)) = d := Option.some.inj hd
    rw [Int.zero_add]
    have hk' : k < row.length := by omega
    refine ⟨_, ts_name, ?_⟩
    refine run_for (ds := intL [1, -1]) (wk_tup (ev_tup (ea_cons ev_int (ea_cons (ev_neg ev_int) ea_nil)))) (fun m e => ∃ y5 y6 y7 y8 y9, e = [.im (fewD C ps zs), .im (rowD row), .im (.int (row.length : Int)), .md (keysD ks), .im (.int (k : Nat)), y5, y6, y7, y8, y9] ∧ ∀ s ∈ ([1, -1] : List Int).take m, (zs.filter fun z => inS (spanT row k s) z).length ≤ 1) ⟨y5, y6, y7, y8, y9, rfl, fun s hs => by simp at hs⟩ ?_ ?_
    · rintro m d e hd2 ⟨y5, y6, y7, y8, y9, rfl, hJ⟩
      obtain ⟨s, hs, rfl⟩ := intL_get hd2
      have hsd : Sd s := by
        have := List.mem_of_getElem? hs
        simpa [Sd] using this
      refine ⟨_, ts_name, ?_⟩
      refine run_seq (run_asg (d := .int (lastI row s k)) (ev_pr0 (p := (lastI row s k, farI row s k)) (ev_call (ds := [rowD row, .int (k : Nat), .int s]) (ea_cons (ev_var rfl) (ea_cons (ev_var rfl) (ea_cons (ev_var rfl) ea_nil))) ⟨row, k, s, rfl, ⟨hk', hn, hsd⟩, rfl⟩)) ?_)
      refine run_seq (run_asgT (d := .tup [.int (mn k (lastI row s k)), .int (mx k (lastI row s k))]) (ev_tup (ea_cons (ev_min2 (ev_var rfl) (ev_var rfl)) (ea_cons (ev_max2 (ev_var rfl) (ev_var rfl)) ea_nil))) (ts_tup2 ts_name ts_name) ?_)
      refine run_if (b := decide ((1 : Int) < ((zs.filter fun z => inS (spanT row k s) z).length : Int))) (eb_test (ev_gt (ev_lenI (ev_new ?_)) ev_int)) (fun hb => ?_) fun hb => run_next ⟨.im (.int s), y6, .im (.int (lastI row s k)), .im (.int (mn k (lastI row s k))), .im (.int (mx k (lastI row s k))), rfl, ?_⟩
      · exact en_lc (us := [6]) Da.int (fun z => inS (spanT row k s) z) Da.int zs (wk_list (ev_fz (ps := ps) A (ev_var rfl))) (by simp) (by omega) fun o ho => ⟨_, tc_name, eb_test (ev_chainI rfl rfl (ev_var rfl) (ev_var rfl) fun _ => ev_var rfl), fun _ => ev_var rfl⟩
      · refine run_ret ev_bl ?_
        show Da.bl _ = Da.bl _
        rw [fB_f]
        intro R
        have := R.ind k hk' s hsd
        have := of_decide_eq_true hb
        omega
      · intro s' hs'
        rw [get_row hs] at hs'
        rcases List.mem_append.mp hs' with hs' | hs'
        · exact hJ s' hs'
        · rw [List.mem_singleton.mp hs']
          have := of_decide_eq_false hb
          omega
    · rintro e ⟨y5, y6, y7, y8, y9, rfl, hJ⟩
      refine ⟨.im (.int (k : Nat)), y5, y6, y7, y8, y9, rfl, fun i hi s hs => ?_⟩
      by_cases e : i = k
      · subst e
        refine hJ s ?_
        rcases hs with rfl | rfl <;> simp
      · exact hI i (by omega) s hs
  · rintro e ⟨y4, y5, y6, y7, y8, y9, rfl, hI⟩
    rw [rngD_len] at hI
    refine run_ret ev_bl ?_
    show Da.bl _ = Da.bl _
    rw [fB_t ⟨hlen', hrng, i1, hcov, fun i hi s hs => hI i (by omega) s hs⟩]
theorem run_law_few {ds : List Da} {d : Da} (h : P_law_few ds d) : Run K (t_law_few K C) (ent ds 6) (retD d) := by
  obtain ⟨row, ps, zs, rfl, ⟨hn, hp, hz⟩, rfl⟩ := h
  refine run_seq (run_asg (d := .int (row.length : Int)) (ev_lenR (ev_var rfl)) ?_)
  refine run_seq (run_if (b := !decide ((ps.length : Int) = (zs.length : Int)) || ((zs.filter fun _ => true).map fun o => !(decide (0 ≤ o) && decide (o < (row.length : Int)))).any id) (eb_or ?_ fun _ => ?_) (fun hb => ?_) fun hb => run_next ?_)
  · exact eb_test (ev_neI (ev_lenR (ev_var rfl)) (ev_lenI (ev_var rfl)))
  · exact eb_B (ev_any (ev_new ((en_lc (us := [5]) Da.int (fun _ => true) (fun o => Da.bl (!(decide (0 ≤ o) && decide (o < (row.length : Int))))) zs (wk_list (ev_var rfl)) (by simp) (by omega) fun o ho => ⟨_, tc_name, eb_yes, fun _ => ev_notV (ev_chainI rfl rfl ev_int (ev_var rfl) fun _ => ev_var rfl)⟩).is (by simp only [blL, List.map_map]; rfl))))
  · refine run_ret ev_bl ?_
    show Da.bl _ = Da.bl _
    rw [fB_f]
    intro R
    have h1 := R.len
    rw [decide_eq_true (by omega), List.filter_eq_self.mpr fun _ _ => rfl] at hb
    simp only [Bool.not_true, Bool.false_or, List.any_map, List.any_eq_true] at hb
    obtain ⟨z, hz2, e⟩ := hb
    have := R.rng z hz2
    have e' : (!(decide (0 ≤ z) && decide (z < (row.length : Int)))) = true := e
    rw [decide_eq_true this.1, decide_eq_true this.2] at e'
    cases e'
  simp only [Bool.or_eq_false_iff, Bool.not_eq_false', decide_eq_true_eq] at hb
  obtain ⟨hlen, hr⟩ := hb
  have hlen' : ps.length = zs.length := by omega
  have hrng : ∀ z ∈ zs, 0 ≤ z ∧ z < row.length := fun z hz2 => by
    rw [List.filter_eq_self.mpr fun _ _ => rfl, List.any_map, List.any_eq_false] at hr
    have e' : ¬ (!(decide (0 ≤ z) && decide (z < (row.length : Int)))) = true := hr z hz2
    simpa using e'
  refine run_seq (run_asgN (ds := blL ((List.range row.length).map fun j : Nat => ([] : List (Int × Int)).any fun p => inP row p j)) ((en_lc (us := [5]) prD (fun _ => true) (fun _ => Da.bl false) row (wk_list (ev_var rfl)) (by simp) (by omega) fun q hq => ⟨_, tc_name, eb_yes, fun _ => ev_bl⟩).is ?_) ?_)
  · rw [List.filter_eq_self.mpr fun _ _ => rfl]
    unfold blL
    rw [List.map_map]
    apply List.ext_getElem?
    intro j
    rw [List.getElem?_map, List.getElem?_map]
    by_cases hj : j < row.length
    · rw [List.getElem?_range hj, List.getElem?_eq_getElem hj]
      rfl
    · rw [List.getElem?_eq_none (by omega), List.getElem?_eq_none (by rw [List.length_range]; omega)]
      rfl
  refine run_seq (run_for (ds := rowL ps) (wk_list (ev_var rfl)) (fun k e => ∃ y5 y6 y7 y8, e = [.im (rowD row), .im (rowD ps), .im (intsD zs), .im (.int (row.length : Int)), .mu (blL ((List.range row.length).map fun j : Nat => (ps.take k).any fun p => inP row p j)), y5, y6, y7, y8] ∧ ∀ p ∈ ps.take k, Pok row p) ⟨.no, .no, .no, .no, rfl, by simp⟩ ?_ ?_)
  · rintro k d e hd ⟨y5, y6, y7, y8, rfl, i1⟩
    obtain ⟨p, hx, rfl⟩ := map_get hd
    have etk : ps.take (k + 1) = ps.take k ++ [p] := by
      rw [List.take_add_one, hx]
      rfl
    refine ⟨_, ts_tup2 ts_name ts_name, ?_⟩
    refine run_seq (run_if (b := !(decide (0 ≤ p.1) && decide (p.1 < (row.length : Int))) || (!decide (p.2 = 1) && !decide (p.2 = -1))) (eb_or (eb_not (eb_test (ev_chainI rfl rfl ev_int (ev_var rfl) fun _ => ev_var rfl))) fun _ => eb_and (eb_test (ev_neI (ev_var rfl) ev_int)) fun _ => eb_test (ev_neI (ev_var rfl) (ev_neg ev_int))) (fun hb => ?_) fun hb => run_next ?_)
    · refine run_ret ev_bl ?_
      show Da.bl _ = Da.bl _
      rw [fB_f]
      intro R
      obtain ⟨⟨h0, h1⟩, hs⟩ := R.pok p (List.mem_of_getElem? hx)
      rw [decide_eq_true h0, decide_eq_true h1] at hb
      rcases hs with e | e <;> rw [e] at hb <;> simp at hb
    have hpok : Pok row p := by
      simp only [Bool.or_eq_false_iff, Bool.not_eq_false', Bool.and_eq_true, decide_eq_true_eq, Bool.and_eq_false_iff] at hb
      exact ⟨hb.1, hb.2⟩
    obtain ⟨l0, l1, l2⟩ := mn_mx_rng hpok
    obtain ⟨⟨h0, h1⟩, hs⟩ := hpok
    have ei : p.1 = ((p.1.toNat : Nat) : Int) := by omega
    refine run_seq (run_asg (d := .int (lastI row p.2 p.1.toNat)) (ev_call (ds := [rowD row, .int ((p.1.toNat : Nat) : Int), .int p.2]) (ea_cons (ev_var rfl) (ea_cons ((ev_var rfl).is (congrArg Da.int ei)) (ea_cons (ev_var rfl) ea_nil))) ⟨row, p.1.toNat, p.2, rfl, ⟨by omega, hn, hs⟩, rfl⟩) ?_)
    refine run_for (ds := rngD (mn p.1 (lastI row p.2 p.1.toNat)) (mx p.1 (lastI row p.2 p.1.toNat) + 1)) (wk_rng2 (ev_min2 (ev_var rfl) (ev_var rfl)) (ev_add (ev_max2 (ev_var rfl) (ev_var rfl)) ev_int) (by
      show -(2 ^ 62) ≤ mn p.1 (lastI row p.2 p.1.toNat) ∧ mn p.1 (lastI row p.2 p.1.toNat) < 2 ^ 62 ∧ -(2 ^ 62) ≤ mx p.1 (lastI row p.2 p.1.toNat) + 1 ∧ mx p.1 (lastI row p.2 p.1.toNat) + 1 < 2 ^ 62
      omega)) (fun m e => ∃ y8, e = [.im (rowD row), .im (rowD ps), .im (intsD zs), .im (.int (row.length : Int)), .mu (blL (metG row.length (fun j => (ps.take k).any fun p => inP row p j) (mn p.1 (lastI row p.2 p.1.toNat)) (m : Nat))), .im (.int p.1), .im (.int p.2), .im (.int (lastI row p.2 p.1.toNat)), y8]) ⟨y8, by rw [metG_zero]; rfl⟩ ?_ ?_
    · rintro m d e hd2 ⟨y8, rfl⟩
      have hm : m < (mx p.1 (lastI row p.2 p.1.toNat) + 1 - mn p.1 (lastI row p.2 p.1.toNat)).toNat := by
        have := (List.getElem?_eq_some_iff.mp hd2).1
        rw [rngD_len] at this
        exact this
      rw [rngD_get hm] at hd2
      generalize mn p.1 (lastI row p.2 p.1.toNat) = lo at *
      generalize mx p.1 (lastI row p.2 p.1.toNat) = hi at *
      obtain rfl : Da.int (lo + (m : Nat)) = d := Option.some.inj hd2
      have e2 : lo + (m : Nat) = (((lo + (m : Nat)).toNat : Nat) : Int) := by omega
      refine ⟨_, ts_name, run_setL (d := .bl true) (j := (lo + (m : Nat)).toNat) (ds := blL (metG row.length (fun j => (ps.take k).any fun p => inP row p j) lo (m : Nat))) rfl ev_bl rfl ((ev_var rfl).is (congrArg Da.int e2)) ?_ ⟨.im (.int (lo + (m : Nat))), ?_⟩⟩
      · unfold metG
        rw [List.length_map, List.length_map, List.length_range]
        omega
      · have e3 : (blL (metG row.length (fun j => (ps.take k).any fun p => inP row p j) lo (m : Nat))).set (lo + (m : Nat)).toNat (Da.bl true) = blL (metG row.length (fun j => (ps.take k).any fun p => inP row p j) lo ((m + 1 : Nat) : Int)) := by
          rw [← metG_set l0 (by omega)]
          exact List.map_set.symm
        rw [e3]
        rfl
    · rintro e ⟨y8, rfl⟩
      refine ⟨.im (.int p.1), .im (.int p.2), .im (.int (lastI row p.2 p.1.toNat)), y8, ?_, fun q hq => ?_⟩
      · rw [rngD_len, metG_end (f' := fun j : Nat => (ps.take (k + 1)).any fun p => inP row p j)]
        intro j
        rw [etk, List.any_append]
        congr 1
        show (inP row p j || false) = _
        rw [Bool.or_false, Bool.eq_iff_iff, inP_iff h0, Bool.and_eq_true, decide_eq_true_eq, decide_eq_true_eq]
        omega
      · rw [etk] at hq
        rcases List.mem_append.mp hq with hq | hq
        · exact i1 q hq
        · rw [List.mem_singleton.mp hq]
          exact ⟨⟨h0, h1⟩, hs⟩
  rintro e ⟨y5, y6, y7, y8, rfl, i1⟩
  rw [List.length_map, List.take_length] at i1 ⊢
  refine run_seq (run_if (b := !(((List.range row.length).map fun j : Nat => ps.any fun p => inP row p j).all id)) (eb_not (eb_B (ev_all (ev_var rfl)))) (fun hb => ?_) fun hb => run_next ?_)
  · refine run_ret ev_bl ?_
    show Da.bl _ = Da.bl _
    rw [fB_f]
    intro R
    rw [Bool.not_eq_true', List.all_map, List.all_eq_false] at hb
    obtain ⟨j, hj, e⟩ := hb
    have hj' := List.mem_range.mp hj
    apply e
    show (ps.any fun p => inP row p j) = true
    exact List.any_eq_true.mpr (R.cov j (by omega) (by omega))
  have hcov : ∀ k : Int, 0 ≤ k → k < row.length → ∃ p ∈ ps, inP row p k = true := fun k k0 k1 => by
    rw [Bool.not_eq_false', List.all_map, List.all_eq_true] at hb
    have := hb k.toNat (List.mem_range.mpr (by omega))
    have e : (ps.any fun p => inP row p ((k.toNat : Nat) : Int)) = true := this
    have e2 : ((k.toNat : Nat) : Int) = k := by omega
    rw [e2] at e
    exact List.any_eq_true.mp e
  generalize (blL ((List.range row.length).map fun j : Nat => ps.any fun p => inP row p j)) = met
  refine run_seq (run_for (wk_rng1 (ev_var rfl) (by omega)) (fun k e => ∃ y5 y6 y7 y8, e = [.im (rowD row), .im (rowD ps), .im (intsD zs), .im (.int (row.length : Int)), .mu met, y5, y6, y7, y8] ∧ ∀ i : Nat, i < k → ∀ s, Sd s → (zs.filter fun z => inS (spanT row i s) z).length ≤ 1) ⟨y5, y6, y7, y8, rfl, fun i hi => absurd hi (by omega)⟩ ?_ ?_)
  · rintro k d e hd ⟨y5, y6, y7, y8, rfl, hI⟩
    have hk : k < ((row.length : Int) - 0).toNat := by
      have := (List.getElem?_eq_some_iff.mp hd).1
      rw [rngD_len] at this
      exact this
    rw [rngD_get hk] at hd
    obtain rfl : Da.int ((0 : Int) + (k : Nat)) = d := Option.some.inj hd
    rw [Int.zero_add]
    have hk' : k < row.length := by omega
    refine ⟨_, ts_name, ?_⟩
    refine run_for (ds := intL [1, -1]) (wk_list (ev_new (en_lst (ea_cons ev_int (ea_cons (ev_neg ev_int) ea_nil))))) (fun m e => ∃ y6 y7 y8, e = [.im (rowD row), .im (rowD ps), .im (intsD zs), .im (.int (row.length : Int)), .mu met, .im (.int (k : Nat)), y6, y7, y8] ∧ ∀ s ∈ ([1, -1] : List Int).take m, (zs.filter fun z => inS (spanT row k s) z).length ≤ 1) ⟨y6, y7, y8, rfl, fun s hs => by simp at hs⟩ ?_ ?_
    · rintro m d e hd2 ⟨y6, y7, y8, rfl, hJ⟩
      obtain ⟨s, hs, rfl⟩ := intL_get hd2
      have hsd : Sd s := by
        have := List.mem_of_getElem? hs
        simpa [Sd] using this
      refine ⟨_, ts_name, ?_⟩
      refine run_seq (run_asg (d := .int (lastI row s k)) (ev_call (ds := [rowD row, .int (k : Nat), .int s]) (ea_cons (ev_var rfl) (ea_cons (ev_var rfl) (ea_cons (ev_var rfl) ea_nil))) ⟨row, k, s, rfl, ⟨hk', hn, hsd⟩, rfl⟩) ?_)
      have esum : ∀ xs : List Int, (xs.map fun _ => (1 : Int)).sum = (xs.length : Int) := fun xs => by
        induction xs with
        | nil => rfl
        | cons a r ih =>
          rw [List.map_cons, List.sum_cons, ih, List.length_cons]
          omega
      refine run_if (b := decide ((1 : Int) < ((zs.filter fun z => inS (spanT row k s) z).map fun _ => (1 : Int)).sum)) (eb_test (ev_gt (ev_sumL (ev_new ?_)) ev_int)) (fun hb => ?_) fun hb => run_next ⟨.im (.int s), .im (.int (lastI row s k)), y8, rfl, ?_⟩
      · exact (en_lc (us := [8]) Da.int (fun z => inS (spanT row k s) z) (fun _ => Da.int 1) zs (wk_list (ev_var rfl)) (by simp) (by omega) fun o ho => ⟨_, tc_name, eb_test (ev_chainI rfl rfl (ev_min2 (ev_var rfl) (ev_var rfl)) (ev_var rfl) fun _ => ev_max2 (ev_var rfl) (ev_var rfl)), fun _ => ev_int⟩).is (by rw [List.map_map]; rfl)
      · refine run_ret ev_bl ?_
        show Da.bl _ = Da.bl _
        rw [fB_f]
        intro R
        have := R.ind k hk' s hsd
        have hb' := of_decide_eq_true hb
        rw [esum] at hb'
        omega
      · intro s' hs'
        rw [get_row hs] at hs'
        rcases List.mem_append.mp hs' with hs' | hs'
        · exact hJ s' hs'
        · rw [List.mem_singleton.mp hs']
          have hb' := of_decide_eq_false hb
          rw [esum] at hb'
          omega
    · rintro e ⟨y6, y7, y8, rfl, hJ⟩
      refine ⟨.im (.int (k : Nat)), y6, y7, y8, rfl, fun i hi s hs => ?_⟩
      by_cases e : i = k
      · subst e
        refine hJ s ?_
        rcases hs with rfl | rfl <;> simp
      · exact hI i (by omega) s hs
  · rintro e ⟨y5, y6, y7, y8, rfl, hI⟩
    rw [rngD_len] at hI
    refine run_ret ev_bl ?_
    show Da.bl _ = Da.bl _
    rw [fB_t ⟨hlen', hrng, i1, hcov, fun i hi s hs => hI i (by omega) s hs⟩]
end
end FR

/-! The third law's look, and the law. -/
namespace FR
open PySem L2 Evl
section
variable {K : PySem.W.Frag} {C : CS} {env : En} {te ta tb tc : TE} {row ps : List (Int × Int)} {zs : List Int} {D : Addr} {b : Bool}
theorem ev_isF (A : Fx3 K C) (h : EvE K ta env (fewD C ps zs)) (hb : EvE K tb env (.cls D)) (hk : PySem.W.kitOne K (.ref C.Fewest) (.ref D) = some b) : EvE K (tCB (rIsi K) (tCons ta (tCons tb tNil))) env (.bl b) := ev_isiO h hb A.f.isi hk
theorem ev_lawF (ha : EvE K ta env (rowD row)) (hb : EvE K tb env (rowD ps)) (hc : EvE K tc env (intsD zs)) (hn : row.length ≤ 1000) (hp : ps.length ≤ 3000) (hz : zs.length ≤ 3000) : EvE K (tCall (sp_law_few K C) [] E0 (tCons ta (tCons tb (tCons tc tNil)))) env (.bl (fewB row ps zs)) :=
  ev_call (ds := [rowD row, rowD ps, intsD zs]) (ea_cons ha (ea_cons hb (ea_cons hc ea_nil))) ⟨row, ps, zs, rfl, ⟨hn, hp, hz⟩, rfl⟩
theorem ev_showF (he : EvE K te env (fewD C ps zs)) (ha : EvE K ta env (rowD row)) (hn : row.length ≤ 1000) (hp : ps.length ≤ 3000) (hz : zs.length ≤ 3000) : EvE K (tMeth C.Fewest "shows" (sp_Fewest_shows K C) [] E0 te (tCons ta tNil)) env (.bl (fewB row ps zs)) :=
  ev_meth (es := [rowD row]) he (by decide) (ea_cons ha ea_nil) ⟨row, ps, zs, rfl, ⟨hn, hp, hz⟩, rfl⟩
theorem ev_fewest (ha : EvE K ta env (rowD row)) (ok : Okr row) : EvE K (tCall (sp_fewest K C) [] E0 (tCons ta tNil)) env (fewD C (fewP row) (fewZ row)) :=
  ev_ob (C := C.Fewest) (ns := ["pushes", "stones"]) (dss := [rowL (fewP row), intL (fewZ row)]) (eo_call (es := [rowD row]) (ea_cons ha ea_nil) ⟨row, rfl, ok, rfl, rfl, rfl⟩)
theorem run_law_right (A : Fx3 K C) {ds : List Da} {d : Da} (h : P_law_right ds d) : Run K (t_law_right K C) (ent ds 3) (retD d) := by
  obtain ⟨row, be, rfl, ⟨ok, hbe⟩, rfl⟩ := h
  have hn := ok.few
  refine run_seq (run_asgN (ds := rowL row) (en_listL (ev_var rfl)) (run_fix (i := 2) rfl ?_))
  refine run_seq (run_asgO (C := C.Fewest) (ns := ["pushes", "stones"]) (dss := [rowL (fewP row), intL (fewZ row)]) (eo_call (es := [rowD row]) (ea_cons (ev_var rfl) ea_nil) ⟨row, rfl, ok, rfl, rfl, rfl⟩) ?_)
  have R := few_FwOK row
  have hp : (fewP row).length ≤ 1000 := by
    have := fewL_len row
    unfold fewP
    rw [List.length_map]
    omega
  have hz : (fewZ row).length ≤ 1000 := by
    have := R.len
    omega
  generalize fewP row = ps at R hp
  generalize fewZ row = zs at R hz
  refine run_seq (run_if (b := !true || (!true || !decide (row = row))) (eb_or (eb_not (eb_B (ev_isF (ps := ps) (zs := zs) A (ev_var rfl) ev_cls A.k.a))) fun _ => eb_or (eb_not (eb_B (ev_isF (ps := ps) (zs := zs) A (ev_var rfl) ev_cls A.k.f))) fun _ => eb_test (ev_neRow (ev_var rfl) (ev_var rfl))) (fun z => by simp at z) fun _ => run_next ?_)
  refine run_seq (run_if (b := [false, false, false, false].any id) (eb_B (ev_any (ev_new (en_lst (ea_cons (ev_isF (ps := ps) (zs := zs) A (ev_var rfl) ev_cls A.k.c) (ea_cons (ev_isF (ps := ps) (zs := zs) A (ev_var rfl) ev_cls A.k.h) (ea_cons (ev_isF (ps := ps) (zs := zs) A (ev_var rfl) ev_cls A.k.r) (ea_cons (ev_isF (ps := ps) (zs := zs) A (ev_var rfl) ev_cls A.k.s) ea_nil)))))))) (fun z => by cases z) fun _ => run_next ?_)
  refine run_seq (run_if (b := !true || !true) (eb_or (eb_not (eb_B (ev_call (ds := [intsD zs]) (ea_cons (ev_fz (ps := ps) A.f (ev_var rfl)) ea_nil) ⟨zs, rfl, by omega, rfl⟩))) fun _ => eb_not (eb_B (ev_isiB (n := "list") (ev_fp (ps := ps) (zs := zs) A.f (ev_var rfl)) ev_ty rfl (by decide)))) (fun z => by cases z) fun _ => run_next ?_)
  refine run_seq (run_if (b := !(((ps.filter fun _ => true).map fun _ => (true && (decide ((2 : Int) = 2) && true))).all id)) (eb_not (eb_B (ev_all (ev_new ((en_lc (us := [4]) prD (fun _ => true) (fun _ => Da.bl (true && (decide ((2 : Int) = 2) && true))) ps (wk_list (ev_fp (ps := ps) (zs := zs) A.f (ev_var rfl))) (by simp) (by omega) fun p hpm => ⟨_, tc_name, eb_yes, fun _ => ev_andV (ev_isiB (n := "tuple") (ev_var rfl) ev_ty rfl (by decide)) fun _ => ev_andV (ev_eqI (ev_lenT (ds := [.int p.1, .int p.2]) (ev_var rfl)) ev_int) fun _ => ev_call (ds := [intsD [p.1, p.2]]) (ea_cons (ev_new (en_listT (ds := [.int p.1, .int p.2]) (ev_var rfl))) ea_nil) ⟨[p.1, p.2], rfl, by simp, rfl⟩⟩).is (by simp only [blL, List.map_map]; rfl)))))) (fun z => ?_) fun _ => run_next ?_)
  · exfalso
    rw [Bool.not_eq_true', List.all_map, List.all_eq_false] at z
    obtain ⟨x, _, e⟩ := z
    exact e rfl
  refine run_seq (run_if (b := !true || !decide (true = true)) (eb_or (eb_not (eb_B ((ev_lawF (row := row) (ps := ps) (zs := zs) (ev_var rfl) (ev_fp (ps := ps) (zs := zs) A.f (ev_var rfl)) (ev_fz (ps := ps) A.f (ev_var rfl)) hn (by omega) (by omega)).is (by rw [fB_t R])))) fun _ => eb_test (ev_notBl ((ev_showF (row := row) (ps := ps) (zs := zs) (ev_var rfl) (ev_var rfl) hn (by omega) (by omega)).is (by rw [fB_t R])) ev_bl)) (fun z => by simp at z) fun _ => run_next ?_)
  refine run_seq (run_if (b := !decide (fewB be ps zs = fewB be ps zs)) (eb_test (ev_neB (ev_showF (row := be) (ps := ps) (zs := zs) (ev_var rfl) (ev_var rfl) hbe (by omega) (by omega)) (ev_lawF (row := be) (ps := ps) (zs := zs) (ev_var rfl) (ev_fp (ps := ps) (zs := zs) A.f (ev_var rfl)) (ev_fz (ps := ps) A.f (ev_var rfl)) hbe (by omega) (by omega)))) (fun z => by simp at z) fun _ => run_next ?_)
  have nz : NoAttr K C.Fewest "stones" := A.f.no _ (List.mem_cons_of_mem _ List.mem_cons_self)
  have np : NoAttr K C.Fewest "pushes" := A.f.no _ List.mem_cons_self
  refine run_seq (run_appO (d := .int 0) (i := 3) (k := 1) (dss := [rowL ps, intL zs]) (ds := intL zs) rfl A.f.isi.cls nz (fat1 (by decide)) rfl ev_int (by rw [List.length_map]; omega) ?_)
  refine run_seq (run_if (b := !decide (false = false)) (eb_test (ev_notBl ((ev_showF (row := row) (ps := ps) (zs := zs ++ [(0 : Int)]) ((ev_var rfl).is (by unfold fewD intsD; rw [intL_snoc]; rfl)) (ev_var rfl) hn (by omega) (by rw [List.length_append, List.length_singleton]; omega)).is (by rw [few_longer_z R.len])) ev_bl)) (fun z => by simp at z) fun _ => run_next ?_)
  refine run_seq (run_popO (i := 3) (k := 1) (dss := [rowL ps, intL zs ++ [Da.int 0]]) (ds := intL zs ++ [Da.int 0]) rfl A.f.isi.cls nz (fat1 (by decide)) rfl (by simp) ?_)
  have epop : (intL zs ++ [Da.int 0]).dropLast = intL zs := by simp
  show Run K _ _ _
  rw [epop]
  refine run_seq (run_appO (d := prD (0, 1)) (i := 3) (k := 0) (dss := [rowL ps, intL zs]) (ds := rowL ps) rfl A.f.isi.cls np fat0 rfl (ev_tup (ea_cons ev_int (ea_cons ev_int ea_nil))) (by rw [List.length_map]; omega) ?_)
  refine run_retF (d := .bl (decide (false = false) && decide (row = row))) (ev_andV (ev_isBl ((ev_showF (row := row) (ps := ps ++ [((0 : Int), (1 : Int))]) (zs := zs) ((ev_var rfl).is (by unfold fewD rowD; rw [rowL_snoc]; rfl)) (ev_var rfl) hn (by rw [List.length_append, List.length_singleton]; omega) (by omega)).is (by rw [few_longer_p R.len])) ev_bl) fun _ => ev_eqRow (ev_var rfl) (ev_var rfl)) rfl (by simp [retD])
theorem run_law (A : Fx3 K C) {ds : List Da} {d : Da} (h : P_law ds d) : Run K (t_law K C) (ent ds 6) (retD d) := by
  obtain ⟨ns, rfl, hn, rfl⟩ := h
  have ok := lrow_ok hn
  have hl : (lrow ns).length ≤ 63 := by
    rw [lrow_len]
    exact hn
  refine run_seq (run_asgN (ds := rowL (lrow ns)) (en_call (ds := [.sq (intL ns)]) (ea_cons (ev_var rfl) ea_nil) ⟨ns, rfl, hn, rfl⟩) (run_fix (i := 1) rfl ?_))
  generalize lrow ns = row at ok hl
  have hmx : 0 < mx 1 (row.length : Int) := by
    unfold mx
    split <;> omega
  refine run_seq (run_asg (d := .int (ns.sum / 3 % mx 1 (row.length : Int))) (ev_mod (ev_div (ev_sumQ (ev_var rfl)) ev_int ⟨by decide, by decide⟩) (ev_max2 ev_int (ev_lenR (ev_var rfl))) hmx) ?_)
  have hat : 0 ≤ ns.sum / 3 % mx 1 (row.length : Int) := Int.emod_nonneg _ (by omega)
  generalize ns.sum / 3 % mx 1 (row.length : Int) = at' at hat
  obtain ⟨ys, hy, ey⟩ := cutD_mid prD row hat
  refine run_seq (run_asgN (ds := rowL (row.take at'.toNat ++ ys.map (fun p => (p.1, p.2 + 1 + ns.sum % 5)) ++ row.drop (at' + 1).toNat)) ((en_cat (ds := rowL (row.take at'.toNat) ++ rowL (ys.map fun p => (p.1, p.2 + 1 + ns.sum % 5))) (es := rowL (row.drop (at' + 1).toNat)) (ev_new (en_cat (ev_new ?_) (ev_new ?_) ?_)) (ev_new ?_) ?_).is (by unfold rowL; rw [List.map_append, List.map_append])) (run_fix (i := 3) rfl ?_))
  · exact (en_slL (ev_var rfl) eo_none (eo_some (ev_var rfl))).is (cutD_to prD row hat)
  · exact (en_lc (us := [5, 6]) prD (fun _ => true) (fun p => prD (p.1, p.2 + 1 + ns.sum % 5)) ys (wk_list (ev_new ((en_slL (ev_var rfl) (eo_some (ev_var rfl)) (eo_some (ev_add (ev_var rfl) ev_int))).is ey))) (by simp) (by omega) fun p hp => ⟨_, tc_tup2 tc_name tc_name, eb_yes, fun _ => ev_tup (ea_cons (ev_var rfl) (ea_cons (ev_add (ev_add (ev_var rfl) ev_int) (ev_mod (ev_sumQ (ev_var rfl)) ev_int (by decide))) ea_nil))⟩).is (by
      unfold rowL
      rw [List.map_map, List.filter_eq_self.mpr fun _ _ => rfl]
      rfl)
  · rw [List.length_map, List.length_map, List.length_map, List.length_take]
    omega
  · exact (en_slL (ev_var rfl) (eo_some (ev_add (ev_var rfl) ev_int)) eo_none).is (cutD_fr prD row (by omega))
  · rw [List.length_append, List.length_map, List.length_map, List.length_map, List.length_map, List.length_take, List.length_drop]
    omega
  have hnear : (row.take at'.toNat ++ ys.map (fun p => (p.1, p.2 + 1 + ns.sum % 5)) ++ row.drop (at' + 1).toNat).length ≤ 1000 := by
    rw [List.length_append, List.length_append, List.length_map, List.length_take, List.length_drop]
    omega
  generalize row.take at'.toNat ++ ys.map (fun p => (p.1, p.2 + 1 + ns.sum % 5)) ++ row.drop (at' + 1).toNat = near at hnear
  refine run_seq (run_asgN (ds := rowL (mir row)) ?_ (run_fix (i := 4) rfl ?_))
  · refine (en_lc (us := [5, 6]) prD (fun _ => true) (fun p => prD (-p.1, p.2)) row.reverse ?_ (by simp) (by rw [List.length_reverse]; omega) fun p hp => ⟨_, tc_tup2 tc_name tc_name, eb_yes, fun _ => ?_⟩).is ?_
    · rw [List.map_reverse]
      exact wk_list (ev_new (en_rev (ev_var rfl)))
    · exact ev_tup (ea_cons (ev_neg (ev_var rfl)) (ea_cons (ev_var rfl) ea_nil))
    · unfold mir rowL
      rw [List.map_map, List.filter_eq_self.mpr fun _ _ => rfl]
      rfl
  have h2 := ev2_len row
  refine run_seq (run_if (b := !true || (!true || !true)) (eb_or (eb_not (eb_B (ev_call (ds := [rowD row, rowD near]) (ea_cons (ev_var rfl) (ea_cons (ev_var rfl) ea_nil)) ⟨row, near, rfl, ⟨ok, hnear⟩, rfl⟩))) fun _ => eb_or (eb_not (eb_B (ev_call (ds := [rowD (ev2 (row.drop 1)), rowD (ev2 row)]) (ea_cons (ev_new ((en_sl2 (k := 1) (ev_var rfl) (eo_some ev_int) (.inr rfl)).is (by unfold rowL; rw [← List.map_drop]; exact ev2_map _ _))) (ea_cons (ev_new ((en_sl2 (k := 0) (ev_var rfl) eo_none (.inl ⟨rfl, rfl⟩)).is (by rw [List.drop_zero]; exact ev2_map _ _))) ea_nil)) ⟨ev2 (row.drop 1), ev2 row, rfl, ⟨ev2_ok (drop_ok ok 1), by omega⟩, rfl⟩))) fun _ => eb_not (eb_B (ev_call (ds := [rowD ((mir row).take 9), rowD (near.take 9)]) (ea_cons (ev_new ((en_slL (ev_var rfl) eo_none (eo_some ev_int)).is (cutD_to prD (mir row) (z := 9) (by decide)))) (ea_cons (ev_new ((en_slL (ev_var rfl) eo_none (eo_some ev_int)).is (cutD_to prD near (z := 9) (by decide)))) ea_nil)) ⟨(mir row).take 9, near.take 9, rfl, ⟨take_ok (mir_ok ok) 9, by rw [List.length_take]; omega⟩, rfl⟩))) (fun z => by cases z) fun _ => run_next ?_)
  refine run_ret (d := .bl (decide (((fewZ row).length : Int) = ((fewZ (mir row)).length : Int)))) (ev_eqI (ev_lenI (ev_fz A.f (ev_fewest (row := row) (ev_var rfl) ok))) (ev_lenI (ev_fz A.f (ev_fewest (row := mir row) (ev_var rfl) (mir_ok ok))))) ?_
  show Da.bl _ = Da.bl _
  rw [decide_eq_true (by rw [few_same row])]
end
section
variable {K : PySem.W.Frag} {C : CS} {vs : List V} {H : Hp} {Q : VK} {E : XK}
theorem lenP_Fewest_shows {ds : List Da} {d : Da} (h : P_Fewest_shows C ds d) : ds.length = 2 := by
  unfold P_Fewest_shows at h
  repeat (rcases h with ⟨z, h⟩; first | (subst z; rfl) | skip)
theorem len_Fewest_shows (h : sp_Fewest_shows K C vs H Q E) : vs.length = 2 := len_P (m := 2) (fun _ _ p => lenP_Fewest_shows p) h
theorem pure_Fewest_shows (A : FxF K C) (h : sp_Fewest_shows K C vs H Q E) : t_Fewest_shows K C { nx := fun _ H' => Q .non H', rt := Q } (start ["self", "row", "many", "felled", "stone", "side", "one", "last", "low", "high"] vs) H := fnP_of 8 (fun _ _ p => by rw [lenP_Fewest_shows p] <;> rfl) (fun _ _ p => run_Fewest_shows A p) h
theorem lenP_law_few {ds : List Da} {d : Da} (h : P_law_few ds d) : ds.length = 3 := by
  unfold P_law_few at h
  repeat (rcases h with ⟨z, h⟩; first | (subst z; rfl) | skip)
theorem len_law_few (h : sp_law_few K C vs H Q E) : vs.length = 3 := len_P (m := 3) (fun _ _ p => lenP_law_few p) h
theorem pure_law_few (h : sp_law_few K C vs H Q E) : t_law_few K C { nx := fun _ H' => Q .non H', rt := Q } (start ["_law_row_here", "_law_pushes", "_law_stones", "_law_many", "_law_met", "_law_stone", "_law_side", "_law_end", "_law_one"] vs) H := fnP_of 6 (fun _ _ p => by rw [lenP_law_few p] <;> rfl) (fun _ _ p => run_law_few p) h
theorem lenP_law_right {ds : List Da} {d : Da} (h : P_law_right ds d) : ds.length = 2 := by
  unfold P_law_right at h
  repeat (rcases h with ⟨z, h⟩; first | (subst z; rfl) | skip)
theorem len_law_right (h : sp_law_right K C vs H Q E) : vs.length = 2 := len_P (m := 2) (fun _ _ p => lenP_law_right p) h
theorem pure_law_right (A : Fx3 K C) (h : sp_law_right K C vs H Q E) : t_law_right K C { nx := fun _ H' => Q .non H', rt := Q } (start ["_law_row_here", "_law_beside", "_law_handed", "_law_found", "_law_push"] vs) H := fnP_of 3 (fun _ _ p => by rw [lenP_law_right p] <;> rfl) (fun _ _ p => run_law_right A p) h
theorem lenP_law {ds : List Da} {d : Da} (h : P_law ds d) : ds.length = 1 := by
  unfold P_law at h
  repeat (rcases h with ⟨z, h⟩; first | (subst z; rfl) | skip)
theorem len_law (h : sp_law K C vs H Q E) : vs.length = 1 := len_P (m := 1) (fun _ _ p => lenP_law p) h
theorem pure_law (A : Fx3 K C) (h : sp_law K C vs H Q E) : t_law K C { nx := fun _ H' => Q .non H', rt := Q } (start ["_law_script", "_law_row_here", "_law_at", "_law_near", "_law_turned", "_law_place", "_law_height"] vs) H := fnP_of 6 (fun _ _ p => by rw [lenP_law p] <;> rfl) (fun _ _ p => run_law A p) h
end
end FR

namespace FR
open PySem L2 Evl
open PySem.Spec PyProof.Rows
def topS (i : Nat) : Stmt := PySem.Challenge.pw_fallrow_k03_whole_fewest.main.body.getD i (.Pass ⟨0, 0, 0, 0⟩)
abbrev s_is_number : Stmt := topS 4
abbrev s_is_pair : Stmt := topS 5
abbrev s_check_row : Stmt := topS 6
abbrev s_last_felled : Stmt := topS 7
abbrev s_felled_by : Stmt := topS 8
abbrev s_Fewest_init : Stmt := inClass (topS 13) 0
abbrev s_Fewest_shows : Stmt := inClass (topS 13) 1
abbrev s_spans_of : Stmt := topS 18
abbrev s_fewest : Stmt := topS 19
abbrev s_law_row : Stmt := topS 21
abbrev s_law_numbers : Stmt := topS 22
abbrev s_law_felled : Stmt := topS 23
abbrev s_law_few : Stmt := topS 24
abbrev s_law_right : Stmt := topS 25
abbrev s_law : Stmt := topS 26
theorem sc_is_number : FnScope ["thing"] ["thing"] (defScope s_is_number) := ⟨rfl, rfl, rfl, by decide +kernel, rfl, by decide +kernel, by decide +kernel⟩
theorem sc_is_pair : FnScope ["thing"] ["thing"] (defScope s_is_pair) := ⟨rfl, rfl, rfl, by decide +kernel, rfl, by decide +kernel, by decide +kernel⟩
theorem sc_check_row : FnScope ["row", "stone", "at"] ["row"] (defScope s_check_row) := ⟨rfl, rfl, rfl, by decide +kernel, rfl, by decide +kernel, by decide +kernel⟩
theorem sc_last_felled : FnScope ["row", "stone", "side", "far", "last"] ["row", "stone", "side"] (defScope s_last_felled) := ⟨rfl, rfl, rfl, by decide +kernel, rfl, by decide +kernel, by decide +kernel⟩
theorem sc_felled_by : FnScope ["row", "stone", "side", "last"] ["row", "stone", "side"] (defScope s_felled_by) := ⟨rfl, rfl, rfl, by decide +kernel, rfl, by decide +kernel, by decide +kernel⟩
theorem sc_Fewest_init : FnScope ["self", "pushes", "stones"] ["self", "pushes", "stones"] (defScope s_Fewest_init) := ⟨rfl, rfl, rfl, by decide +kernel, rfl, by decide +kernel, by decide +kernel⟩
theorem sc_Fewest_shows : FnScope ["self", "row", "many", "felled", "stone", "side", "one", "last", "low", "high"] ["self", "row"] (defScope s_Fewest_shows) := ⟨rfl, rfl, rfl, by decide +kernel, rfl, by decide +kernel, by decide +kernel⟩
theorem sc_spans_of : FnScope ["row", "found", "stone", "side", "last"] ["row"] (defScope s_spans_of) := ⟨rfl, rfl, rfl, by decide +kernel, rfl, by decide +kernel, by decide +kernel⟩
theorem sc_fewest : FnScope ["row", "spans", "pushes", "stones", "stone", "end", "push", "first", "last"] ["row"] (defScope s_fewest) := ⟨rfl, rfl, rfl, by decide +kernel, rfl, by decide +kernel, by decide +kernel⟩
theorem sc_law_row : FnScope ["_law_script", "_law_code", "_law_apart", "_law_high", "_law_place", "_law_found", "_law_cell"] ["_law_script"] (defScope s_law_row) := ⟨rfl, rfl, rfl, by decide +kernel, rfl, by decide +kernel, by decide +kernel⟩
theorem sc_law_numbers : FnScope ["_law_found", "_law_one"] ["_law_found"] (defScope s_law_numbers) := ⟨rfl, rfl, rfl, by decide +kernel, rfl, by decide +kernel, by decide +kernel⟩
theorem sc_law_felled : FnScope ["_law_row_here", "_law_stone", "_law_side", "_law_reach", "_law_at", "_law_other", "_law_place", "_law_height"] ["_law_row_here", "_law_stone", "_law_side"] (defScope s_law_felled) := ⟨rfl, rfl, rfl, by decide +kernel, rfl, by decide +kernel, by decide +kernel⟩
theorem sc_law_few : FnScope ["_law_row_here", "_law_pushes", "_law_stones", "_law_many", "_law_met", "_law_stone", "_law_side", "_law_end", "_law_one"] ["_law_row_here", "_law_pushes", "_law_stones"] (defScope s_law_few) := ⟨rfl, rfl, rfl, by decide +kernel, rfl, by decide +kernel, by decide +kernel⟩
theorem sc_law_right : FnScope ["_law_row_here", "_law_beside", "_law_handed", "_law_found", "_law_push"] ["_law_row_here", "_law_beside"] (defScope s_law_right) := ⟨rfl, rfl, rfl, by decide +kernel, rfl, by decide +kernel, by decide +kernel⟩
theorem sc_law : FnScope ["_law_script", "_law_row_here", "_law_at", "_law_near", "_law_turned", "_law_place", "_law_height"] ["_law_script"] (defScope s_law) := ⟨rfl, rfl, rfl, by decide +kernel, rfl, by decide +kernel, by decide +kernel⟩
structure Txt (w : World) (K : PySem.W.Frag) (mg : Str → Option Value) (C : CS) : Prop where
  hw : w = C.w
  b_all : mg "all" = none
  b_any : mg "any" = none
  b_bool : mg "bool" = none
  b_int : mg "int" = none
  b_isinstance : mg "isinstance" = none
  b_len : mg "len" = none
  b_list : mg "list" = none
  b_max : mg "max" = none
  b_min : mg "min" = none
  b_range : mg "range" = none
  b_sum : mg "sum" = none
  b_tuple : mg "tuple" = none
  g_Answer : mg "Answer" = some (.ref C.Answer)
  g_Chain : mg "Chain" = some (.ref C.Chain)
  g_Fewest : mg "Fewest" = some (.ref C.Fewest)
  g_Higher : mg "Higher" = some (.ref C.Higher)
  g_Rights : mg "Rights" = some (.ref C.Rights)
  g_Stands : mg "Stands" = some (.ref C.Stands)
  f_Fewest : Fx1 K C.Fewest ["pushes", "stones"]
  kt_Fewest : Kits K C.Fewest C true false false true false false
section
variable {P : Program} {w : World} {K : PySem.W.Frag} {mg : Str → Option Value} {base : Heap} {C : CS}
theorem ok_is_number {f : Addr} {fd : FuncData} (F : Fun K "is_number" "is_number" s_is_number f fd) (T : Txt w K mg C) : FnOk P w K mg base CX0 1 f fd ["thing"] (sp_is_number K C) := by
  obtain rfl := T.hw
  refine F.ok sc_is_number (fun vs H Q E h => len_is_number h) (fun cdv A outer s H vs Q E hr h => ⟨t_is_number K C, ?_, pure_is_number h⟩)
  exact (pss_one (ps_ret (pe_and (pe_callB call_isi (by rfl) T.b_isinstance (by decide +kernel) (pa_cons (pv 0) (pa_cons (pe_bltn (v := .ty "int") (by rfl) T.b_int (by decide +kernel) rfl) pa_nil))) (pe_one (pe_not (pe_callB call_isi (by rfl) T.b_isinstance (by decide +kernel) (pa_cons (pv 0) (pa_cons (pe_bltn (v := .ty "bool") (by rfl) T.b_bool (by decide +kernel) rfl) pa_nil))))))))
theorem ok_is_pair {f : Addr} {fd : FuncData} (F : Fun K "is_pair" "is_pair" s_is_pair f fd) (T : Txt w K mg C) (g_is_number : Cal P w K mg base CX0 1 "is_number" ["thing"] (sp_is_number K C)) : FnOk P w K mg base CX0 2 f fd ["thing"] (sp_is_pair K C) := by
  obtain rfl := T.hw
  refine F.ok sc_is_pair (fun vs H Q E h => len_is_pair h) (fun cdv A outer s H vs Q E hr h => ⟨t_is_pair K C, ?_, pure_is_pair h⟩)
  exact (pss_one (ps_ret (pe_and (pe_callB call_isi (by rfl) T.b_isinstance (by decide +kernel) (pa_cons (pv 0) (pa_cons (pe_bltn (v := .ty "tuple") (by rfl) T.b_tuple (by decide +kernel) rfl) pa_nil))) (pe_and (pe_cmpR op_eq (pe_callB call_len_seq (by rfl) T.b_len (by decide +kernel) (pa_cons (pv 0) pa_nil)) pe_int (nomark _)) (pe_and (pe_cal g_is_number (hr.mono (by decide)) (by rfl) pass0 (pa_cons (pe_ix ix_tup (pv 0) pe_int (fun _ _ => rfl)) pa_nil)) (pe_one (pe_cal g_is_number (hr.mono (by decide)) (by rfl) pass0 (pa_cons (pe_ix ix_tup (pv 0) pe_int (fun _ _ => rfl)) pa_nil))))))))
theorem ok_check_row {f : Addr} {fd : FuncData} (F : Fun K "check_row" "check_row" s_check_row f fd) (T : Txt w K mg C) (g_is_pair : Cal P w K mg base CX0 2 "is_pair" ["thing"] (sp_is_pair K C)) : FnOk P w K mg base CX0 3 f fd ["row"] (sp_check_row K C) := by
  obtain rfl := T.hw
  refine F.ok sc_check_row (fun vs H Q E h => len_check_row h) (fun cdv A outer s H vs Q E hr h => ⟨t_check_row K C, ?_, pure_check_row h⟩)
  exact (pss_cons (ps_if (PW.pt (pw_or (pt_not (pt_val (pe_callB call_isi (by rfl) T.b_isinstance (by decide +kernel) (pa_cons (pv 0) (pa_cons (pe_bltn (v := .ty "list") (by rfl) T.b_list (by decide +kernel) rfl) pa_nil))))) (pw_or1 (pt_not (pt_val (pe_callB (cr_all rfl) (by rfl) T.b_all (by decide +kernel) (pa_cons (pe_lc (own := [("stone", 1)]) (g := (gName 1)) (tt := tYes) (by rfl) sc_check_row.nd (pi_list (pv 0)) (blkOk_by (own := [("stone", 1)]) (N := ["row", "stone", "at"]) (sc := defScope s_check_row) (by decide +kernel)) (fun _ _ _ _ _ => (pg_name (i := 1) sc_check_row.nd rfl (.inl rfl))) (fun _ _ _ _ _ => pts_nil) (fun _ _ _ _ _ => (pe_and (pe_cal g_is_pair (hr.mono (by decide)) (by rfl) pass0 (pa_cons (pv 1) pa_nil)) (pe_one (pe_cmpR op_gt (pe_ix ix_tup (pv 1) pe_int (fun _ _ => rfl)) pe_int (nomark _)))))) pa_nil))))))) (pss_one ps_never) pss_nil) (pss_one (ps_if (pt_not (pt_val (pe_callB (cr_all rfl) (by rfl) T.b_all (by decide +kernel) (pa_cons (pe_lc (own := [("at", 2)]) (g := (gName 2)) (tt := tYes) (by rfl) sc_check_row.nd (pi_range2 rfl T.b_range (pa_cons pe_int (pa_cons (pe_callB call_len_seq (by rfl) T.b_len (by decide +kernel) (pa_cons (pv 0) pa_nil)) pa_nil))) (blkOk_by (own := [("at", 2)]) (N := ["row", "stone", "at"]) (sc := defScope s_check_row) (by decide +kernel)) (fun _ _ _ _ _ => (pg_name (i := 2) sc_check_row.nd rfl (.inl rfl))) (fun _ _ _ _ _ => pts_nil) (fun _ _ _ _ _ => (pe_cmpR op_lt (pe_ix ix_tup (pe_ix ix_list (pv 0) (pe_op op_sub (pv 2) pe_int) (fun _ _ => rfl)) pe_int (fun _ _ => rfl)) (pe_ix ix_tup (pe_ix ix_list (pv 0) (pv 2) (fun _ _ => rfl)) pe_int (fun _ _ => rfl)) (nomark _)))) pa_nil)))) (pss_one ps_never) pss_nil)))
theorem ok_last_felled {f : Addr} {fd : FuncData} (F : Fun K "last_felled" "last_felled" s_last_felled f fd) (T : Txt w K mg C) : FnOk P w K mg base CX0 1 f fd ["row", "stone", "side"] (sp_last_felled K C) := by
  obtain rfl := T.hw
  refine F.ok sc_last_felled (fun vs H Q E h => len_last_felled h) (fun cdv A outer s H vs Q E hr h => ⟨t_last_felled K C, ?_, pure_last_felled h⟩)
  exact (pss_cons (ps_set (i := 3) sc_last_felled.nd rfl (.inl rfl) (pe_op op_add (pe_op op_mul (pv 2) (pe_ix ix_tup (pe_ix ix_list (pv 0) (pv 1) (fun _ _ => rfl)) pe_int (fun _ _ => rfl))) (pe_ix ix_tup (pe_ix ix_list (pv 0) (pv 1) (fun _ _ => rfl)) pe_int (fun _ _ => rfl)))) (pss_cons (ps_set (i := 4) sc_last_felled.nd rfl (.inl rfl) (pv 1)) (pss_cons (ps_while PassesOwn.never (PW.pt (pw_and (pt_chain op_le op_lt pe_int (pe_op op_add (pv 4) (pv 2)) (pe_callB call_len_seq (by rfl) T.b_len (by decide +kernel) (pa_cons (pv 0) pa_nil))) (pw_and1 (pt_cmpR op_le (pe_op op_mul (pv 2) (pe_ix ix_tup (pe_ix ix_list (pv 0) (pe_op op_add (pv 4) (pv 2)) (fun _ _ => rfl)) pe_int (fun _ _ => rfl))) (pv 3) (nomark _))))) (pss_cons (ps_aug (i := 4) sc_last_felled.nd rfl (.inl rfl) (pv 2) ip_add) (pss_one (ps_set (i := 3) sc_last_felled.nd rfl (.inl rfl) (pe_callB (call_max2 rfl) (by rfl) T.b_max (by decide +kernel) (pa_cons (pv 3) (pa_cons (pe_op op_add (pe_op op_mul (pv 2) (pe_ix ix_tup (pe_ix ix_list (pv 0) (pv 4) (fun _ _ => rfl)) pe_int (fun _ _ => rfl))) (pe_ix ix_tup (pe_ix ix_list (pv 0) (pv 4) (fun _ _ => rfl)) pe_int (fun _ _ => rfl))) pa_nil))))))) (pss_one (ps_ret (pe_tup (pa_cons (pv 4) (pa_cons (pv 3) pa_nil))))))))
theorem ok_felled_by {f : Addr} {fd : FuncData} (F : Fun K "felled_by" "felled_by" s_felled_by f fd) (T : Txt w K mg C) (g_last_felled : Cal P w K mg base CX0 1 "last_felled" ["row", "stone", "side"] (sp_last_felled K C)) : FnOk P w K mg base CX0 2 f fd ["row", "stone", "side"] (sp_felled_by K C) := by
  obtain rfl := T.hw
  refine F.ok sc_felled_by (fun vs H Q E h => len_felled_by h) (fun cdv A outer s H vs Q E hr h => ⟨t_felled_by K C, ?_, pure_felled_by h⟩)
  exact (pss_cons (ps_set (i := 3) sc_felled_by.nd rfl (.inl rfl) (pe_ix ix_tup (pe_cal g_last_felled (hr.mono (by decide)) (by rfl) pass0 (pa_cons (pv 0) (pa_cons (pv 1) (pa_cons (pv 2) pa_nil)))) pe_int (fun _ _ => rfl))) (pss_one (ps_ret (pe_listRg (by rfl) (by rfl) T.b_list (prg_2 (by rfl) T.b_range (pe_callB (call_min2 rfl) (by rfl) T.b_min (by decide +kernel) (pa_cons (pv 1) (pa_cons (pv 3) pa_nil))) (pe_op op_add (pe_callB (call_max2 rfl) (by rfl) T.b_max (by decide +kernel) (pa_cons (pv 1) (pa_cons (pv 3) pa_nil))) pe_int))))))
theorem ok_Fewest_init {f : Addr} {fd : FuncData} (F : Fun K "__init__" "Fewest.__init__" s_Fewest_init f fd) (T : Txt w K mg C) : FnOk P w K mg base CX0 1 f fd ["self", "pushes", "stones"] (sp_Fewest_init K C) := by
  obtain rfl := T.hw
  refine F.ok sc_Fewest_init (fun vs H Q E h => len_Fewest_init h) (fun cdv A outer s H vs Q E hr h => ⟨t_Fewest_init K C, ?_, pure_Fewest_init T.f_Fewest h⟩)
  exact (pss_cons (ps_fld (pv 0) (pe_callTy call_list_of (by rfl) T.b_list (by decide +kernel) (pa_cons (pv 1) pa_nil)) rfl) (pss_one (ps_fld (pv 0) (pe_callTy call_list_of (by rfl) T.b_list (by decide +kernel) (pa_cons (pv 2) pa_nil)) rfl)))
theorem ok_Fewest_shows {f : Addr} {fd : FuncData} (F : Fun K "shows" "Fewest.shows" s_Fewest_shows f fd) (T : Txt w K mg C) (g_felled_by : Cal P w K mg base CX0 2 "felled_by" ["row", "stone", "side"] (sp_felled_by K C)) (g_last_felled : Cal P w K mg base CX0 1 "last_felled" ["row", "stone", "side"] (sp_last_felled K C)) : FnOk P w K mg base CX0 3 f fd ["self", "row"] (sp_Fewest_shows K C) := by
  obtain rfl := T.hw
  refine F.ok sc_Fewest_shows (fun vs H Q E h => len_Fewest_shows h) (fun cdv A outer s H vs Q E hr h => ⟨t_Fewest_shows K C, ?_, pure_Fewest_shows T.f_Fewest h⟩)
  exact (pss_cons (ps_set (i := 2) sc_Fewest_shows.nd rfl (.inr rfl) (pe_callB call_len_seq (by rfl) T.b_len (by decide +kernel) (pa_cons (pv 1) pa_nil))) (pss_cons (ps_if (PW.pt (pw_or (pt_cmpR op_ne (pe_callB call_len_seq (by rfl) T.b_len (by decide +kernel) (pa_cons (pe_fld (pv 0) rfl) pa_nil)) (pe_callB call_len_seq (by rfl) T.b_len (by decide +kernel) (pa_cons (pe_fld (pv 0) rfl) pa_nil)) (nomark _)) (pw_or1 (pt_not (pt_val (pe_callB (cr_all rfl) (by rfl) T.b_all (by decide +kernel) (pa_cons (pe_lc (own := [("stone", 4)]) (g := (gName 4)) (tt := tYes) (by rfl) sc_Fewest_shows.nd (pi_list (pe_fld (pv 0) rfl)) (blkOk_by (own := [("stone", 4)]) (N := ["self", "row", "many", "felled", "stone", "side", "one", "last", "low", "high"]) (sc := defScope s_Fewest_shows) (by decide +kernel)) (fun _ _ _ _ _ => (pg_name (i := 4) sc_Fewest_shows.nd rfl (.inl rfl))) (fun _ _ _ _ _ => pts_nil) (fun _ _ _ _ _ => (pe_chain op_le op_lt pe_int (pv 4) (pv 2)))) pa_nil))))))) (pss_one (ps_ret pe_bl)) pss_nil) (pss_cons (ps_set (i := 3) sc_Fewest_shows.nd rfl (.inl rfl) pe_dnewK) (pss_cons (ps_for PassesOwn.never rfl (pi_list (pe_fld (pv 0) rfl)) (pg_tup rfl (pgs_cons (pg_name (i := 4) sc_Fewest_shows.nd rfl (.inl rfl)) (pgs_cons (pg_name (i := 5) sc_Fewest_shows.nd rfl (.inl rfl)) pgs_nil))) (pss_cons (ps_if (PW.pt (pw_or (pt_not (pt_chain op_le op_lt pe_int (pv 4) (pv 2))) (pw_or1 (pt_cmpR op_notIn_seq (pv 5) (pe_tup (pa_cons pe_int (pa_cons (pe_un un_neg pe_int) pa_nil))) (by rfl))))) (pss_one (ps_ret pe_bl)) pss_nil) (pss_one (ps_for PassesOwn.never rfl (pi_list (pe_cal g_felled_by (hr.mono (by decide)) (by rfl) pass0 (pa_cons (pv 1) (pa_cons (pv 4) (pa_cons (pv 5) pa_nil))))) (pg_name (i := 6) sc_Fewest_shows.nd rfl (.inl rfl)) (pss_one (ps_dput (hu_of hr) (pv 3) (pv 6) pe_bl rfl)))))) (pss_cons (ps_if (pt_cmpR op_lt (pe_callB call_lenD (by rfl) T.b_len (by decide +kernel) (pa_cons (pv 3) pa_nil)) (pv 2) (nomark _)) (pss_one (ps_ret pe_bl)) pss_nil) (pss_cons (ps_for PassesOwn.never rfl (pi_range1 rfl T.b_range (pa_cons (pv 2) pa_nil)) (pg_name (i := 4) sc_Fewest_shows.nd rfl (.inl rfl)) (pss_one (ps_for PassesOwn.never rfl (pi_tup (pe_tup (pa_cons pe_int (pa_cons (pe_un un_neg pe_int) pa_nil)))) (pg_name (i := 5) sc_Fewest_shows.nd rfl (.inl rfl)) (pss_cons (ps_set (i := 7) sc_Fewest_shows.nd rfl (.inl rfl) (pe_ix ix_tup (pe_cal g_last_felled (hr.mono (by decide)) (by rfl) pass0 (pa_cons (pv 1) (pa_cons (pv 4) (pa_cons (pv 5) pa_nil)))) pe_int (fun _ _ => rfl))) (pss_cons (ps_asg (pe_tup (pa_cons (pe_callB (call_min2 rfl) (by rfl) T.b_min (by decide +kernel) (pa_cons (pv 4) (pa_cons (pv 7) pa_nil))) (pa_cons (pe_callB (call_max2 rfl) (by rfl) T.b_max (by decide +kernel) (pa_cons (pv 4) (pa_cons (pv 7) pa_nil))) pa_nil))) (pg_tup rfl (pgs_cons (pg_name (i := 8) sc_Fewest_shows.nd rfl (.inr rfl)) (pgs_cons (pg_name (i := 9) sc_Fewest_shows.nd rfl (.inr rfl)) pgs_nil)))) (pss_one (ps_if (pt_cmpR op_gt (pe_callB call_len_seq (by rfl) T.b_len (by decide +kernel) (pa_cons (pe_lc (own := [("one", 6)]) (g := (gName 6)) (tt := (tTest (tChain rLeI rLeI (tVar 8) (tVar 6) (tVar 9)))) (by rfl) sc_Fewest_shows.nd (pi_list (pe_fld (pv 0) rfl)) (blkOk_by (own := [("one", 6)]) (N := ["self", "row", "many", "felled", "stone", "side", "one", "last", "low", "high"]) (sc := defScope s_Fewest_shows) (by decide +kernel)) (fun _ _ _ _ _ => (pg_name (i := 6) sc_Fewest_shows.nd rfl (.inl rfl))) (fun _ _ _ _ _ => (pts_one (pt_chain op_le op_le (pv 8) (pv 6) (pv 9)))) (fun _ _ _ _ _ => (pv 6))) pa_nil)) pe_int (nomark _)) (pss_one (ps_ret pe_bl)) pss_nil))))))) (pss_one (ps_ret pe_bl))))))))
theorem ok_spans_of {f : Addr} {fd : FuncData} (F : Fun K "spans_of" "spans_of" s_spans_of f fd) (T : Txt w K mg C) (g_last_felled : Cal P w K mg base CX0 1 "last_felled" ["row", "stone", "side"] (sp_last_felled K C)) : FnOk P w K mg base CX0 2 f fd ["row"] (sp_spans_of K C) := by
  obtain rfl := T.hw
  refine F.ok sc_spans_of (fun vs H Q E h => len_spans_of h) (fun cdv A outer s H vs Q E hr h => ⟨t_spans_of K C, ?_, pure_spans_of h⟩)
  exact (pss_cons (ps_set (i := 1) sc_spans_of.nd rfl (.inl rfl) (pe_lst pa_nil)) (pss_cons (ps_for PassesOwn.never rfl (pi_range1 rfl T.b_range (pa_cons (pe_callB call_len_seq (by rfl) T.b_len (by decide +kernel) (pa_cons (pv 0) pa_nil)) pa_nil)) (pg_name (i := 2) sc_spans_of.nd rfl (.inl rfl)) (pss_one (ps_for PassesOwn.never rfl (pi_tup (pe_tup (pa_cons pe_int (pa_cons (pe_un un_neg pe_int) pa_nil)))) (pg_name (i := 3) sc_spans_of.nd rfl (.inl rfl)) (pss_cons (ps_set (i := 4) sc_spans_of.nd rfl (.inl rfl) (pe_ix ix_tup (pe_cal g_last_felled (hr.mono (by decide)) (by rfl) pass0 (pa_cons (pv 0) (pa_cons (pv 2) (pa_cons (pv 3) pa_nil)))) pe_int (fun _ _ => rfl))) (pss_one (ps_expr (pe_bm PySem.F.plainAttrs_list PySem.F.slot_list_append PySem.F.type_list_append mt_append (pv 1) (pa_cons (pe_tup (pa_cons (pe_callB (call_min2 rfl) (by rfl) T.b_min (by decide +kernel) (pa_cons (pv 2) (pa_cons (pv 4) pa_nil))) (pa_cons (pe_callB (call_max2 rfl) (by rfl) T.b_max (by decide +kernel) (pa_cons (pv 2) (pa_cons (pv 4) pa_nil))) (pa_cons (pe_tup (pa_cons (pv 2) (pa_cons (pv 3) pa_nil))) pa_nil)))) pa_nil)))))))) (pss_one (ps_ret (pv 1)))))
theorem ok_fewest {f : Addr} {fd : FuncData} (F : Fun K "fewest" "fewest" s_fewest f fd) (T : Txt w K mg C) (g_check_row : Cal P w K mg base CX0 3 "check_row" ["row"] (sp_check_row K C)) (g_spans_of : Cal P w K mg base CX0 2 "spans_of" ["row"] (sp_spans_of K C)) (g_Fewest_init : CalI P w K mg base CX0 1 C.Fewest ["self", "pushes", "stones"] (sp_Fewest_init K C)) : FnOk P w K mg base CX0 4 f fd ["row"] (sp_fewest K C) := by
  obtain rfl := T.hw
  refine F.ok sc_fewest (fun vs H Q E h => len_fewest h) (fun cdv A outer s H vs Q E hr h => ⟨t_fewest K C, ?_, pure_fewest h⟩)
  exact (pss_cons (ps_expr (pe_cal g_check_row (hr.mono (by decide)) (by rfl) pass0 (pa_cons (pv 0) pa_nil))) (pss_cons (ps_set (i := 1) sc_fewest.nd rfl (.inl rfl) (pe_cal g_spans_of (hr.mono (by decide)) (by rfl) pass0 (pa_cons (pv 0) pa_nil))) (pss_cons (ps_set (i := 2) sc_fewest.nd rfl (.inl rfl) (pe_lst pa_nil)) (pss_cons (ps_set (i := 3) sc_fewest.nd rfl (.inl rfl) (pe_lst pa_nil)) (pss_cons (ps_set (i := 4) sc_fewest.nd rfl (.inr rfl) pe_int) (pss_cons (ps_while PassesOwn.never (pt_cmpR op_lt (pv 4) (pe_callB call_len_seq (by rfl) T.b_len (by decide +kernel) (pa_cons (pv 0) pa_nil)) (nomark _)) (pss_cons (ps_asg (pe_callB (cr_maxD rfl hr.units) (by rfl) T.b_max (by decide +kernel) (pa_cons (pe_lc (own := [("first", 7), ("last", 8), ("push", 6)]) (g := (gTup K 3 (gCons (gName 7) (gCons (gName 8) (gCons (gName 6) gNil))))) (tt := (tTest (tChain rLeI rLeI (tVar 7) (tVar 4) (tVar 8)))) (by rfl) sc_fewest.nd (pi_list (pv 1)) (blkOk_by (own := [("first", 7), ("last", 8), ("push", 6)]) (N := ["row", "spans", "pushes", "stones", "stone", "end", "push", "first", "last"]) (sc := defScope s_fewest) (by decide +kernel)) (fun _ _ _ _ _ => (pg_tup rfl (pgs_cons (pg_name (i := 7) sc_fewest.nd rfl (.inl rfl)) (pgs_cons (pg_name (i := 8) sc_fewest.nd rfl (.inl rfl)) (pgs_cons (pg_name (i := 6) sc_fewest.nd rfl (.inl rfl)) pgs_nil))))) (fun _ _ _ _ _ => (pts_one (pt_chain op_le op_le (pv 7) (pv 4) (pv 8)))) (fun _ _ _ _ _ => (pe_tup (pa_cons (pv 8) (pa_cons (pv 6) pa_nil))))) pa_nil)) (pg_tup rfl (pgs_cons (pg_name (i := 5) sc_fewest.nd rfl (.inl rfl)) (pgs_cons (pg_name (i := 6) sc_fewest.nd rfl (.inl rfl)) pgs_nil)))) (pss_cons (ps_expr (pe_bm PySem.F.plainAttrs_list PySem.F.slot_list_append PySem.F.type_list_append mt_append (pv 2) (pa_cons (pv 6) pa_nil))) (pss_cons (ps_expr (pe_bm PySem.F.plainAttrs_list PySem.F.slot_list_append PySem.F.type_list_append mt_append (pv 3) (pa_cons (pv 4) pa_nil))) (pss_one (ps_set (i := 4) sc_fewest.nd rfl (.inr rfl) (pe_op op_add (pv 5) pe_int))))))) (pss_one (ps_ret (pe_mak g_Fewest_init T.g_Fewest (hr.mono (by decide)) (by rfl) pass0 (pa_cons (pv 2) (pa_cons (pv 3) pa_nil)))))))))))
theorem ok_law_row {f : Addr} {fd : FuncData} (F : Fun K "_law_row" "_law_row" s_law_row f fd) (T : Txt w K mg C) : FnOk P w K mg base CX0 1 f fd ["_law_script"] (sp_law_row K C) := by
  obtain rfl := T.hw
  refine F.ok sc_law_row (fun vs H Q E h => len_law_row h) (fun cdv A outer s H vs Q E hr h => ⟨t_law_row K C, ?_, pure_law_row h⟩)
  exact (pss_cons (ps_set (i := 1) sc_law_row.nd rfl (.inl rfl) (pe_callB (cr_sum rfl) (by rfl) T.b_sum (by decide +kernel) (pa_cons (pv 0) pa_nil))) (pss_cons (ps_asg (pe_ix ix_tup (pe_tup (pa_cons (pe_tup (pa_cons pe_int (pa_cons pe_int pa_nil))) (pa_cons (pe_tup (pa_cons pe_int (pa_cons pe_int pa_nil))) (pa_cons (pe_tup (pa_cons (pe_op op_pow pe_int pe_int) (pa_cons (pe_op op_pow pe_int pe_int) pa_nil))) (pa_cons (pe_tup (pa_cons pe_int (pa_cons pe_int pa_nil))) pa_nil))))) (pe_op op_mod (pv 1) pe_int) (fun _ _ => rfl)) (pg_tup rfl (pgs_cons (pg_name (i := 2) sc_law_row.nd rfl (.inl rfl)) (pgs_cons (pg_name (i := 3) sc_law_row.nd rfl (.inl rfl)) pgs_nil)))) (pss_cons (ps_set (i := 4) sc_law_row.nd rfl (.inl rfl) (pe_un un_neg (pe_op op_mod (pe_op op_fdiv (pv 1) pe_int) pe_int))) (pss_cons (ps_set (i := 5) sc_law_row.nd rfl (.inl rfl) (pe_lst pa_nil)) (pss_cons (ps_for PassesOwn.never rfl (pi_list (pv 0)) (pg_name (i := 6) sc_law_row.nd rfl (.inl rfl)) (pss_cons (ps_set (i := 4) sc_law_row.nd rfl (.inl rfl) (pe_op op_add (pe_op op_add (pv 4) pe_int) (pe_op op_mod (pv 6) (pv 2)))) (pss_one (ps_expr (pe_bm PySem.F.plainAttrs_list PySem.F.slot_list_append PySem.F.type_list_append mt_append (pv 5) (pa_cons (pe_tup (pa_cons (pv 4) (pa_cons (pe_op op_add pe_int (pe_op op_mod (pe_op op_add (pe_op op_fdivW (pv 6) (pv 2)) (pe_op op_fdiv (pv 6) pe_int)) (pv 3))) pa_nil))) pa_nil)))))) (pss_one (ps_ret (pv 5))))))))
theorem ok_law_numbers {f : Addr} {fd : FuncData} (F : Fun K "_law_numbers" "_law_numbers" s_law_numbers f fd) (T : Txt w K mg C) : FnOk P w K mg base CX0 1 f fd ["_law_found"] (sp_law_numbers K C) := by
  obtain rfl := T.hw
  refine F.ok sc_law_numbers (fun vs H Q E h => len_law_numbers h) (fun cdv A outer s H vs Q E hr h => ⟨t_law_numbers K C, ?_, pure_law_numbers h⟩)
  exact (pss_cons (ps_if (pt_not (pt_val (pe_callB call_isi (by rfl) T.b_isinstance (by decide +kernel) (pa_cons (pv 0) (pa_cons (pe_bltn (v := .ty "list") (by rfl) T.b_list (by decide +kernel) rfl) pa_nil))))) (pss_one (ps_ret pe_bl)) pss_nil) (pss_one (ps_ret (pe_callB (cr_all rfl) (by rfl) T.b_all (by decide +kernel) (pa_cons (pe_lc (own := [("_law_one", 1)]) (g := (gName 1)) (tt := tYes) (by rfl) sc_law_numbers.nd (pi_list (pv 0)) (blkOk_by (own := [("_law_one", 1)]) (N := ["_law_found", "_law_one"]) (sc := defScope s_law_numbers) (by decide +kernel)) (fun _ _ _ _ _ => (pg_name (i := 1) sc_law_numbers.nd rfl (.inl rfl))) (fun _ _ _ _ _ => pts_nil) (fun _ _ _ _ _ => (pe_and (pe_callB call_isi (by rfl) T.b_isinstance (by decide +kernel) (pa_cons (pv 1) (pa_cons (pe_bltn (v := .ty "int") (by rfl) T.b_int (by decide +kernel) rfl) pa_nil))) (pe_one (pe_not (pe_callB call_isi (by rfl) T.b_isinstance (by decide +kernel) (pa_cons (pv 1) (pa_cons (pe_bltn (v := .ty "bool") (by rfl) T.b_bool (by decide +kernel) rfl) pa_nil)))))))) pa_nil)))))
theorem ok_law_felled {f : Addr} {fd : FuncData} (F : Fun K "_law_felled" "_law_felled" s_law_felled f fd) (T : Txt w K mg C) : FnOk P w K mg base CX0 1 f fd ["_law_row_here", "_law_stone", "_law_side"] (sp_law_felled K C) := by
  obtain rfl := T.hw
  refine F.ok sc_law_felled (fun vs H Q E h => len_law_felled h) (fun cdv A outer s H vs Q E hr h => ⟨t_law_felled K C, ?_, pure_law_felled h⟩)
  exact (pss_cons (ps_par (i := 3) (j := 4) (by rfl) sc_law_felled.nd rfl rfl (by decide) rfl rfl (pa_cons (pe_op op_add (pe_ix ix_tup (pe_ix ix_list (pv 0) (pv 1) (fun _ _ => rfl)) pe_int (fun _ _ => rfl)) (pe_op op_mul (pv 2) (pe_ix ix_tup (pe_ix ix_list (pv 0) (pv 1) (fun _ _ => rfl)) pe_int (fun _ _ => rfl)))) (pa_cons (pv 1) pa_nil)) (by rfl)) (pss_cons (ps_for PassesOwn.never rfl (pi_list (pe_ifExp (pt_cmpR op_eq (pv 2) pe_int (nomark _)) (pe_listRg (by rfl) (by rfl) T.b_list (prg_2 (by rfl) T.b_range (pe_op op_add (pv 1) pe_int) (pe_callB call_len_seq (by rfl) T.b_len (by decide +kernel) (pa_cons (pv 0) pa_nil)))) (pe_listRg3 (by rfl) (by rfl) T.b_list (by rfl) T.b_range (pe_op op_sub (pv 1) pe_int) (pe_un un_neg pe_int) (pe_un un_neg pe_int)))) (pg_name (i := 5) sc_law_felled.nd rfl (.inl rfl)) (pss_cons (ps_asg (pe_ix ix_list (pv 0) (pv 5) (fun _ _ => rfl)) (pg_tup rfl (pgs_cons (pg_name (i := 6) sc_law_felled.nd rfl (.inl rfl)) (pgs_cons (pg_name (i := 7) sc_law_felled.nd rfl (.inl rfl)) pgs_nil)))) (pss_cons (ps_if (pt_cmpR op_lt (pe_op op_mul (pe_op op_sub (pv 3) (pv 6)) (pv 2)) pe_int (nomark _)) (pss_one (ps_ret (pv 4))) pss_nil) (pss_cons (ps_set (i := 4) sc_law_felled.nd rfl (.inl rfl) (pv 5)) (pss_one (ps_if (pt_cmpR op_gt (pe_op op_mul (pe_op op_sub (pe_op op_add (pv 6) (pe_op op_mul (pv 2) (pv 7))) (pv 3)) (pv 2)) pe_int (nomark _)) (pss_one (ps_set (i := 3) sc_law_felled.nd rfl (.inl rfl) (pe_op op_add (pv 6) (pe_op op_mul (pv 2) (pv 7))))) pss_nil)))))) (pss_one (ps_ret (pv 4)))))
theorem ok_law_few {f : Addr} {fd : FuncData} (F : Fun K "_law_few" "_law_few" s_law_few f fd) (T : Txt w K mg C) (g_law_felled : Cal P w K mg base CX0 1 "_law_felled" ["_law_row_here", "_law_stone", "_law_side"] (sp_law_felled K C)) : FnOk P w K mg base CX0 2 f fd ["_law_row_here", "_law_pushes", "_law_stones"] (sp_law_few K C) := by
  obtain rfl := T.hw
  refine F.ok sc_law_few (fun vs H Q E h => len_law_few h) (fun cdv A outer s H vs Q E hr h => ⟨t_law_few K C, ?_, pure_law_few h⟩)
  exact (pss_cons (ps_set (i := 3) sc_law_few.nd rfl (.inr rfl) (pe_callB call_len_seq (by rfl) T.b_len (by decide +kernel) (pa_cons (pv 0) pa_nil))) (pss_cons (ps_if (PW.pt (pw_or (pt_cmpR op_ne (pe_callB call_len_seq (by rfl) T.b_len (by decide +kernel) (pa_cons (pv 1) pa_nil)) (pe_callB call_len_seq (by rfl) T.b_len (by decide +kernel) (pa_cons (pv 2) pa_nil)) (nomark _)) (pw_or1 (pt_val (pe_callB (cr_any rfl) (by rfl) T.b_any (by decide +kernel) (pa_cons (pe_lc (own := [("_law_stone", 5)]) (g := (gName 5)) (tt := tYes) (by rfl) sc_law_few.nd (pi_list (pv 2)) (blkOk_by (own := [("_law_stone", 5)]) (N := ["_law_row_here", "_law_pushes", "_law_stones", "_law_many", "_law_met", "_law_stone", "_law_side", "_law_end", "_law_one"]) (sc := defScope s_law_few) (by decide +kernel)) (fun _ _ _ _ _ => (pg_name (i := 5) sc_law_few.nd rfl (.inl rfl))) (fun _ _ _ _ _ => pts_nil) (fun _ _ _ _ _ => (pe_not (pe_chain op_le op_lt pe_int (pv 5) (pv 3))))) pa_nil)))))) (pss_one (ps_ret pe_bl)) pss_nil) (pss_cons (ps_setLc (i := 4) (own := [("_law_stone", 5)]) (g := (gName 5)) (tt := tYes) (by rfl) sc_law_few.nd rfl rfl (sw_true rfl rfl rfl (by decide +kernel)) (pi_list (pv 0)) (blkOk_by (own := [("_law_stone", 5)]) (N := ["_law_row_here", "_law_pushes", "_law_stones", "_law_many", "_law_met", "_law_stone", "_law_side", "_law_end", "_law_one"]) (sc := defScope s_law_few) (by decide +kernel)) (fun _ _ _ _ _ => (pg_name (i := 5) sc_law_few.nd rfl (.inl rfl))) (fun _ _ _ _ _ => pts_nil) (fun _ _ _ _ _ => pe_bl)) (pss_cons (ps_for PassesOwn.never rfl (pi_list (pv 1)) (pg_tup rfl (pgs_cons (pg_name (i := 5) sc_law_few.nd rfl (.inr rfl)) (pgs_cons (pg_name (i := 6) sc_law_few.nd rfl (.inl rfl)) pgs_nil))) (pss_cons (ps_if (PW.pt (pw_or (pt_not (pt_chain op_le op_lt pe_int (pv 5) (pv 3))) (pw_or1 (PW.pt (pw_and (pt_cmpR op_ne (pv 6) pe_int (nomark _)) (pw_and1 (pt_cmpR op_ne (pv 6) (pe_un un_neg pe_int) (nomark _)))))))) (pss_one (ps_ret pe_bl)) pss_nil) (pss_cons (ps_set (i := 7) sc_law_few.nd rfl (.inr rfl) (pe_cal g_law_felled (hr.mono (by decide)) (by rfl) pass0 (pa_cons (pv 0) (pa_cons (pv 5) (pa_cons (pv 6) pa_nil))))) (pss_one (ps_for PassesOwn.never rfl (pi_range2 rfl T.b_range (pa_cons (pe_callB (call_min2 rfl) (by rfl) T.b_min (by decide +kernel) (pa_cons (pv 5) (pa_cons (pv 7) pa_nil))) (pa_cons (pe_op op_add (pe_callB (call_max2 rfl) (by rfl) T.b_max (by decide +kernel) (pa_cons (pv 5) (pa_cons (pv 7) pa_nil))) pe_int) pa_nil))) (pg_name (i := 8) sc_law_few.nd rfl (.inl rfl)) (pss_one (ps_asg pe_bl (pg_sub (pv 4) (pv 8) set_list)))))))) (pss_cons (ps_if (pt_not (pt_val (pe_callB (cr_all rfl) (by rfl) T.b_all (by decide +kernel) (pa_cons (pv 4) pa_nil)))) (pss_one (ps_ret pe_bl)) pss_nil) (pss_cons (ps_for PassesOwn.never rfl (pi_range1 rfl T.b_range (pa_cons (pv 3) pa_nil)) (pg_name (i := 5) sc_law_few.nd rfl (.inr rfl)) (pss_one (ps_for PassesOwn.never rfl (pi_list (pe_lst (pa_cons pe_int (pa_cons (pe_un un_neg pe_int) pa_nil)))) (pg_name (i := 6) sc_law_few.nd rfl (.inl rfl)) (pss_cons (ps_set (i := 7) sc_law_few.nd rfl (.inr rfl) (pe_cal g_law_felled (hr.mono (by decide)) (by rfl) pass0 (pa_cons (pv 0) (pa_cons (pv 5) (pa_cons (pv 6) pa_nil))))) (pss_one (ps_if (pt_cmpR op_gt (pe_callB (cr_sum rfl) (by rfl) T.b_sum (by decide +kernel) (pa_cons (pe_lc (own := [("_law_one", 8)]) (g := (gName 8)) (tt := (tTest (tChain rLeI rLeI (tCB rMin2 (tCons (tVar 5) (tCons (tVar 7) tNil))) (tVar 8) (tCB rMax2 (tCons (tVar 5) (tCons (tVar 7) tNil)))))) (by rfl) sc_law_few.nd (pi_list (pv 2)) (blkOk_by (own := [("_law_one", 8)]) (N := ["_law_row_here", "_law_pushes", "_law_stones", "_law_many", "_law_met", "_law_stone", "_law_side", "_law_end", "_law_one"]) (sc := defScope s_law_few) (by decide +kernel)) (fun _ _ _ _ _ => (pg_name (i := 8) sc_law_few.nd rfl (.inl rfl))) (fun _ _ _ _ _ => (pts_one (pt_chain op_le op_le (pe_callB (call_min2 rfl) (by rfl) T.b_min (by decide +kernel) (pa_cons (pv 5) (pa_cons (pv 7) pa_nil))) (pv 8) (pe_callB (call_max2 rfl) (by rfl) T.b_max (by decide +kernel) (pa_cons (pv 5) (pa_cons (pv 7) pa_nil)))))) (fun _ _ _ _ _ => pe_int)) pa_nil)) pe_int (nomark _)) (pss_one (ps_ret pe_bl)) pss_nil)))))) (pss_one (ps_ret pe_bl))))))))
theorem ok_law_right {f : Addr} {fd : FuncData} (F : Fun K "_law_right" "_law_right" s_law_right f fd) (T : Txt w K mg C) (g_fewest : Cal P w K mg base CX0 4 "fewest" ["row"] (sp_fewest K C)) (g_law_numbers : Cal P w K mg base CX0 1 "_law_numbers" ["_law_found"] (sp_law_numbers K C)) (g_law_few : Cal P w K mg base CX0 2 "_law_few" ["_law_row_here", "_law_pushes", "_law_stones"] (sp_law_few K C)) (g_Fewest_shows : CalM P w K mg base CX0 3 C.Fewest "shows" ["self", "row"] (sp_Fewest_shows K C)) : FnOk P w K mg base CX0 5 f fd ["_law_row_here", "_law_beside"] (sp_law_right K C) := by
  obtain rfl := T.hw
  refine F.ok sc_law_right (fun vs H Q E h => len_law_right h) (fun cdv A outer s H vs Q E hr h => ⟨t_law_right K C, ?_, pure_law_right ⟨T.f_Fewest, T.kt_Fewest⟩ h⟩)
  exact (pss_cons (ps_set (i := 2) sc_law_right.nd rfl (.inl rfl) (pe_callTy call_list_of (by rfl) T.b_list (by decide +kernel) (pa_cons (pv 0) pa_nil))) (pss_cons (ps_set (i := 3) sc_law_right.nd rfl (.inl rfl) (pe_cal g_fewest (hr.mono (by decide)) (by rfl) pass0 (pa_cons (pv 2) pa_nil))) (pss_cons (ps_if (PW.pt (pw_or (pt_not (pt_val (pe_callB call_isi (by rfl) T.b_isinstance (by decide +kernel) (pa_cons (pv 3) (pa_cons (pe_glob (v := .ref C.Answer) (by rfl) T.g_Answer rfl) pa_nil))))) (pw_or (pt_not (pt_val (pe_callB call_isi (by rfl) T.b_isinstance (by decide +kernel) (pa_cons (pv 3) (pa_cons (pe_glob (v := .ref C.Fewest) (by rfl) T.g_Fewest rfl) pa_nil))))) (pw_or1 (pt_cmpR (op_neD hr.units) (pv 2) (pv 0) (nomark _)))))) (pss_one (ps_ret pe_bl)) pss_nil) (pss_cons (ps_if (pt_val (pe_callB (cr_any rfl) (by rfl) T.b_any (by decide +kernel) (pa_cons (pe_lst (pa_cons (pe_callB call_isi (by rfl) T.b_isinstance (by decide +kernel) (pa_cons (pv 3) (pa_cons (pe_glob (v := .ref C.Chain) (by rfl) T.g_Chain rfl) pa_nil))) (pa_cons (pe_callB call_isi (by rfl) T.b_isinstance (by decide +kernel) (pa_cons (pv 3) (pa_cons (pe_glob (v := .ref C.Higher) (by rfl) T.g_Higher rfl) pa_nil))) (pa_cons (pe_callB call_isi (by rfl) T.b_isinstance (by decide +kernel) (pa_cons (pv 3) (pa_cons (pe_glob (v := .ref C.Rights) (by rfl) T.g_Rights rfl) pa_nil))) (pa_cons (pe_callB call_isi (by rfl) T.b_isinstance (by decide +kernel) (pa_cons (pv 3) (pa_cons (pe_glob (v := .ref C.Stands) (by rfl) T.g_Stands rfl) pa_nil))) pa_nil))))) pa_nil))) (pss_one (ps_ret pe_bl)) pss_nil) (pss_cons (ps_if (PW.pt (pw_or (pt_not (pt_val (pe_cal g_law_numbers (hr.mono (by decide)) (by rfl) pass0 (pa_cons (pe_fld (pv 3) rfl) pa_nil)))) (pw_or1 (pt_not (pt_val (pe_callB call_isi (by rfl) T.b_isinstance (by decide +kernel) (pa_cons (pe_fld (pv 3) rfl) (pa_cons (pe_bltn (v := .ty "list") (by rfl) T.b_list (by decide +kernel) rfl) pa_nil)))))))) (pss_one (ps_ret pe_bl)) pss_nil) (pss_cons (ps_if (pt_not (pt_val (pe_callB (cr_all rfl) (by rfl) T.b_all (by decide +kernel) (pa_cons (pe_lc (own := [("_law_push", 4)]) (g := (gName 4)) (tt := tYes) (by rfl) sc_law_right.nd (pi_list (pe_fld (pv 3) rfl)) (blkOk_by (own := [("_law_push", 4)]) (N := ["_law_row_here", "_law_beside", "_law_handed", "_law_found", "_law_push"]) (sc := defScope s_law_right) (by decide +kernel)) (fun _ _ _ _ _ => (pg_name (i := 4) sc_law_right.nd rfl (.inl rfl))) (fun _ _ _ _ _ => pts_nil) (fun _ _ _ _ _ => (pe_and (pe_callB call_isi (by rfl) T.b_isinstance (by decide +kernel) (pa_cons (pv 4) (pa_cons (pe_bltn (v := .ty "tuple") (by rfl) T.b_tuple (by decide +kernel) rfl) pa_nil))) (pe_and (pe_cmpR op_eq (pe_callB call_len_seq (by rfl) T.b_len (by decide +kernel) (pa_cons (pv 4) pa_nil)) pe_int (nomark _)) (pe_one (pe_cal g_law_numbers (hr.mono (by decide)) (by rfl) pass0 (pa_cons (pe_callTy call_list_of (by rfl) T.b_list (by decide +kernel) (pa_cons (pv 4) pa_nil)) pa_nil))))))) pa_nil)))) (pss_one (ps_ret pe_bl)) pss_nil) (pss_cons (ps_if (PW.pt (pw_or (pt_not (pt_val (pe_cal g_law_few (hr.mono (by decide)) (by rfl) pass0 (pa_cons (pv 0) (pa_cons (pe_fld (pv 3) rfl) (pa_cons (pe_fld (pv 3) rfl) pa_nil)))))) (pw_or1 (pt_cmpR op_notBl (pe_met (pv 3) T.f_Fewest.isi.cls g_Fewest_shows (hr.mono (by decide)) pass0 (pa_cons (pv 0) pa_nil)) pe_bl (nomark _))))) (pss_one (ps_ret pe_bl)) pss_nil) (pss_cons (ps_if (pt_cmpR op_ne (pe_met (pv 3) T.f_Fewest.isi.cls g_Fewest_shows (hr.mono (by decide)) pass0 (pa_cons (pv 1) pa_nil)) (pe_cal g_law_few (hr.mono (by decide)) (by rfl) pass0 (pa_cons (pv 1) (pa_cons (pe_fld (pv 3) rfl) (pa_cons (pe_fld (pv 3) rfl) pa_nil)))) (nomark _)) (pss_one (ps_ret pe_bl)) pss_nil) (pss_cons (ps_expr (pe_bm PySem.F.plainAttrs_list PySem.F.slot_list_append PySem.F.type_list_append mt_append (pe_fld (pv 3) rfl) (pa_cons pe_int pa_nil))) (pss_cons (ps_if (pt_cmpR op_notBl (pe_met (pv 3) T.f_Fewest.isi.cls g_Fewest_shows (hr.mono (by decide)) pass0 (pa_cons (pv 0) pa_nil)) pe_bl (nomark _)) (pss_one (ps_ret pe_bl)) pss_nil) (pss_cons (ps_expr (pe_bm0 PySem.F.plainAttrs_list PySem.F.slot_list_pop PySem.F.type_list_pop mt_pop (pe_fld (pv 3) rfl))) (pss_cons (ps_expr (pe_bm PySem.F.plainAttrs_list PySem.F.slot_list_append PySem.F.type_list_append mt_append (pe_fld (pv 3) rfl) (pa_cons (pe_tup (pa_cons pe_int (pa_cons pe_int pa_nil))) pa_nil))) (pss_one (ps_ret (pe_and (pe_cmpR op_isBl (pe_met (pv 3) T.f_Fewest.isi.cls g_Fewest_shows (hr.mono (by decide)) pass0 (pa_cons (pv 0) pa_nil)) pe_bl (nomark _)) (pe_one (pe_cmpR (op_eqD hr.units) (pv 2) (pv 0) (nomark _))))))))))))))))))
theorem ok_law {f : Addr} {fd : FuncData} (F : Fun K "law" "law" s_law f fd) (T : Txt w K mg C) (g_law_row : Cal P w K mg base CX0 1 "_law_row" ["_law_script"] (sp_law_row K C)) (g_law_right : Cal P w K mg base CX0 5 "_law_right" ["_law_row_here", "_law_beside"] (sp_law_right K C)) (g_fewest : Cal P w K mg base CX0 4 "fewest" ["row"] (sp_fewest K C)) : FnOk P w K mg base CX0 6 f fd ["_law_script"] (sp_law K C) := by
  obtain rfl := T.hw
  refine F.ok sc_law (fun vs H Q E h => len_law h) (fun cdv A outer s H vs Q E hr h => ⟨t_law K C, ?_, pure_law ⟨T.f_Fewest, T.kt_Fewest⟩ h⟩)
  exact (pss_cons (ps_set (i := 1) sc_law.nd rfl (.inl rfl) (pe_cal g_law_row (hr.mono (by decide)) (by rfl) pass0 (pa_cons (pv 0) pa_nil))) (pss_cons (ps_set (i := 2) sc_law.nd rfl (.inl rfl) (pe_op op_mod (pe_op op_fdiv (pe_callB (cr_sum rfl) (by rfl) T.b_sum (by decide +kernel) (pa_cons (pv 0) pa_nil)) pe_int) (pe_callB (call_max2 rfl) (by rfl) T.b_max (by decide +kernel) (pa_cons pe_int (pa_cons (pe_callB call_len_seq (by rfl) T.b_len (by decide +kernel) (pa_cons (pv 1) pa_nil)) pa_nil))))) (pss_cons (ps_set (i := 3) sc_law.nd rfl (.inl rfl) (pe_op op_cat (pe_op op_cat (pe_slice sl_list (pv 1) po_none (po_some (pv 2))) (pe_lc (own := [("_law_place", 5), ("_law_height", 6)]) (g := (gTup K 2 (gCons (gName 5) (gCons (gName 6) gNil)))) (tt := tYes) (by rfl) sc_law.nd (pi_list (pe_slice sl_list (pv 1) (po_some (pv 2)) (po_some (pe_op op_add (pv 2) pe_int)))) (blkOk_by (own := [("_law_place", 5), ("_law_height", 6)]) (N := ["_law_script", "_law_row_here", "_law_at", "_law_near", "_law_turned", "_law_place", "_law_height"]) (sc := defScope s_law) (by decide +kernel)) (fun _ _ _ _ _ => (pg_tup rfl (pgs_cons (pg_name (i := 5) sc_law.nd rfl (.inl rfl)) (pgs_cons (pg_name (i := 6) sc_law.nd rfl (.inl rfl)) pgs_nil)))) (fun _ _ _ _ _ => pts_nil) (fun _ _ _ _ _ => (pe_tup (pa_cons (pv 5) (pa_cons (pe_op op_add (pe_op op_add (pv 6) pe_int) (pe_op op_mod (pe_callB (cr_sum rfl) (by rfl) T.b_sum (by decide +kernel) (pa_cons (pv 0) pa_nil)) pe_int)) pa_nil)))))) (pe_slice sl_list (pv 1) (po_some (pe_op op_add (pv 2) pe_int)) po_none))) (pss_cons (ps_setLc (i := 4) (own := [("_law_place", 5), ("_law_height", 6)]) (g := (gTup K 2 (gCons (gName 5) (gCons (gName 6) gNil)))) (tt := tYes) (by rfl) sc_law.nd rfl rfl (sw_true rfl rfl rfl (by decide +kernel)) (pi_list (pe_revL (pv 1))) (blkOk_by (own := [("_law_place", 5), ("_law_height", 6)]) (N := ["_law_script", "_law_row_here", "_law_at", "_law_near", "_law_turned", "_law_place", "_law_height"]) (sc := defScope s_law) (by decide +kernel)) (fun _ _ _ _ _ => (pg_tup rfl (pgs_cons (pg_name (i := 5) sc_law.nd rfl (.inl rfl)) (pgs_cons (pg_name (i := 6) sc_law.nd rfl (.inl rfl)) pgs_nil)))) (fun _ _ _ _ _ => pts_nil) (fun _ _ _ _ _ => (pe_tup (pa_cons (pe_un un_neg (pv 5)) (pa_cons (pv 6) pa_nil))))) (pss_cons (ps_if (PW.pt (pw_or (pt_not (pt_val (pe_cal g_law_right (hr.mono (by decide)) (by rfl) pass0 (pa_cons (pv 1) (pa_cons (pv 3) pa_nil))))) (pw_or (pt_not (pt_val (pe_cal g_law_right (hr.mono (by decide)) (by rfl) pass0 (pa_cons (pe_slice2 (pv 1) (po_some pe_int)) (pa_cons (pe_slice2 (pv 1) po_none) pa_nil))))) (pw_or1 (pt_not (pt_val (pe_cal g_law_right (hr.mono (by decide)) (by rfl) pass0 (pa_cons (pe_slice sl_list (pv 4) po_none (po_some pe_int)) (pa_cons (pe_slice sl_list (pv 3) po_none (po_some pe_int)) pa_nil))))))))) (pss_one (ps_ret pe_bl)) pss_nil) (pss_one (ps_ret (pe_cmpR op_eq (pe_callB call_len_seq (by rfl) T.b_len (by decide +kernel) (pa_cons (pe_fld (pe_cal g_fewest (hr.mono (by decide)) (by rfl) pass0 (pa_cons (pv 1) pa_nil)) rfl) pa_nil)) (pe_callB call_len_seq (by rfl) T.b_len (by decide +kernel) (pa_cons (pe_fld (pe_cal g_fewest (hr.mono (by decide)) (by rfl) pass0 (pa_cons (pv 4) pa_nil)) rfl) pa_nil)) (nomark _)))))))))
end
end FR

namespace FR
open PySem L2 Evl
open PySem.Spec PyProof.Rows
theorem law_sp {K : PySem.W.Frag} {H : Hp} {a : Addr} {ns : List Int} {E : XK} (hl : ns.length ≤ 63) (hS : SqL K H a (ns.map V.int)) : FnP K P_law [.ref a] H (fun v _ => v = .bl true) E :=
  ⟨H, [.sq (intL ns)], .bl true, Ex.refl _, .cons (by simp only [Rp]; exact ⟨a, _, rfl, hS, ints_rp ns⟩) .nil, ⟨ns, rfl, hl, rfl⟩, fun v B' H' g r => by simpa only [Rp] using r⟩
theorem all_mk {l : PySem.W.OpenLaw} {w : World} {K : PySem.W.Frag} {h : Heap} {mg : Str → Option Value} {fa : Addr} {CAnswer CChain CStands CFewest CRights CHigher : Addr} (X : K.In h) (G : h.Ns mainGlobals mg) (hfa : mg "law" = some (.ref fa))
    (qAnswer : PySem.W.nsIn K mainGlobals "Answer" = some (some (.ref CAnswer)))
    (qChain : PySem.W.nsIn K mainGlobals "Chain" = some (some (.ref CChain)))
    (qStands : PySem.W.nsIn K mainGlobals "Stands" = some (some (.ref CStands)))
    (qFewest : PySem.W.nsIn K mainGlobals "Fewest" = some (some (.ref CFewest)))
    (qRights : PySem.W.nsIn K mainGlobals "Rights" = some (some (.ref CRights)))
    (qHigher : PySem.W.nsIn K mainGlobals "Higher" = some (some (.ref CHigher)))
    {od0 an0 : Option Addr} {sl0 : Array (Option Value)} {oc0 kV0 dc0 pm0 cd0 ct0 : Value} {f0 : Addr}
    (a0 : PySem.W.nsIn K mainGlobals "is_number" = some (some (.ref f0)))
    (l0 : K.lookup f0 = some ⟨oc0, od0, .func (PySem.W.fnOf "is_number" "is_number" (defArgs s_is_number) (defBody s_is_number) (defScope s_is_number) .none kV0 dc0 pm0 an0 cd0 ct0), sl0⟩) (c0 : PySem.W.codeIn K cd0 "is_number" = true) (k0 : PySem.W.keepIn K (.ref f0) = true)
    {od1 an1 : Option Addr} {sl1 : Array (Option Value)} {oc1 kV1 dc1 pm1 cd1 ct1 : Value} {f1 : Addr}
    (a1 : PySem.W.nsIn K mainGlobals "is_pair" = some (some (.ref f1)))
    (l1 : K.lookup f1 = some ⟨oc1, od1, .func (PySem.W.fnOf "is_pair" "is_pair" (defArgs s_is_pair) (defBody s_is_pair) (defScope s_is_pair) .none kV1 dc1 pm1 an1 cd1 ct1), sl1⟩) (c1 : PySem.W.codeIn K cd1 "is_pair" = true) (k1 : PySem.W.keepIn K (.ref f1) = true)
    {od2 an2 : Option Addr} {sl2 : Array (Option Value)} {oc2 kV2 dc2 pm2 cd2 ct2 : Value} {f2 : Addr}
    (a2 : PySem.W.nsIn K mainGlobals "check_row" = some (some (.ref f2)))
    (l2 : K.lookup f2 = some ⟨oc2, od2, .func (PySem.W.fnOf "check_row" "check_row" (defArgs s_check_row) (defBody s_check_row) (defScope s_check_row) .none kV2 dc2 pm2 an2 cd2 ct2), sl2⟩) (c2 : PySem.W.codeIn K cd2 "check_row" = true) (k2 : PySem.W.keepIn K (.ref f2) = true)
    {od3 an3 : Option Addr} {sl3 : Array (Option Value)} {oc3 kV3 dc3 pm3 cd3 ct3 : Value} {f3 : Addr}
    (a3 : PySem.W.nsIn K mainGlobals "last_felled" = some (some (.ref f3)))
    (l3 : K.lookup f3 = some ⟨oc3, od3, .func (PySem.W.fnOf "last_felled" "last_felled" (defArgs s_last_felled) (defBody s_last_felled) (defScope s_last_felled) .none kV3 dc3 pm3 an3 cd3 ct3), sl3⟩) (c3 : PySem.W.codeIn K cd3 "last_felled" = true) (k3 : PySem.W.keepIn K (.ref f3) = true)
    {od4 an4 : Option Addr} {sl4 : Array (Option Value)} {oc4 kV4 dc4 pm4 cd4 ct4 : Value} {f4 : Addr}
    (a4 : PySem.W.nsIn K mainGlobals "felled_by" = some (some (.ref f4)))
    (l4 : K.lookup f4 = some ⟨oc4, od4, .func (PySem.W.fnOf "felled_by" "felled_by" (defArgs s_felled_by) (defBody s_felled_by) (defScope s_felled_by) .none kV4 dc4 pm4 an4 cd4 ct4), sl4⟩) (c4 : PySem.W.codeIn K cd4 "felled_by" = true) (k4 : PySem.W.keepIn K (.ref f4) = true)
    {od5 an5 : Option Addr} {sl5 : Array (Option Value)} {oc5 kV5 dc5 pm5 cd5 ct5 : Value} {f5 : Addr}
    (a5 : PySem.W.findIn K (.ref CFewest) "__init__" = some (some (.ref f5))) (i5 : PySem.W.isFn K (.ref f5) = true)
    (l5 : K.lookup f5 = some ⟨oc5, od5, .func (PySem.W.fnOf "__init__" "Fewest.__init__" (defArgs s_Fewest_init) (defBody s_Fewest_init) (defScope s_Fewest_init) .none kV5 dc5 pm5 an5 cd5 ct5), sl5⟩) (c5 : PySem.W.codeIn K cd5 "Fewest.__init__" = true) (k5 : PySem.W.keepIn K (.ref f5) = true)
    {od6 an6 : Option Addr} {sl6 : Array (Option Value)} {oc6 kV6 dc6 pm6 cd6 ct6 : Value} {f6 : Addr}
    (a6 : PySem.W.findIn K (.ref CFewest) "shows" = some (some (.ref f6))) (i6 : PySem.W.isFn K (.ref f6) = true)
    (l6 : K.lookup f6 = some ⟨oc6, od6, .func (PySem.W.fnOf "shows" "Fewest.shows" (defArgs s_Fewest_shows) (defBody s_Fewest_shows) (defScope s_Fewest_shows) .none kV6 dc6 pm6 an6 cd6 ct6), sl6⟩) (c6 : PySem.W.codeIn K cd6 "Fewest.shows" = true) (k6 : PySem.W.keepIn K (.ref f6) = true)
    {od7 an7 : Option Addr} {sl7 : Array (Option Value)} {oc7 kV7 dc7 pm7 cd7 ct7 : Value} {f7 : Addr}
    (a7 : PySem.W.nsIn K mainGlobals "spans_of" = some (some (.ref f7)))
    (l7 : K.lookup f7 = some ⟨oc7, od7, .func (PySem.W.fnOf "spans_of" "spans_of" (defArgs s_spans_of) (defBody s_spans_of) (defScope s_spans_of) .none kV7 dc7 pm7 an7 cd7 ct7), sl7⟩) (c7 : PySem.W.codeIn K cd7 "spans_of" = true) (k7 : PySem.W.keepIn K (.ref f7) = true)
    {od8 an8 : Option Addr} {sl8 : Array (Option Value)} {oc8 kV8 dc8 pm8 cd8 ct8 : Value} {f8 : Addr}
    (a8 : PySem.W.nsIn K mainGlobals "fewest" = some (some (.ref f8)))
    (l8 : K.lookup f8 = some ⟨oc8, od8, .func (PySem.W.fnOf "fewest" "fewest" (defArgs s_fewest) (defBody s_fewest) (defScope s_fewest) .none kV8 dc8 pm8 an8 cd8 ct8), sl8⟩) (c8 : PySem.W.codeIn K cd8 "fewest" = true) (k8 : PySem.W.keepIn K (.ref f8) = true)
    {od9 an9 : Option Addr} {sl9 : Array (Option Value)} {oc9 kV9 dc9 pm9 cd9 ct9 : Value} {f9 : Addr}
    (a9 : PySem.W.nsIn K mainGlobals "_law_row" = some (some (.ref f9)))
    (l9 : K.lookup f9 = some ⟨oc9, od9, .func (PySem.W.fnOf "_law_row" "_law_row" (defArgs s_law_row) (defBody s_law_row) (defScope s_law_row) .none kV9 dc9 pm9 an9 cd9 ct9), sl9⟩) (c9 : PySem.W.codeIn K cd9 "_law_row" = true) (k9 : PySem.W.keepIn K (.ref f9) = true)
    {od10 an10 : Option Addr} {sl10 : Array (Option Value)} {oc10 kV10 dc10 pm10 cd10 ct10 : Value} {f10 : Addr}
    (a10 : PySem.W.nsIn K mainGlobals "_law_numbers" = some (some (.ref f10)))
    (l10 : K.lookup f10 = some ⟨oc10, od10, .func (PySem.W.fnOf "_law_numbers" "_law_numbers" (defArgs s_law_numbers) (defBody s_law_numbers) (defScope s_law_numbers) .none kV10 dc10 pm10 an10 cd10 ct10), sl10⟩) (c10 : PySem.W.codeIn K cd10 "_law_numbers" = true) (k10 : PySem.W.keepIn K (.ref f10) = true)
    {od11 an11 : Option Addr} {sl11 : Array (Option Value)} {oc11 kV11 dc11 pm11 cd11 ct11 : Value} {f11 : Addr}
    (a11 : PySem.W.nsIn K mainGlobals "_law_felled" = some (some (.ref f11)))
    (l11 : K.lookup f11 = some ⟨oc11, od11, .func (PySem.W.fnOf "_law_felled" "_law_felled" (defArgs s_law_felled) (defBody s_law_felled) (defScope s_law_felled) .none kV11 dc11 pm11 an11 cd11 ct11), sl11⟩) (c11 : PySem.W.codeIn K cd11 "_law_felled" = true) (k11 : PySem.W.keepIn K (.ref f11) = true)
    {od12 an12 : Option Addr} {sl12 : Array (Option Value)} {oc12 kV12 dc12 pm12 cd12 ct12 : Value} {f12 : Addr}
    (a12 : PySem.W.nsIn K mainGlobals "_law_few" = some (some (.ref f12)))
    (l12 : K.lookup f12 = some ⟨oc12, od12, .func (PySem.W.fnOf "_law_few" "_law_few" (defArgs s_law_few) (defBody s_law_few) (defScope s_law_few) .none kV12 dc12 pm12 an12 cd12 ct12), sl12⟩) (c12 : PySem.W.codeIn K cd12 "_law_few" = true) (k12 : PySem.W.keepIn K (.ref f12) = true)
    {od13 an13 : Option Addr} {sl13 : Array (Option Value)} {oc13 kV13 dc13 pm13 cd13 ct13 : Value} {f13 : Addr}
    (a13 : PySem.W.nsIn K mainGlobals "_law_right" = some (some (.ref f13)))
    (l13 : K.lookup f13 = some ⟨oc13, od13, .func (PySem.W.fnOf "_law_right" "_law_right" (defArgs s_law_right) (defBody s_law_right) (defScope s_law_right) .none kV13 dc13 pm13 an13 cd13 ct13), sl13⟩) (c13 : PySem.W.codeIn K cd13 "_law_right" = true) (k13 : PySem.W.keepIn K (.ref f13) = true)
    {od14 an14 : Option Addr} {sl14 : Array (Option Value)} {oc14 kV14 dc14 pm14 cd14 ct14 : Value} {f14 : Addr}
    (a14 : PySem.W.nsIn K mainGlobals "law" = some (some (.ref f14)))
    (l14 : K.lookup f14 = some ⟨oc14, od14, .func (PySem.W.fnOf "law" "law" (defArgs s_law) (defBody s_law) (defScope s_law) .none kV14 dc14 pm14 an14 cd14 ct14), sl14⟩) (c14 : PySem.W.codeIn K cd14 "law" = true) (k14 : PySem.W.keepIn K (.ref f14) = true)
    (pg_Fewest : PySem.W.plainGet K CFewest Str.empty = true)
    (hd_Fewest : PySem.W.hasDictIn K CFewest = true)
    (po_Fewest : PySem.W.plainOver K CFewest = true)
    (sa_Fewest : PySem.W.findIn K (.ref CFewest) "__setattr__" = some (some (.builtin "object.__setattr__")))
    (ha_Fewest : PySem.W.findIn K (.ref CFewest) "__class__" = some (some (.builtin "object.__class__")))
    (hn_Fewest : PySem.W.specialIn K (.builtin "object.__class__") "__get__" = some (some (.builtin "getset_descriptor.__get__")))
    (ht_Fewest : PySem.W.takesIn K (.builtin "object.__class__") = some true)
    (hm_Fewest : PySem.W.mroIn K CFewest (.type "object") = some true)
    (mk_Fewest : PySem.W.makesIn K CFewest = true)
    (kc_Fewest : PySem.W.keepIn K (.ref CFewest) = true)
    (no_Fewest_pushes : PySem.W.findIn K (.ref CFewest) "pushes" = some none)
    (no_Fewest_stones : PySem.W.findIn K (.ref CFewest) "stones" = some none)
    (ic_Answer : PySem.W.isClsIn K CAnswer = true)
    (ty_Answer : PySem.W.typeIn K (.ref CAnswer) = some (.type "type"))
    (su_Fewest_Answer : PySem.W.subIn K (.ref CFewest) (.ref CAnswer) = some true)
    (ic_Chain : PySem.W.isClsIn K CChain = true)
    (ty_Chain : PySem.W.typeIn K (.ref CChain) = some (.type "type"))
    (su_Fewest_Chain : PySem.W.subIn K (.ref CFewest) (.ref CChain) = some false)
    (ic_Stands : PySem.W.isClsIn K CStands = true)
    (ty_Stands : PySem.W.typeIn K (.ref CStands) = some (.type "type"))
    (su_Fewest_Stands : PySem.W.subIn K (.ref CFewest) (.ref CStands) = some false)
    (ic_Fewest : PySem.W.isClsIn K CFewest = true)
    (ty_Fewest : PySem.W.typeIn K (.ref CFewest) = some (.type "type"))
    (su_Fewest_Fewest : PySem.W.subIn K (.ref CFewest) (.ref CFewest) = some true)
    (ic_Rights : PySem.W.isClsIn K CRights = true)
    (ty_Rights : PySem.W.typeIn K (.ref CRights) = some (.type "type"))
    (su_Fewest_Rights : PySem.W.subIn K (.ref CFewest) (.ref CRights) = some false)
    (ic_Higher : PySem.W.isClsIn K CHigher = true)
    (ty_Higher : PySem.W.typeIn K (.ref CHigher) = some (.type "type"))
    (su_Fewest_Higher : PySem.W.subIn K (.ref CFewest) (.ref CHigher) = some false)
    (z_all : PySem.W.nsIn K mainGlobals "all" = some none)
    (z_any : PySem.W.nsIn K mainGlobals "any" = some none)
    (z_bool : PySem.W.nsIn K mainGlobals "bool" = some none)
    (z_int : PySem.W.nsIn K mainGlobals "int" = some none)
    (z_isinstance : PySem.W.nsIn K mainGlobals "isinstance" = some none)
    (z_len : PySem.W.nsIn K mainGlobals "len" = some none)
    (z_list : PySem.W.nsIn K mainGlobals "list" = some none)
    (z_max : PySem.W.nsIn K mainGlobals "max" = some none)
    (z_min : PySem.W.nsIn K mainGlobals "min" = some none)
    (z_range : PySem.W.nsIn K mainGlobals "range" = some none)
    (z_sum : PySem.W.nsIn K mainGlobals "sum" = some none)
    (z_tuple : PySem.W.nsIn K mainGlobals "tuple" = some none) :
    ∃ fd : FuncData, (∀ (s : Shared) (v : Value), BindsTo s fd ⟨[v], []⟩ [("_law_script", v)]) ∧ ∀ base : Heap, K.In base → base.Ns mainGlobals mg → FnOk l.prog w K mg base CX0 6 fa fd ["_law_script"] (FnP K P_law) := by
  have e := hfa.symm.trans (PySem.W.mg_of X G a14)
  cases e
  let C : CS := { w := w, Answer := CAnswer, Chain := CChain, Stands := CStands, Fewest := CFewest, Rights := CRights, Higher := CHigher }
  have T : Txt w K mg C := ⟨rfl, PySem.W.mg_none_of X G z_all, PySem.W.mg_none_of X G z_any, PySem.W.mg_none_of X G z_bool, PySem.W.mg_none_of X G z_int, PySem.W.mg_none_of X G z_isinstance, PySem.W.mg_none_of X G z_len, PySem.W.mg_none_of X G z_list, PySem.W.mg_none_of X G z_max, PySem.W.mg_none_of X G z_min, PySem.W.mg_none_of X G z_range, PySem.W.mg_none_of X G z_sum, PySem.W.mg_none_of X G z_tuple, PySem.W.mg_of X G qAnswer, PySem.W.mg_of X G qChain, PySem.W.mg_of X G qFewest, PySem.W.mg_of X G qHigher, PySem.W.mg_of X G qRights, PySem.W.mg_of X G qStands, ⟨⟨⟨pg_Fewest, hd_Fewest, po_Fewest, sa_Fewest⟩, ha_Fewest, hn_Fewest, ht_Fewest, hm_Fewest⟩, fun f hf => by
    rcases List.mem_cons.mp hf with z | z
    · subst z
      exact no_Fewest_pushes
    · rw [List.mem_singleton] at z
      subst z
      exact no_Fewest_stones⟩, ⟨kit_of ic_Answer ty_Answer su_Fewest_Answer su_Fewest_Fewest, kit_of ic_Chain ty_Chain su_Fewest_Chain su_Fewest_Fewest, kit_of ic_Stands ty_Stands su_Fewest_Stands su_Fewest_Fewest, kit_of ic_Fewest ty_Fewest su_Fewest_Fewest su_Fewest_Fewest, kit_of ic_Rights ty_Rights su_Fewest_Rights su_Fewest_Fewest, kit_of ic_Higher ty_Higher su_Fewest_Higher su_Fewest_Fewest⟩⟩
  have F0 := fun_mk (st := s_is_number) l0 c0 k0
  have b0 := F0.binds (ps := ["thing"]) fun _ _ _ _ _ _ us hl => match us, hl with | [_], _ => rfl
  have F1 := fun_mk (st := s_is_pair) l1 c1 k1
  have b1 := F1.binds (ps := ["thing"]) fun _ _ _ _ _ _ us hl => match us, hl with | [_], _ => rfl
  have F2 := fun_mk (st := s_check_row) l2 c2 k2
  have b2 := F2.binds (ps := ["row"]) fun _ _ _ _ _ _ us hl => match us, hl with | [_], _ => rfl
  have F3 := fun_mk (st := s_last_felled) l3 c3 k3
  have b3 := F3.binds (ps := ["row", "stone", "side"]) fun _ _ _ _ _ _ us hl => match us, hl with | [_, _, _], _ => rfl
  have F4 := fun_mk (st := s_felled_by) l4 c4 k4
  have b4 := F4.binds (ps := ["row", "stone", "side"]) fun _ _ _ _ _ _ us hl => match us, hl with | [_, _, _], _ => rfl
  have F5 := fun_mk (st := s_Fewest_init) l5 c5 k5
  have b5 := F5.binds (ps := ["self", "pushes", "stones"]) fun _ _ _ _ _ _ us hl => match us, hl with | [_, _, _], _ => rfl
  have F6 := fun_mk (st := s_Fewest_shows) l6 c6 k6
  have b6 := F6.binds (ps := ["self", "row"]) fun _ _ _ _ _ _ us hl => match us, hl with | [_, _], _ => rfl
  have F7 := fun_mk (st := s_spans_of) l7 c7 k7
  have b7 := F7.binds (ps := ["row"]) fun _ _ _ _ _ _ us hl => match us, hl with | [_], _ => rfl
  have F8 := fun_mk (st := s_fewest) l8 c8 k8
  have b8 := F8.binds (ps := ["row"]) fun _ _ _ _ _ _ us hl => match us, hl with | [_], _ => rfl
  have F9 := fun_mk (st := s_law_row) l9 c9 k9
  have b9 := F9.binds (ps := ["_law_script"]) fun _ _ _ _ _ _ us hl => match us, hl with | [_], _ => rfl
  have F10 := fun_mk (st := s_law_numbers) l10 c10 k10
  have b10 := F10.binds (ps := ["_law_found"]) fun _ _ _ _ _ _ us hl => match us, hl with | [_], _ => rfl
  have F11 := fun_mk (st := s_law_felled) l11 c11 k11
  have b11 := F11.binds (ps := ["_law_row_here", "_law_stone", "_law_side"]) fun _ _ _ _ _ _ us hl => match us, hl with | [_, _, _], _ => rfl
  have F12 := fun_mk (st := s_law_few) l12 c12 k12
  have b12 := F12.binds (ps := ["_law_row_here", "_law_pushes", "_law_stones"]) fun _ _ _ _ _ _ us hl => match us, hl with | [_, _, _], _ => rfl
  have F13 := fun_mk (st := s_law_right) l13 c13 k13
  have b13 := F13.binds (ps := ["_law_row_here", "_law_beside"]) fun _ _ _ _ _ _ us hl => match us, hl with | [_, _], _ => rfl
  have F14 := fun_mk (st := s_law) l14 c14 k14
  have b14 := F14.binds (ps := ["_law_script"]) fun _ _ _ _ _ _ us hl => match us, hl with | [_], _ => rfl
  refine ⟨PySem.W.fnOf "law" "law" (defArgs s_law) (defBody s_law) (defScope s_law) .none kV14 dc14 pm14 an14 cd14 ct14, fun s v => .of_eq rfl, fun base _ _ => ?_⟩
  have g_is_number : Cal l.prog w K mg base CX0 1 "is_number" ["thing"] (sp_is_number K C) := ⟨_, _, ok_is_number F0 T, PySem.W.mg_of X G a0, k0, b0⟩
  have g_is_pair : Cal l.prog w K mg base CX0 2 "is_pair" ["thing"] (sp_is_pair K C) := ⟨_, _, ok_is_pair F1 T g_is_number, PySem.W.mg_of X G a1, k1, b1⟩
  have g_check_row : Cal l.prog w K mg base CX0 3 "check_row" ["row"] (sp_check_row K C) := ⟨_, _, ok_check_row F2 T g_is_pair, PySem.W.mg_of X G a2, k2, b2⟩
  have g_last_felled : Cal l.prog w K mg base CX0 1 "last_felled" ["row", "stone", "side"] (sp_last_felled K C) := ⟨_, _, ok_last_felled F3 T, PySem.W.mg_of X G a3, k3, b3⟩
  have g_felled_by : Cal l.prog w K mg base CX0 2 "felled_by" ["row", "stone", "side"] (sp_felled_by K C) := ⟨_, _, ok_felled_by F4 T g_last_felled, PySem.W.mg_of X G a4, k4, b4⟩
  have g_Fewest_init : CalI l.prog w K mg base CX0 1 C.Fewest ["self", "pushes", "stones"] (sp_Fewest_init K C) := ⟨_, _, ok_Fewest_init F5 T, ⟨mk_Fewest, a5, i5, kc_Fewest⟩, b5⟩
  have g_Fewest_shows : CalM l.prog w K mg base CX0 3 C.Fewest "shows" ["self", "row"] (sp_Fewest_shows K C) := ⟨_, _, ok_Fewest_shows F6 T g_felled_by g_last_felled, ⟨a6, i6, k6⟩, b6⟩
  have g_spans_of : Cal l.prog w K mg base CX0 2 "spans_of" ["row"] (sp_spans_of K C) := ⟨_, _, ok_spans_of F7 T g_last_felled, PySem.W.mg_of X G a7, k7, b7⟩
  have g_fewest : Cal l.prog w K mg base CX0 4 "fewest" ["row"] (sp_fewest K C) := ⟨_, _, ok_fewest F8 T g_check_row g_spans_of g_Fewest_init, PySem.W.mg_of X G a8, k8, b8⟩
  have g_law_row : Cal l.prog w K mg base CX0 1 "_law_row" ["_law_script"] (sp_law_row K C) := ⟨_, _, ok_law_row F9 T, PySem.W.mg_of X G a9, k9, b9⟩
  have g_law_numbers : Cal l.prog w K mg base CX0 1 "_law_numbers" ["_law_found"] (sp_law_numbers K C) := ⟨_, _, ok_law_numbers F10 T, PySem.W.mg_of X G a10, k10, b10⟩
  have g_law_felled : Cal l.prog w K mg base CX0 1 "_law_felled" ["_law_row_here", "_law_stone", "_law_side"] (sp_law_felled K C) := ⟨_, _, ok_law_felled F11 T, PySem.W.mg_of X G a11, k11, b11⟩
  have g_law_few : Cal l.prog w K mg base CX0 2 "_law_few" ["_law_row_here", "_law_pushes", "_law_stones"] (sp_law_few K C) := ⟨_, _, ok_law_few F12 T g_law_felled, PySem.W.mg_of X G a12, k12, b12⟩
  have g_law_right : Cal l.prog w K mg base CX0 5 "_law_right" ["_law_row_here", "_law_beside"] (sp_law_right K C) := ⟨_, _, ok_law_right F13 T g_fewest g_law_numbers g_law_few g_Fewest_shows, PySem.W.mg_of X G a13, k13, b13⟩
  exact ok_law F14 T g_law_row g_law_right g_fewest
end FR
open PySem PySem.W PyProof.Rows
set_option maxHeartbeats 0 in
theorem PySem.Challenge.cw_fallrow_k03_whole_fewest_holds : PySem.Challenge.rw_fallrow_k03_whole_fewest.Holds := by
  w_on; o_law; k_head; (case hw => w_witness2)
  k_fill
  refine L2.walk_of (l := PySem.Challenge.rw_fallrow_k03_whole_fewest) (n := 63) (k := 6) (x := "_law_script") (CX := fun _ => L2.CX0) (sp := fun w => FR.FnP _ FR.P_law) rfl (by decide) rfl ⟨rfl, by decide, by decide⟩ (fun w h Y => PySem.W.kIn_of Y) ?F (fun _ _ a ns hl _ hS => FR.law_sp hl hS) (fun _ _ _ _ _ h => h)
  case F =>
    intro w mg fa h KX G hmg
    refine' FR.all_mk KX G hmg ?qAnswer ?qChain ?qStands ?qFewest ?qRights ?qHigher ?a0 ?l0 ?c0 ?k0 ?a1 ?l1 ?c1 ?k1 ?a2 ?l2 ?c2 ?k2 ?a3 ?l3 ?c3 ?k3 ?a4 ?l4 ?c4 ?k4 ?a5 ?i5 ?l5 ?c5 ?k5 ?a6 ?i6 ?l6 ?c6 ?k6 ?a7 ?l7 ?c7 ?k7 ?a8 ?l8 ?c8 ?k8 ?a9 ?l9 ?c9 ?k9 ?a10 ?l10 ?c10 ?k10 ?a11 ?l11 ?c11 ?k11 ?a12 ?l12 ?c12 ?k12 ?a13 ?l13 ?c13 ?k13 ?a14 ?l14 ?c14 ?k14 ?pg_Fewest ?hd_Fewest ?po_Fewest ?sa_Fewest ?ha_Fewest ?hn_Fewest ?ht_Fewest ?hm_Fewest ?mk_Fewest ?kc_Fewest ?no_Fewest_pushes ?no_Fewest_stones ?ic_Answer ?ty_Answer ?su_Fewest_Answer ?ic_Chain ?ty_Chain ?su_Fewest_Chain ?ic_Stands ?ty_Stands ?su_Fewest_Stands ?ic_Fewest ?ty_Fewest ?su_Fewest_Fewest ?ic_Rights ?ty_Rights ?su_Fewest_Rights ?ic_Higher ?ty_Higher ?su_Fewest_Higher ?z_all ?z_any ?z_bool ?z_int ?z_isinstance ?z_len ?z_list ?z_max ?z_min ?z_range ?z_sum ?z_tuple
    (case qAnswer => k_is)
    (case qChain => k_is)
    (case qStands => k_is)
    (case qFewest => k_is)
    (case qRights => k_is)
    (case qHigher => k_is)
    (case a0 => k_is)
    (case l0 => k_is)
    (case c0 => k_is)
    (case k0 => k_is)
    (case a1 => k_is)
    (case l1 => k_is)
    (case c1 => k_is)
    (case k1 => k_is)
    (case a2 => k_is)
    (case l2 => k_is)
    (case c2 => k_is)
    (case k2 => k_is)
    (case a3 => k_is)
    (case l3 => k_is)
    (case c3 => k_is)
    (case k3 => k_is)
    (case a4 => k_is)
    (case l4 => k_is)
    (case c4 => k_is)
    (case k4 => k_is)
    (case a5 => k_is)
    (case i5 => k_is)
    (case l5 => k_is)
    (case c5 => k_is)
    (case k5 => k_is)
    (case a6 => k_is)
    (case i6 => k_is)
    (case l6 => k_is)
    (case c6 => k_is)
    (case k6 => k_is)
    (case a7 => k_is)
    (case l7 => k_is)
    (case c7 => k_is)
    (case k7 => k_is)
    (case a8 => k_is)
    (case l8 => k_is)
    (case c8 => k_is)
    (case k8 => k_is)
    (case a9 => k_is)
    (case l9 => k_is)
    (case c9 => k_is)
    (case k9 => k_is)
    (case a10 => k_is)
    (case l10 => k_is)
    (case c10 => k_is)
    (case k10 => k_is)
    (case a11 => k_is)
    (case l11 => k_is)
    (case c11 => k_is)
    (case k11 => k_is)
    (case a12 => k_is)
    (case l12 => k_is)
    (case c12 => k_is)
    (case k12 => k_is)
    (case a13 => k_is)
    (case l13 => k_is)
    (case c13 => k_is)
    (case k13 => k_is)
    (case a14 => k_is)
    (case l14 => k_is)
    (case c14 => k_is)
    (case k14 => k_is)
    (case pg_Fewest => k_is)
    (case hd_Fewest => k_is)
    (case po_Fewest => k_is)
    (case sa_Fewest => k_is)
    (case ha_Fewest => k_is)
    (case hn_Fewest => k_is)
    (case ht_Fewest => k_is)
    (case hm_Fewest => k_is)
    (case mk_Fewest => k_is)
    (case kc_Fewest => k_is)
    (case no_Fewest_pushes => k_is)
    (case no_Fewest_stones => k_is)
    (case ic_Answer => k_is)
    (case ty_Answer => k_is)
    (case su_Fewest_Answer => first | k_is | rfl)
    (case ic_Chain => k_is)
    (case ty_Chain => k_is)
    (case su_Fewest_Chain => first | k_is | rfl)
    (case ic_Stands => k_is)
    (case ty_Stands => k_is)
    (case su_Fewest_Stands => first | k_is | rfl)
    (case ic_Fewest => k_is)
    (case ty_Fewest => k_is)
    (case su_Fewest_Fewest => first | k_is | rfl)
    (case ic_Rights => k_is)
    (case ty_Rights => k_is)
    (case su_Fewest_Rights => first | k_is | rfl)
    (case ic_Higher => k_is)
    (case ty_Higher => k_is)
    (case su_Fewest_Higher => first | k_is | rfl)
    (case z_all => k_is)
    (case z_any => k_is)
    (case z_bool => k_is)
    (case z_int => k_is)
    (case z_isinstance => k_is)
    (case z_len => k_is)
    (case z_list => k_is)
    (case z_max => k_is)
    (case z_min => k_is)
    (case z_range => k_is)
    (case z_sum => k_is)
    (case z_tuple => k_is)

