import PyProof.Rows.All
import PySem.Challenge.RW_resendways_k05_whole_own
import Wide.All
import OpenK.AllK
import Wide.FinOn
import HandS.ForMost
import HandS.ForExc
import HandS.TupAny
import HandS.IsInst
import HandS.Wide
import HandS.TupMul
import HandS.EndBits
import KE.KDictKeyed
import HandS.Deep
import HandS.Text
import HandS.Codes
import HandS.Walk
import HandS.Zip
import HandS.Iter
import HandS.Comp
import HandS.ExcOwn
import HandS.WordsExc
import HandS.Small
import HandS.Ends
import KE.GoesMore
import KE.KDictPairs
import HandS.Dict
import HandS.More
import HandS.ExcValue
import HandS.Conv
import HandS.TryOnly
set_option Elab.async false
set_option linter.all false
set_option maxRecDepth 100000
set_option maxHeartbeats 4000000
namespace HI
open PySem L2

/-! ### data, cells -/
/-- the fragment, and the world whose hashes stand in the dicts -/
abbrev KW := PySem.W.Frag × World

inductive D where
  | non | bl (b : Bool) | int (i : Int) | str (x : Str)
  | tup (ds : List D) | lst (ds : List D) | scr (ns : List Int) | ref (n : Nat)
  | dn (ks vs : List D)

inductive Cell where
  | lst (ds : List D) | dic (kvs : List (Key × D)) | dead
  | dn (ks vs : List D)

abbrev Env8 := List (Option D)
abbrev Hp8 := List Cell
inductive Res (α : Type) where
  | ok (a : α) | exc (c : Str)
abbrev EF := Env8 → Hp8 → Option (Res D × Hp8)
abbrev TF := Env8 → Hp8 → Option (Res Bool × Hp8)
abbrev AF := Env8 → Hp8 → Option (Res (List D) × Hp8)

/-- a tuple of pairs of whole numbers: only of such a one do we keep that its object has no dict -/
def isP : D → Bool
  | .tup [.int _, .int _] => true
  | _ => false
def pl (ds : List D) : Bool := ds.all isP
def PlT (F : Hp) (a : Addr) (vs : List V) : Prop := ∃ o : Obj, F a = some (.frz o (.tup vs)) ∧ o.dict = none
theorem PlT.mono {F F' : Hp} (s : Same F F') {a : Addr} {vs : List V} (h : PlT F a vs) : PlT F' a vs := by
  obtain ⟨o, e, d⟩ := h
  exact ⟨o, s _ _ e, d⟩
/-! keys of dicts: tuples, nested -/
mutual
def nkD : D → Option NestedKey
  | .non => some .none
  | .int i => some (.num i)
  | .str x => some (.text x)
  | .tup ds => (nkDs ds).map .tup
  | _ => none
def nkDs : List D → Option (List NestedKey)
  | [] => some []
  | d :: ds => match nkD d, nkDs ds with
    | some k, some ks => some (k :: ks)
    | _, _ => none
end
/-- a dict whose keys are the tuples at the addresses given -/
def dnO (w : World) (a : Addr) (kas : List (NestedKey × Addr)) (ws : List V) : HO := .ext fun h => (a == sysModules) = false ∧ kas.length = ws.length ∧ kas.length ≤ 1000000 ∧ (kas.map (·.1)).Nodup ∧ (∀ x ∈ kas, x.1.depth ≤ 8) ∧
  ∃ us, Vals ws us ∧ ∃ o es ep, h.get? a = some o ∧ o.ExactDict ∧ o.data = .dict es ep ∧ es.toList = (kas.zip us).map fun x => (⟨NestedKey.hash w x.1.1, .ref x.1.2, x.2⟩ : DictEntry)
mutual
def Rep (K : KW) (ρ : List Addr) (F : Hp) : D → V → Prop
  | .non, v => v = .non
  | .bl b, v => v = .bl b
  | .int i, v => v = .int i
  | .str x, v => v = .str x
  | .tup ds, v => ∃ a vs, v = .ref a ∧ SqT K.1 F a vs ∧ Reps K ρ F ds vs ∧ (pl ds = true → PlT F a vs)
  | .lst ds, v => ∃ a vs, v = .ref a ∧ F a = some (.lst vs) ∧ Reps K ρ F ds vs
  | .scr ns, v => ∃ a, v = .ref a ∧ SqL K.1 F a (ns.map V.int)
  | .ref n, v => ∃ a, v = .ref a ∧ ρ[n]? = some a
  | .dn ks vs, v => ∃ a kas ws, v = .ref a ∧ F a = some (dnO K.2 a kas ws) ∧ nkDs ks = some (kas.map (·.1)) ∧ Reps K ρ F ks (kas.map fun x => V.ref x.2) ∧ Reps K ρ F vs ws
def Reps (K : KW) (ρ : List Addr) (F : Hp) : List D → List V → Prop
  | [], vs => vs = []
  | d :: ds, vs => ∃ v r, vs = v :: r ∧ Rep K ρ F d v ∧ Reps K ρ F ds r
end

theorem pre_get {α : Type} {l m : List α} (h : l <+: m) {n : Nat} {a : α} (e : l[n]? = some a) : m[n]? = some a := by
  obtain ⟨t, rfl⟩ := h
  have hn : n < l.length := (List.getElem?_eq_some_iff.mp e).1
  rw [List.getElem?_append_left hn]
  exact e
theorem Same.tupS {K : KW} {F F' : Hp} (s : Same F F') {a : Addr} {xs : List V} (h : SqT K.1 F a xs) : SqT K.1 F' a xs := by
  rcases h with h | h
  · refine .inl ?_
    rcases h with h | ⟨o, h⟩
    · exact .inl (s _ _ h)
    · exact .inr ⟨o, s _ _ h⟩
  · exact .inr h
theorem Same.lstS {K : KW} {F F' : Hp} (s : Same F F') {a : Addr} {xs : List V} (h : SqL K.1 F a xs) : SqL K.1 F' a xs := Same.seq s h

mutual
theorem Rep.mono {K : KW} {ρ ρ' : List Addr} {F F' : Hp} (s : Same F F') (p : ρ <+: ρ') : ∀ (d : D) (v : V), Rep K ρ F d v → Rep K ρ' F' d v
  | .non, _, h => h
  | .bl _, _, h => h
  | .int _, _, h => h
  | .str _, _, h => h
  | .tup ds, v, h => by
    obtain ⟨a, vs, e, q, r, pr⟩ := h
    exact ⟨a, vs, e, Same.tupS s q, Reps.mono s p ds vs r, fun z => (pr z).mono s⟩
  | .lst ds, v, h => by
    obtain ⟨a, vs, e, q, r⟩ := h
    exact ⟨a, vs, e, s _ _ q, Reps.mono s p ds vs r⟩
  | .scr ns, v, h => by
    obtain ⟨a, e, q⟩ := h
    exact ⟨a, e, Same.lstS s q⟩
  | .ref n, v, h => by
    obtain ⟨a, e, q⟩ := h
    exact ⟨a, e, pre_get p q⟩
  | .dn ks vs, v, h => by
    obtain ⟨a, kas, ws, e, q, q1, q2, q3⟩ := h
    exact ⟨a, kas, ws, e, s _ _ q, q1, Reps.mono s p ks _ q2, Reps.mono s p vs ws q3⟩
theorem Reps.mono {K : KW} {ρ ρ' : List Addr} {F F' : Hp} (s : Same F F') (p : ρ <+: ρ') : ∀ (ds : List D) (vs : List V), Reps K ρ F ds vs → Reps K ρ' F' ds vs
  | [], _, h => h
  | d :: ds, vs, h => by
    obtain ⟨v, r, e, q1, q2⟩ := h
    exact ⟨v, r, e, Rep.mono s p d v q1, Reps.mono s p ds r q2⟩
end
theorem Reps.len {K : KW} {ρ : List Addr} {F : Hp} : ∀ {ds : List D} {vs : List V}, Reps K ρ F ds vs → ds.length = vs.length
  | [], _, h => by rw [show _ = _ from h]; rfl
  | d :: ds, vs, h => by
    obtain ⟨v, r, rfl, _, q⟩ := h
    simp [Reps.len q]
theorem Reps.app {K : KW} {ρ : List Addr} {F : Hp} : ∀ {ds es : List D} {vs ws : List V}, Reps K ρ F ds vs → Reps K ρ F es ws → Reps K ρ F (ds ++ es) (vs ++ ws)
  | [], _, _, _, h, h' => by rw [show _ = _ from h]; exact h'
  | d :: ds, _, _, _, h, h' => by
    obtain ⟨v, r, rfl, q1, q⟩ := h
    exact ⟨v, r ++ _, rfl, q1, Reps.app q h'⟩
theorem Reps.get {K : KW} {ρ : List Addr} {F : Hp} : ∀ {ds : List D} {vs : List V} {i : Nat} {d : D}, Reps K ρ F ds vs → ds[i]? = some d → ∃ v, vs[i]? = some v ∧ Rep K ρ F d v
  | [], _, _, _, _, e => by simp at e
  | _ :: _, _, 0, _, h, e => by
    obtain ⟨v, r, rfl, q1, _⟩ := h
    simp at e
    subst e
    exact ⟨v, rfl, q1⟩
  | _ :: _, _, i + 1, _, h, e => by
    obtain ⟨v, r, rfl, _, q⟩ := h
    exact Reps.get (i := i) q (by simpa using e)
theorem Reps.get' {K : KW} {ρ : List Addr} {F : Hp} {ds : List D} {vs : List V} {i : Nat} {v : V} (h : Reps K ρ F ds vs) (e : vs[i]? = some v) : ∃ d, ds[i]? = some d ∧ Rep K ρ F d v := by
  have hl := h.len
  have hi : i < vs.length := (List.getElem?_eq_some_iff.mp e).1
  have hd : ds[i]? = some ds[i] := by simp
  obtain ⟨w, ew, r⟩ := h.get hd
  rw [e] at ew
  cases ew
  exact ⟨_, hd, r⟩
theorem Reps.take {K : KW} {ρ : List Addr} {F : Hp} : ∀ {ds : List D} {vs : List V} (n : Nat), Reps K ρ F ds vs → Reps K ρ F (ds.take n) (vs.take n)
  | [], _, _, h => by rw [show _ = _ from h]; simp [Reps]
  | _ :: _, _, 0, h => by simp [Reps]
  | _ :: _, _, n + 1, h => by
    obtain ⟨v, r, rfl, q1, q⟩ := h
    exact ⟨v, _, rfl, q1, Reps.take n q⟩
theorem Reps.drop {K : KW} {ρ : List Addr} {F : Hp} : ∀ {ds : List D} {vs : List V} (n : Nat), Reps K ρ F ds vs → Reps K ρ F (ds.drop n) (vs.drop n)
  | [], _, _, h => by rw [show _ = _ from h]; simp [Reps]
  | _ :: _, _, 0, h => h
  | _ :: _, _, n + 1, h => by
    obtain ⟨v, r, rfl, q1, q⟩ := h
    exact Reps.drop n q
theorem Reps.set {K : KW} {ρ : List Addr} {F : Hp} {d : D} {v : V} (hd : Rep K ρ F d v) : ∀ {ds : List D} {vs : List V} (n : Nat), Reps K ρ F ds vs → Reps K ρ F (ds.set n d) (vs.set n v)
  | [], _, _, h => by rw [show _ = _ from h]; simp [Reps]
  | _ :: _, _, 0, h => by
    obtain ⟨w, r, rfl, q1, q⟩ := h
    exact ⟨v, r, rfl, hd, q⟩
  | _ :: _, _, n + 1, h => by
    obtain ⟨w, r, rfl, q1, q⟩ := h
    exact ⟨w, _, rfl, q1, Reps.set hd n q⟩
theorem Reps.one {K : KW} {ρ : List Addr} {F : Hp} {d : D} {v : V} (hd : Rep K ρ F d v) : Reps K ρ F [d] [v] := ⟨v, [], rfl, hd, rfl⟩
theorem Reps.ints {K : KW} {ρ : List Addr} {F : Hp} : ∀ (ns : List Int), Reps K ρ F (ns.map D.int) (ns.map V.int)
  | [] => rfl
  | n :: ns => ⟨.int n, _, rfl, rfl, Reps.ints ns⟩
theorem Reps.rep {K : KW} {ρ : List Addr} {F : Hp} {ds : List D} {vs : List V} (h : Reps K ρ F ds vs) : ∀ k : Nat, Reps K ρ F (List.replicate k ds).flatten (List.replicate k vs).flatten
  | 0 => rfl
  | k + 1 => by
    rw [List.replicate_succ, List.replicate_succ, List.flatten_cons, List.flatten_cons]
    exact h.app (Reps.rep h k)

/-! ### the state -/
def CellR (K : KW) (ρ : List Addr) (F H : Hp) (a : Addr) : Cell → Prop
  | .lst ds => ∃ vs, H a = some (.lst vs) ∧ Reps K ρ F ds vs
  | .dic kvs => ∃ ws : List (Key × V), H a = some (.dK ws) ∧ ws.map (·.1) = kvs.map (·.1) ∧ Reps K ρ F (kvs.map (·.2)) (ws.map (·.2))
  | .dead => True
  | .dn ks vs => ∃ kas ws, H a = some (dnO K.2 a kas ws) ∧ nkDs ks = some (kas.map (·.1)) ∧ Reps K ρ F ks (kas.map fun x => V.ref x.2) ∧ Reps K ρ F vs ws
def Cell.live : Cell → Bool
  | .dead => false
  | _ => true
structure Sim (K : KW) (ρ : List Addr) (F H : Hp) (hp : Hp8) : Prop where
  sub : Same F H
  nd : ρ.Nodup
  len : hp.length = ρ.length
  out : ∀ (n : Nat) (c : Cell) (a : Addr), hp[n]? = some c → ρ[n]? = some a → c.live = true → F a = none
  live : ∀ a ∈ ρ, H a ≠ none
  cell : ∀ (n : Nat) (c : Cell) (a : Addr), hp[n]? = some c → ρ[n]? = some a → CellR K ρ F H a c
structure Ext (ρ ρ' : List Addr) (F H F' H' : Hp) : Prop where
  pre : ρ <+: ρ'
  same : Same F F'
  keep : ∀ a o, H a = some o → F a = none → a ∉ ρ → F' a = none ∧ H' a = some o
  fresh : ∀ a ∈ ρ', a ∈ ρ ∨ H a = none
theorem CellR.mono {K : KW} {ρ ρ' : List Addr} {F F' H H' : Hp} {a : Addr} {c : Cell} (s : Same F F') (p : ρ <+: ρ') (e : H' a = H a) (h : CellR K ρ F H a c) : CellR K ρ' F' H' a c := by
  cases c with
  | lst ds =>
    obtain ⟨vs, q, r⟩ := h
    exact ⟨vs, e.trans q, Reps.mono s p _ _ r⟩
  | dic kvs =>
    obtain ⟨ws, q, r1, r2⟩ := h
    exact ⟨ws, e.trans q, r1, Reps.mono s p _ _ r2⟩
  | dead => trivial
  | dn ks vs =>
    obtain ⟨kas, ws, q, q1, q2, q3⟩ := h
    exact ⟨kas, ws, e.trans q, q1, Reps.mono s p _ _ q2, Reps.mono s p _ _ q3⟩
theorem Ext.refl (ρ : List Addr) (F H : Hp) : Ext ρ ρ F H F H := ⟨List.prefix_refl _, Same.refl _, fun _ _ h n _ => ⟨n, h⟩, fun _ h => .inl h⟩
theorem Ext.trans {K : KW} {ρ ρ1 ρ2 : List Addr} {F H F1 H1 F2 H2 : Hp} {hp1 : Hp8} (a : Ext ρ ρ1 F H F1 H1) (s : Sim K ρ1 F1 H1 hp1) (b : Ext ρ1 ρ2 F1 H1 F2 H2) : Ext ρ ρ2 F H F2 H2 := by
  refine ⟨a.pre.trans b.pre, a.same.trans b.same, fun c o h n hc => ?_, fun c hc => ?_⟩
  · obtain ⟨n1, h1⟩ := a.keep c o h n hc
    exact b.keep c o h1 n1 fun z => (a.fresh c z).elim hc fun q => by rw [h] at q; cases q
  · rcases b.fresh c hc with z | z
    · exact a.fresh c z
    · by_cases hr : c ∈ ρ
      · exact .inl hr
      · refine .inr ?_
        cases q : H c with
        | none => rfl
        | some o =>
          cases f : F c with
          | none =>
            have := (a.keep c o q f hr).2
            rw [z] at this; cases this
          | some u =>
            have := s.sub _ _ (a.same _ _ f)
            rw [z] at this; cases this

/-- a new object is frozen -/
theorem Sim.frz {K : KW} {ρ : List Addr} {F H : Hp} {hp : Hp8} (s : Sim K ρ F H hp) {p : Addr} (hn : H p = none) (o : HO) : Sim K ρ (upd F p o) (upd H p o) hp ∧ Ext ρ ρ F H (upd F p o) (upd H p o) ∧ Same F (upd F p o) := by
  have np : ∀ b, H b ≠ none → b ≠ p := fun b h e => h (e ▸ hn)
  have hF : F p = none := Same.free s.sub hn
  have sm : Same F (upd F p o) := fun b u e => by
    rw [upd_ne (fun z => by rw [z, hF] at e; cases e)]
    exact e
  refine ⟨⟨fun b u e => ?_, s.nd, s.len, fun n c a h1 h2 h3 => ?_, fun a ha => ?_, fun n c a h1 h2 => ?_⟩, ⟨List.prefix_refl _, sm, fun a u h n _ => ?_, fun _ h => .inl h⟩, sm⟩
  · by_cases hb : b = p
    · subst hb
      rw [upd_same] at e ⊢
      exact e
    · rw [upd_ne hb] at e ⊢
      exact s.sub _ _ e
  · rw [upd_ne (np a (s.live a (List.mem_of_getElem? h2)))]
    exact s.out n c a h1 h2 h3
  · rw [upd_ne (np a (s.live a ha))]
    exact s.live a ha
  · have ha : a ∈ ρ := List.mem_of_getElem? h2
    exact (s.cell n c a h1 h2).mono sm (List.prefix_refl _) (upd_ne (np a (s.live a ha)))
  · have hap : a ≠ p := fun z => by rw [z, hn] at h; cases h
    rw [upd_ne hap, upd_ne hap]
    exact ⟨n, h⟩
/-- a new object is a cell -/
theorem Sim.new {K : KW} {ρ : List Addr} {F H : Hp} {hp : Hp8} (s : Sim K ρ F H hp) {p : Addr} (hn : H p = none) (o : HO) (c : Cell) (hc : CellR K (ρ ++ [p]) F (upd H p o) p c) :
    Sim K (ρ ++ [p]) F (upd H p o) (hp ++ [c]) ∧ Ext ρ (ρ ++ [p]) F H F (upd H p o) := by
  have np : ∀ b, H b ≠ none → b ≠ p := fun b h e => h (e ▸ hn)
  have hF : F p = none := Same.free s.sub hn
  have pp : ρ <+: ρ ++ [p] := List.prefix_append _ _
  refine ⟨⟨fun b u e => ?_, ?_, by simp [s.len], fun n c' a h1 h2 h3 => ?_, fun a ha => ?_, fun n c' a h1 h2 => ?_⟩, ⟨pp, Same.refl _, fun a u h n hr => ?_, fun a ha => ?_⟩⟩
  · rw [upd_ne (fun z => by rw [z, hF] at e; cases e)]
    exact s.sub _ _ e
  · rw [List.nodup_append]
    refine ⟨s.nd, by simp, fun a ha b hb => ?_⟩
    simp at hb
    subst hb
    exact np a (s.live a ha)
  · by_cases hlt : n < hp.length
    · rw [List.getElem?_append_left hlt] at h1
      rw [List.getElem?_append_left (by rw [← s.len]; exact hlt)] at h2
      exact s.out n c' a h1 h2 h3
    · have hlen : n = hp.length := by
        have := (List.getElem?_eq_some_iff.mp h1).1
        simp at this
        omega
      subst hlen
      rw [s.len, List.getElem?_append_right (Nat.le_refl _), Nat.sub_self] at h2
      simp at h2
      subst h2
      exact hF
  · rcases List.mem_append.mp ha with h | h
    · rw [upd_ne (np a (s.live a h))]
      exact s.live a h
    · simp at h
      subst h
      rw [upd_same]
      exact fun z => by cases z
  · by_cases hlt : n < hp.length
    · rw [List.getElem?_append_left hlt] at h1
      rw [List.getElem?_append_left (by rw [← s.len]; exact hlt)] at h2
      exact (s.cell n c' a h1 h2).mono (Same.refl _) pp (upd_ne (np a (s.live a (List.mem_of_getElem? h2))))
    · have hlen : n = hp.length := by
        have := (List.getElem?_eq_some_iff.mp h1).1
        simp at this
        omega
      subst hlen
      rw [List.getElem?_append_right (Nat.le_refl _), Nat.sub_self] at h1
      rw [s.len, List.getElem?_append_right (Nat.le_refl _), Nat.sub_self] at h2
      simp at h1 h2
      subst h1 h2
      exact hc
  · have hap : a ≠ p := fun z => by rw [z, hn] at h; cases h
    rw [upd_ne hap]
    exact ⟨n, h⟩
  · rcases List.mem_append.mp ha with h | h
    · exact .inl h
    · simp at h
      subst h
      exact .inr hn
/-- a cell is written -/
theorem Sim.put {K : KW} {ρ : List Addr} {F H : Hp} {hp : Hp8} (s : Sim K ρ F H hp) {n : Nat} {a : Addr} {c0 : Cell} (hn : ρ[n]? = some a) (h0 : hp[n]? = some c0) (hl0 : c0.live = true) (o : HO) (c : Cell) (hc : CellR K ρ F (upd H a o) a c) :
    Sim K ρ F (upd H a o) (hp.set n c) ∧ Ext ρ ρ F H F (upd H a o) := by
  have ha : a ∈ ρ := List.mem_of_getElem? hn
  have hF := s.out n c0 a h0 hn hl0
  have hnl : n < ρ.length := (List.getElem?_eq_some_iff.mp hn).1
  refine ⟨⟨fun b u e => ?_, s.nd, by simp [s.len], fun m c' b h1 h2 h3 => ?_, fun b hb => ?_, fun m c' b h1 h2 => ?_⟩, ⟨List.prefix_refl _, Same.refl _, fun b u h n hr => ?_, fun b hb => .inl hb⟩⟩
  · rw [upd_ne (fun z => by rw [z, hF] at e; cases e)]
    exact s.sub _ _ e
  · by_cases hm : m = n
    · subst hm
      rw [hn] at h2
      cases h2
      exact hF
    · rw [List.getElem?_set_ne (Ne.symm hm)] at h1
      exact s.out m c' b h1 h2 h3
  · by_cases e : b = a
    · subst e
      rw [upd_same]
      exact fun z => by cases z
    · rw [upd_ne e]
      exact s.live b hb
  · by_cases hm : m = n
    · subst hm
      rw [hn] at h2
      cases h2
      rw [List.getElem?_set_self (by rw [s.len]; exact hnl)] at h1
      cases h1
      exact hc
    · rw [List.getElem?_set_ne (Ne.symm hm)] at h1
      have hba : b ≠ a := by
        rintro rfl
        have h3 := List.getElem?_eq_some_iff.mp h2
        have h4 := List.getElem?_eq_some_iff.mp hn
        obtain ⟨h31, h32⟩ := h3
        obtain ⟨h41, h42⟩ := h4
        exact hm ((List.getElem_inj s.nd).mp (h32.trans h42.symm))
      exact (s.cell m c' b h1 h2).mono (Same.refl _) (List.prefix_refl _) (upd_ne hba)
  · have hba : b ≠ a := fun z => hr (z ▸ ha)
    rw [upd_ne hba]
    exact ⟨n, h⟩
/-- a list cell is frozen: what stood in it is told for good, the cell is dead -/
theorem Sim.iceO {K : KW} {ρ : List Addr} {F H : Hp} {hp : Hp8} (s : Sim K ρ F H hp) {n : Nat} {a : Addr} {c0 : Cell} {o : HO} (hn : ρ[n]? = some a) (h0 : hp[n]? = some c0) (hl0 : c0.live = true) (hv : H a = some o) :
    Sim K ρ (upd F a o) H (hp.set n .dead) ∧ Ext ρ ρ F H (upd F a o) H ∧ Same F (upd F a o) := by
  have ha : a ∈ ρ := List.mem_of_getElem? hn
  have hF := s.out n _ a h0 hn hl0
  have sm : Same F (upd F a o) := fun b u e => by
    rw [upd_ne (fun z => by rw [z, hF] at e; cases e)]
    exact e
  have hnl : n < ρ.length := (List.getElem?_eq_some_iff.mp hn).1
  have ne : ∀ (m : Nat) (b : Addr), m ≠ n → ρ[m]? = some b → b ≠ a := fun m b hm h2 => by
    rintro rfl
    obtain ⟨h31, h32⟩ := List.getElem?_eq_some_iff.mp h2
    obtain ⟨h41, h42⟩ := List.getElem?_eq_some_iff.mp hn
    exact hm ((List.getElem_inj s.nd).mp (h32.trans h42.symm))
  refine ⟨⟨fun b u e => ?_, s.nd, by simp [s.len], fun m c b h1 h2 h3 => ?_, s.live, fun m c b h1 h2 => ?_⟩, ⟨List.prefix_refl _, sm, fun b u h n' hr => ?_, fun b hb => .inl hb⟩, sm⟩
  · by_cases hb : b = a
    · subst hb
      rw [upd_same] at e
      rw [← e]
      exact hv
    · rw [upd_ne hb] at e
      exact s.sub _ _ e
  · by_cases hm : m = n
    · subst hm
      rw [List.getElem?_set_self (by rw [s.len]; exact hnl)] at h1
      cases h1
      cases h3
    · rw [List.getElem?_set_ne (Ne.symm hm)] at h1
      rw [upd_ne (ne m b hm h2)]
      exact s.out m c b h1 h2 h3
  · by_cases hm : m = n
    · subst hm
      rw [List.getElem?_set_self (by rw [s.len]; exact hnl)] at h1
      cases h1
      trivial
    · rw [List.getElem?_set_ne (Ne.symm hm)] at h1
      exact (s.cell m c b h1 h2).mono sm (List.prefix_refl _) rfl
  · have hba : b ≠ a := fun z => hr (z ▸ ha)
    rw [upd_ne hba]
    exact ⟨n', h⟩
theorem Sim.ice {K : KW} {ρ : List Addr} {F H : Hp} {hp : Hp8} (s : Sim K ρ F H hp) {n : Nat} {a : Addr} {ds : List D} {vs : List V} (hn : ρ[n]? = some a) (h0 : hp[n]? = some (.lst ds)) (hv : H a = some (.lst vs)) :
    Sim K ρ (upd F a (.lst vs)) H (hp.set n .dead) ∧ Ext ρ ρ F H (upd F a (.lst vs)) H ∧ Same F (upd F a (.lst vs)) := s.iceO hn h0 rfl hv
/-! ### closed data -/
mutual
def closed : D → Bool
  | .tup ds => closeds ds
  | .lst ds => closeds ds
  | .dn ks vs => closeds ks && closeds vs
  | .ref _ => false
  | _ => true
def closeds : List D → Bool
  | [] => true
  | d :: ds => closed d && closeds ds
end
mutual
theorem Rep.shift {K : KW} {ρ ρ' : List Addr} {F : Hp} : ∀ (d : D) (v : V), closed d = true → Rep K ρ F d v → Rep K ρ' F d v
  | .non, _, _, h => h
  | .bl _, _, _, h => h
  | .int _, _, _, h => h
  | .str _, _, _, h => h
  | .tup ds, v, c, h => by
    obtain ⟨a, vs, e, q, r, pr⟩ := h
    exact ⟨a, vs, e, q, Reps.shift ds vs c r, pr⟩
  | .lst ds, v, c, h => by
    obtain ⟨a, vs, e, q, r⟩ := h
    exact ⟨a, vs, e, q, Reps.shift ds vs c r⟩
  | .scr ns, v, _, h => h
  | .ref n, v, c, h => by cases c
  | .dn ks vs, v, c, h => by
    obtain ⟨a, kas, ws, e, q, q1, q2, q3⟩ := h
    have c' : closeds ks = true ∧ closeds vs = true := by simpa [closed] using c
    exact ⟨a, kas, ws, e, q, q1, Reps.shift ks _ c'.1 q2, Reps.shift vs ws c'.2 q3⟩
theorem Reps.shift {K : KW} {ρ ρ' : List Addr} {F : Hp} : ∀ (ds : List D) (vs : List V), closeds ds = true → Reps K ρ F ds vs → Reps K ρ' F ds vs
  | [], _, _, h => h
  | d :: ds, vs, c, h => by
    obtain ⟨v, r, e, q1, q2⟩ := h
    have c' : closed d = true ∧ closeds ds = true := by simpa [closeds] using c
    exact ⟨v, r, e, Rep.shift d v c'.1 q1, Reps.shift ds r c'.2 q2⟩
end
/-! a result: lists that are cells are told by what they hold -/
mutual
def unref (hp : Hp8) : D → Option D
  | .tup ds => (unrefs hp ds).map .tup
  | .ref n => match hp[n]? with
    | some (.lst ds) => if closeds ds then some (.lst ds) else none
    | some (.dn ks vs) => if closeds ks && closeds vs then some (.dn ks vs) else none
    | _ => none
  | .lst ds => if closeds ds then some (.lst ds) else none
  | .dn ks vs => if closeds ks && closeds vs then some (.dn ks vs) else none
  | d => some d
def unrefs (hp : Hp8) : List D → Option (List D)
  | [] => some []
  | d :: ds => match unref hp d, unrefs hp ds with
    | some e, some es => some (e :: es)
    | _, _ => none
end
mutual
theorem unref_closed (hp : Hp8) : ∀ (d e : D), unref hp d = some e → closed e = true
  | .non, e, h => by cases h; rfl
  | .bl _, e, h => by cases h; rfl
  | .int _, e, h => by cases h; rfl
  | .str _, e, h => by cases h; rfl
  | .scr _, e, h => by cases h; rfl
  | .tup ds, e, h => by
    cases q : unrefs hp ds with
    | none => simp [unref, q] at h
    | some es =>
      simp [unref, q] at h
      subst h
      exact unrefs_closed hp ds es q
  | .lst ds, e, h => by
    simp only [unref] at h
    split at h
    · rename_i c
      cases h
      exact c
    · cases h
  | .ref n, e, h => by
    simp only [unref] at h
    split at h
    · split at h
      · rename_i c
        cases h
        exact c
      · cases h
    · split at h
      · rename_i c
        cases h
        exact c
      · cases h
    · cases h
  | .dn ks vs, e, h => by
    simp only [unref] at h
    split at h
    · rename_i c
      cases h
      exact c
    · cases h
theorem unrefs_closed (hp : Hp8) : ∀ (ds es : List D), unrefs hp ds = some es → closeds es = true
  | [], es, h => by cases h; rfl
  | d :: ds, es, h => by
    simp only [unrefs] at h
    split at h
    · rename_i e' es' h1 h2
      cases h
      simp [closeds, unref_closed hp d e' h1, unrefs_closed hp ds es' h2]
    · cases h
end
theorem isP_unref {hp : Hp8} : ∀ {d e : D}, unref hp d = some e → isP e = true → isP d = true
  | .tup [.int _, .int _], _, _, _ => rfl
  | .tup ds, e, h, p => by
    cases q : unrefs hp ds with
    | none => simp [unref, q] at h
    | some es =>
      simp [unref, q] at h
      subst h
      unfold isP at p
      split at p
      · rename_i i j e'
        cases e'
        match ds, q with
        | [], q => cases q
        | [x], q =>
          simp only [unrefs] at q
          split at q
          · rename_i a b h1 h2
            cases h2
            cases q
          · cases q
        | [x, y], q =>
          simp only [unrefs] at q
          cases h1 : unref hp x with
          | none => simp [h1] at q
          | some x' =>
            cases h2 : unref hp y with
            | none => simp [h1, h2] at q
            | some y' =>
              simp [h1, h2] at q
              obtain ⟨rfl, rfl⟩ := q
              have int_of : ∀ {d : D} {i : Int}, unref hp d = some (.int i) → d = .int i := fun {d i} h => by
                cases d with
                | int k => cases h; rfl
                | tup zs =>
                  simp only [unref] at h
                  cases r : unrefs hp zs with
                  | none => rw [r] at h; cases h
                  | some zs' => rw [r] at h; cases h
                | lst zs => simp only [unref] at h; split at h <;> cases h
                | ref n => simp only [unref] at h; split at h <;> (try split at h) <;> cases h
                | dn ks vs => simp only [unref] at h; split at h <;> cases h
                | _ => cases h
              rw [int_of h1, int_of h2]
              rfl
        | x :: y :: z :: r, q =>
          simp only [unrefs] at q
          split at q
          · rename_i a b h1 h2
            split at h2
            · rename_i a2 b2 h3 h4
              split at h4
              · cases h4; cases h2; cases q
              · cases h4
            · cases h2
          · cases q
      · cases p
  | .lst ds, e, h, p => by
    simp only [unref] at h
    split at h
    · cases h; cases p
    · cases h
  | .ref n, e, h, p => by
    simp only [unref] at h
    split at h
    · split at h
      · cases h; cases p
      · cases h
    · split at h
      · cases h; cases p
      · cases h
    · cases h
  | .dn ks vs, e, h, p => by
    simp only [unref] at h
    split at h
    · cases h; cases p
    · cases h
  | .non, e, h, p => by cases h; cases p
  | .bl _, e, h, p => by cases h; cases p
  | .int _, e, h, p => by cases h; cases p
  | .str _, e, h, p => by cases h; cases p
  | .scr _, e, h, p => by cases h; cases p
theorem pl_unrefs {hp : Hp8} : ∀ {ds es : List D}, unrefs hp ds = some es → pl es = true → pl ds = true
  | [], es, _, _ => rfl
  | d :: ds, es, h, p => by
    simp only [unrefs] at h
    split at h
    · rename_i e' es' h1 h2
      cases h
      simp only [pl, List.all_cons, Bool.and_eq_true] at p ⊢
      exact ⟨isP_unref h1 p.1, pl_unrefs h2 p.2⟩
    · cases h
/-- F with the list cells of ρ' frozen -/
def frzAll (ρ' : List Addr) (F H : Hp) : Hp := fun b => if b ∈ ρ' then (match H b with | some (.lst vs) => some (.lst vs) | some (.ext φ) => some (.ext φ) | _ => F b) else F b
theorem frzAll_same {K : KW} {ρ : List Addr} {F H : Hp} {hp : Hp8} (s : Sim K ρ F H hp) : Same F (frzAll ρ F H) := fun b o e => by
  unfold frzAll
  split
  · rw [s.sub _ _ e]
    cases o <;> first | rfl | exact e
  · exact e
mutual
theorem Rep.unref {K : KW} {ρ ρ0 : List Addr} {F H : Hp} {hp : Hp8} (s : Sim K ρ F H hp) : ∀ (d e : D) (v : V), HI.unref hp d = some e → Rep K ρ F d v → Rep K ρ0 (frzAll ρ F H) e v
  | .non, e, v, h, r => by cases h; exact r
  | .bl _, e, v, h, r => by cases h; exact r
  | .int _, e, v, h, r => by cases h; exact r
  | .str _, e, v, h, r => by cases h; exact r
  | .scr ns, e, v, h, r => by
    cases h
    exact Rep.shift (ρ := ρ) _ _ rfl (Rep.mono (frzAll_same s) (List.prefix_refl _) _ _ r)
  | .tup ds, e, v, h, r => by
    obtain ⟨a, vs, ev, q, r, pr⟩ := r
    cases q' : unrefs hp ds with
    | none => simp [HI.unref, q'] at h
    | some es =>
      simp [HI.unref, q'] at h
      subst h
      exact ⟨a, vs, ev, Same.tupS (frzAll_same s) q, Reps.unref s ds es vs q' r, fun z => (pr (pl_unrefs q' z)).mono (frzAll_same s)⟩
  | .lst ds, e, v, h, r => by
    simp only [HI.unref] at h
    split at h
    · rename_i c
      cases h
      exact Rep.shift (ρ := ρ) _ _ c (Rep.mono (frzAll_same s) (List.prefix_refl _) _ _ r)
    · cases h
  | .ref n, e, v, h, r => by
    obtain ⟨a, ev, q⟩ := r
    simp only [HI.unref] at h
    split at h
    · rename_i ds hc
      split at h
      · rename_i c
        cases h
        obtain ⟨vs, hv, rv⟩ := s.cell n _ a hc q
        refine ⟨a, vs, ev, ?_, Reps.shift (ρ := ρ) _ _ c (Reps.mono (frzAll_same s) (List.prefix_refl _) _ _ rv)⟩
        simp [frzAll, List.mem_of_getElem? q, hv]
      · cases h
    · rename_i ks vs hc
      split at h
      · rename_i c
        cases h
        rw [Bool.and_eq_true] at c
        obtain ⟨kas, ws, hv, h1, h2, h3⟩ := s.cell n _ a hc q
        refine ⟨a, kas, ws, ev, ?_, h1, Reps.shift (ρ := ρ) _ _ c.1 (Reps.mono (frzAll_same s) (List.prefix_refl _) _ _ h2), Reps.shift (ρ := ρ) _ _ c.2 (Reps.mono (frzAll_same s) (List.prefix_refl _) _ _ h3)⟩
        simp [frzAll, List.mem_of_getElem? q, hv, dnO]
      · cases h
    · cases h
  | .dn ks vs, e, v, h, r => by
    simp only [HI.unref] at h
    split at h
    · rename_i c
      cases h
      exact Rep.shift (ρ := ρ) _ _ c (Rep.mono (frzAll_same s) (List.prefix_refl _) _ _ r)
    · cases h
theorem Reps.unref {K : KW} {ρ ρ0 : List Addr} {F H : Hp} {hp : Hp8} (s : Sim K ρ F H hp) : ∀ (ds es : List D) (vs : List V), HI.unrefs hp ds = some es → Reps K ρ F ds vs → Reps K ρ0 (frzAll ρ F H) es vs
  | [], es, vs, h, r => by cases h; exact r
  | d :: ds, es, vs, h, r => by
    obtain ⟨v, w, ev, r1, r2⟩ := r
    simp only [HI.unrefs] at h
    split at h
    · rename_i e' es' h1 h2
      cases h
      exact ⟨v, w, ev, Rep.unref s d e' v h1 r1, Reps.unref s ds es' w h2 r2⟩
    · cases h
end
end HI

namespace HI
open PySem L2

abbrev _root_.L2.Cx.KW (X : Cx) : KW := (X.K, X.w)
def EnvR (K : KW) (ρ : List Addr) (F : Hp) (env : Env8) (σ : St) : Prop :=
  env.length = σ.length ∧ ∀ (i : Nat) (d : D), env[i]? = some (some d) → ∃ v, σ[i]? = some (some v) ∧ Rep K ρ F d v
theorem EnvR.mono {K : KW} {ρ ρ' : List Addr} {F F' : Hp} {env : Env8} {σ : St} (s : Same F F') (p : ρ <+: ρ') (h : EnvR K ρ F env σ) : EnvR K ρ' F' env σ :=
  ⟨h.1, fun i d e => let ⟨v, q, r⟩ := h.2 i d e; ⟨v, q, Rep.mono s p d v r⟩⟩
theorem EnvR.set {K : KW} {ρ : List Addr} {F : Hp} {env : Env8} {σ : St} (h : EnvR K ρ F env σ) {d : D} {v : V} (r : Rep K ρ F d v) (i : Nat) : EnvR K ρ F (env.set i (some d)) (σ.set i (some v)) := by
  refine ⟨by simp [h.1], fun j e q => ?_⟩
  by_cases hj : j = i
  · subst hj
    have hl : j < env.length := by
      have := (List.getElem?_eq_some_iff.mp q).1
      simpa using this
    rw [List.getElem?_set_self hl] at q
    cases q
    exact ⟨v, by rw [List.getElem?_set_self (by rw [← h.1]; exact hl)], r⟩
  · rw [List.getElem?_set_ne (Ne.symm hj)] at q
    obtain ⟨w, q1, q2⟩ := h.2 j e q
    exact ⟨w, by rw [List.getElem?_set_ne (Ne.symm hj)]; exact q1, q2⟩

abbrev GF (α : Type) := Env8 → Hp8 → Option (Res α × Hp8)
def Out {α : Type} (mg : Str → Option Value) (E : XK) (H : Hp) (ok : α → Prop) : Res α → Prop
  | .ok d => ok d
  | .exc c => ∀ C, mg c = some (.ref C) → E (.ref C) none H
def EK {α : Type} (K : KW) (mg : Str → Option Value) (E : XK) (ds : List D) (vs : List V) (g : GF α) (σ : St) (H : Hp) (Q : List Addr → Hp → Hp → α → Prop) : Prop :=
  ∃ (ρ : List Addr) (F : Hp) (env : Env8) (hp : Hp8) (r : Res α) (hp' : Hp8), Reps K ρ F ds vs ∧ EnvR K ρ F env σ ∧ Sim K ρ F H hp ∧ g env hp = some (r, hp') ∧
    ∀ ρ' F' H', Ext ρ ρ' F H F' H' → Sim K ρ' F' H' hp' → Out mg E H' (Q ρ' F' H') r
def EQ (K : KW) (mg : Str → Option Value) (E : XK) (f : EF) : TE := fun σ H Q => EK K mg E [] [] f σ H fun ρ' F' H' d => ∀ v, Rep K ρ' F' d v → Q v H'
def TQ (K : KW) (mg : Str → Option Value) (E : XK) (f : TF) : TT := fun σ H Q => EK K mg E [] [] f σ H fun _ _ H' b => Q b H'
def AQ (K : KW) (mg : Str → Option Value) (E : XK) (f : AF) : TA := fun σ H Q => EK K mg E [] [] f σ H fun ρ' F' H' ds => ∀ vs, Reps K ρ' F' ds vs → Q vs H'
def bnd {α β : Type} (fa : GF α) (k : α → GF β) : GF β := fun env hp => match fa env hp with
  | some (.ok d, hp1) => k d env hp1
  | some (.exc c, hp1) => some (.exc c, hp1)
  | none => none
def pur {α : Type} (a : α) : GF α := fun _ hp => some (.ok a, hp)
section
variable {K : KW} {mg : Str → Option Value} {E : XK} {α β : Type} {ds : List D} {vs : List V} {σ : St} {H : Hp}
theorem EK.step {fa : EF} {k : D → GF β} {Q : List Addr → Hp → Hp → β → Prop} (h : EK K mg E ds vs (bnd fa k) σ H Q) : EQ K mg E fa σ H fun v H1 => ∃ d, EK K mg E (d :: ds) (v :: vs) (k d) σ H1 Q := by
  obtain ⟨ρ, F, env, hp, r, hp', rd, he, hs, e, fin⟩ := h
  unfold bnd at e
  cases q : fa env hp with
  | none => rw [q] at e; cases e
  | some p =>
    obtain ⟨r1, hp1⟩ := p
    rw [q] at e
    cases r1 with
    | ok d =>
      refine ⟨ρ, F, env, hp, .ok d, hp1, rfl, he, hs, q, fun ρ1 F1 H1 x1 s1 v rv => ⟨d, ρ1, F1, env, hp1, r, hp', ⟨v, vs, rfl, rv, Reps.mono x1.same x1.pre _ _ rd⟩, he.mono x1.same x1.pre, s1, e, fun ρ2 F2 H2 x2 s2 => fin ρ2 F2 H2 (x1.trans s1 x2) s2⟩⟩
    | exc c =>
      obtain ⟨rfl, rfl⟩ := Prod.mk.inj (Option.some.inj e)
      exact ⟨ρ, F, env, hp, .exc c, _, rfl, he, hs, q, fun ρ1 F1 H1 x1 s1 => fin ρ1 F1 H1 x1 s1⟩
theorem EK.stepT {fa : TF} {k : Bool → GF β} {Q : List Addr → Hp → Hp → β → Prop} (h : EK K mg E ds vs (bnd fa k) σ H Q) : TQ K mg E fa σ H fun b H1 => EK K mg E ds vs (k b) σ H1 Q := by
  obtain ⟨ρ, F, env, hp, r, hp', rd, he, hs, e, fin⟩ := h
  unfold bnd at e
  cases q : fa env hp with
  | none => rw [q] at e; cases e
  | some p =>
    obtain ⟨r1, hp1⟩ := p
    rw [q] at e
    cases r1 with
    | ok b =>
      refine ⟨ρ, F, env, hp, .ok b, hp1, rfl, he, hs, q, fun ρ1 F1 H1 x1 s1 => ⟨ρ1, F1, env, hp1, r, hp', Reps.mono x1.same x1.pre _ _ rd, he.mono x1.same x1.pre, s1, e, fun ρ2 F2 H2 x2 s2 => fin ρ2 F2 H2 (x1.trans s1 x2) s2⟩⟩
    | exc c =>
      obtain ⟨rfl, rfl⟩ := Prod.mk.inj (Option.some.inj e)
      exact ⟨ρ, F, env, hp, .exc c, _, rfl, he, hs, q, fun ρ1 F1 H1 x1 s1 => fin ρ1 F1 H1 x1 s1⟩
theorem EK.stepA {fa : AF} {k : List D → GF β} {Q : List Addr → Hp → Hp → β → Prop} (h : EK K mg E ds vs (bnd fa k) σ H Q) : AQ K mg E fa σ H fun ws H1 => ∃ es, es.length = ws.length ∧ EK K mg E (es ++ ds) (ws ++ vs) (k es) σ H1 Q := by
  obtain ⟨ρ, F, env, hp, r, hp', rd, he, hs, e, fin⟩ := h
  unfold bnd at e
  cases q : fa env hp with
  | none => rw [q] at e; cases e
  | some p =>
    obtain ⟨r1, hp1⟩ := p
    rw [q] at e
    cases r1 with
    | ok es =>
      refine ⟨ρ, F, env, hp, .ok es, hp1, rfl, he, hs, q, fun ρ1 F1 H1 x1 s1 ws rv => ⟨es, rv.len, ρ1, F1, env, hp1, r, hp', Reps.app rv (Reps.mono x1.same x1.pre _ _ rd), he.mono x1.same x1.pre, s1, e, fun ρ2 F2 H2 x2 s2 => fin ρ2 F2 H2 (x1.trans s1 x2) s2⟩⟩
    | exc c =>
      obtain ⟨rfl, rfl⟩ := Prod.mk.inj (Option.some.inj e)
      exact ⟨ρ, F, env, hp, .exc c, _, rfl, he, hs, q, fun ρ1 F1 H1 x1 s1 => fin ρ1 F1 H1 x1 s1⟩
/-- a step that changes nothing -/
theorem EK.pure {a : α} {Q : List Addr → Hp → Hp → α → Prop} (h : EK K mg E ds vs (pur a) σ H Q) : ∃ ρ F hp, Reps K ρ F ds vs ∧ Sim K ρ F H hp ∧ Q ρ F H a := by
  obtain ⟨ρ, F, env, hp, r, hp', rd, he, hs, e, fin⟩ := h
  cases e
  exact ⟨ρ, F, hp, rd, hs, fin ρ F H (Ext.refl _ _ _) hs⟩
end

theorem EK.imp {K : KW} {mg : Str → Option Value} {E : XK} {α : Type} {ds : List D} {vs : List V} {g : GF α} {σ : St} {H : Hp} {Q Q' : List Addr → Hp → Hp → α → Prop} (h : EK K mg E ds vs g σ H Q) (i : ∀ ρ F H a, Q ρ F H a → Q' ρ F H a) : EK K mg E ds vs g σ H Q' := by
  obtain ⟨ρ, F, env, hp, r, hp', rd, he, hs, e, fin⟩ := h
  refine ⟨ρ, F, env, hp, r, hp', rd, he, hs, e, fun ρ' F' H' x s => ?_⟩
  have q := fin ρ' F' H' x s
  cases r with
  | exc c => exact q
  | ok d => exact i _ _ _ _ q
theorem EQ.imp {K : KW} {mg : Str → Option Value} {E : XK} {f : EF} {σ : St} {H : Hp} {Q Q' : VK} (h : EQ K mg E f σ H Q) (i : ∀ v H, Q v H → Q' v H) : EQ K mg E f σ H Q' := EK.imp h fun _ _ H _ q v r => i v H (q v r)
theorem TQ.imp {K : KW} {mg : Str → Option Value} {E : XK} {f : TF} {σ : St} {H : Hp} {Q Q' : Bool → Hp → Prop} (h : TQ K mg E f σ H Q) (i : ∀ v H, Q v H → Q' v H) : TQ K mg E f σ H Q' := EK.imp h fun _ _ H b q => i b H q
theorem AQ.imp {K : KW} {mg : Str → Option Value} {E : XK} {f : AF} {σ : St} {H : Hp} {Q Q' : List V → Hp → Prop} (h : AQ K mg E f σ H Q) (i : ∀ v H, Q v H → Q' v H) : AQ K mg E f σ H Q' := EK.imp h fun _ _ H _ q v r => i v H (q v r)

/-! ### the judgements -/
def DE (X : Cx) (E : XK) (e : Expr) (f : EF) : Prop := PE X e (EQ X.KW X.mg E f)
def DT (X : Cx) (E : XK) (e : Expr) (f : TF) : Prop := PT X e (TQ X.KW X.mg E f)
def DA (X : Cx) (E : XK) (es : List Expr) (f : AF) : Prop := PA X es (AQ X.KW X.mg E f)
theorem pe_imp {X : Cx} {e : Expr} {t t' : TE} (h : PE X e t) (i : ∀ σ H Q, t' σ H Q → t σ H Q) : PE X e t' := ⟨fun pins s σ H Q I q => h.run pins s σ H Q I (i _ _ _ q)⟩
theorem pt_imp {X : Cx} {e : Expr} {t t' : TT} (h : PT X e t) (i : ∀ σ H Q, t' σ H Q → t σ H Q) : PT X e t' := ⟨fun pins s σ H Q I q => h.run pins s σ H Q I (i _ _ _ q)⟩
theorem pa_imp {X : Cx} {e : List Expr} {t t' : TA} (h : PA X e t) (i : ∀ σ H Q, t' σ H Q → t σ H Q) : PA X e t' := ⟨fun po pins s σ H Q I q => h.run po pins s σ H Q I (i _ _ _ q)⟩

def sVar (i : Nat) : EF := fun env hp => match env[i]? with
  | some (some d) => some (.ok d, hp)
  | _ => none
section
variable {X : Cx} {E : XK} {a b c : Expr} {fa fb fc : EF} {pos : Pos}
theorem de_var {i : Nat} {x : Str} (hN : X.N[i]? = some x) (hv : Vis X.env.scope x) (hd : (x == ("__debug__" : Str)) = false := by decide) (hcd : (x == ("__classdict__" : Str)) = false := by decide) : DE X E (.Name x pos) (sVar i) :=
  pe_imp (pe_var hN hv hd hcd) fun σ H Q h => by
    obtain ⟨ρ, F, env, hp, r, hp', rd, he, hs, e, fin⟩ := h
    unfold sVar at e
    split at e
    · rename_i d hd
      cases e
      obtain ⟨v, q, rv⟩ := he.2 i d hd
      exact ⟨v, q, fin ρ F H (Ext.refl _ _ _) hs v rv⟩
    · cases e
theorem de_const {e : Expr} {v : V} {d : D} (h : PE X e (tC v)) (hr : ∀ ρ F, Rep X.KW ρ F d v) : DE X E e (pur d) := pe_imp h fun σ H Q q => by
  obtain ⟨ρ, F, hp, _, _, fin⟩ := EK.pure q
  exact fin v (hr _ _)
theorem de_int {i j} : DE X E (.Constant (.int i) j pos) (pur (.int i)) := de_const pe_int fun _ _ => rfl
theorem de_bl {b j} : DE X E (.Constant (.bool b) j pos) (pur (.bl b)) := de_const pe_bl fun _ _ => rfl
theorem de_non {j} : DE X E (.Constant .none j pos) (pur .non) := de_const pe_non fun _ _ => rfl
theorem de_str {x j} : DE X E (.Constant (.str x) j pos) (pur (.str x)) := de_const pe_str fun _ _ => rfl
/-- a two-place operation -/
def sOp (g : D → D → EF) (fa fb : EF) : EF := bnd fa fun x => bnd fb fun y => g x y
abbrev OkOp (X : Cx) (E : XK) (g : D → D → EF) (r : R2) : Prop := ∀ (x y : D) (v w : V) (σ : St) (H : Hp) (Q : VK), EK X.KW X.mg E [y, x] [w, v] (g x y) σ H (fun ρ' F' H' d => ∀ v, Rep X.KW ρ' F' d v → Q v H') → r v w H Q
theorem de_op {op : Operator} {r : R2} {g : D → D → EF} (ho : OpR X (binaryOp op) r) (hr : OkOp X E g r) (ha : DE X E a fa) (hb : DE X E b fb) : DE X E (.BinOp a op b pos) (sOp g fa fb) :=
  pe_imp (pe_op (ta := EQ X.KW X.mg E fa) (tb := EQ X.KW X.mg E fb) ho ha hb) fun σ H Q h => (EK.step h).imp fun v H1 ⟨d1, q1⟩ => (EK.step q1).imp fun w H2 ⟨d2, q2⟩ => hr _ _ _ _ _ _ _ q2
end
end HI

namespace HI
open PySem L2

/-- what a step reads off the cells, leaving them -/
def rd {α : Type} (h : Hp8 → Option α) : GF α := fun _ hp => match h hp with
  | some a => some (.ok a, hp)
  | none => none
section
variable {K : KW} {mg : Str → Option Value} {E : XK} {α β : Type} {ds : List D} {vs : List V} {σ : St} {H : Hp}
theorem EK.read {h : Hp8 → Option α} {Q : List Addr → Hp → Hp → α → Prop} (q : EK K mg E ds vs (rd h) σ H Q) : ∃ ρ F hp a, Reps K ρ F ds vs ∧ Sim K ρ F H hp ∧ h hp = some a ∧
    ∀ ρ' F' H', Ext ρ ρ' F H F' H' → Sim K ρ' F' H' hp → Q ρ' F' H' a := by
  obtain ⟨ρ, F, env, hp, r, hp', rd', he, hs, e, fin⟩ := q
  unfold rd at e
  split at e
  · rename_i a ha
    obtain ⟨rfl, rfl⟩ := Prod.mk.inj (Option.some.inj e)
    exact ⟨ρ, F, hp, a, rd', hs, ha, fun ρ' F' H' x s => fin ρ' F' H' x s⟩
  · cases e
theorem rep1 {ρ : List Addr} {F : Hp} {d : D} {v : V} (h : Reps K ρ F [d] [v]) : Rep K ρ F d v := by
  obtain ⟨w, r, e, q, _⟩ := h
  cases e
  exact q
theorem rep2 {ρ : List Addr} {F : Hp} {d e : D} {v w : V} (h : Reps K ρ F [d, e] [v, w]) : Rep K ρ F d v ∧ Rep K ρ F e w := by
  obtain ⟨a, r, e1, q1, h⟩ := h
  cases e1
  exact ⟨q1, rep1 h⟩
theorem rep3 {ρ : List Addr} {F : Hp} {d e f : D} {v w u : V} (h : Reps K ρ F [d, e, f] [v, w, u]) : Rep K ρ F d v ∧ Rep K ρ F e w ∧ Rep K ρ F f u := by
  obtain ⟨a, r, e1, q1, h⟩ := h
  cases e1
  exact ⟨q1, rep2 h⟩
theorem new_tup {ρ : List Addr} {F : Hp} {hp : Hp8} {xs : List D} {ws : List V} {p : Addr} (hs : Sim K ρ F H hp) (rv : Reps K ρ F xs ws) (hn : H p = none) (hw : pl xs = false) :
    Sim K ρ (upd F p (.tup ws)) (upd H p (.tup ws)) hp ∧ Ext ρ ρ F H (upd F p (.tup ws)) (upd H p (.tup ws)) ∧ Rep K ρ (upd F p (.tup ws)) (.tup xs) (.ref p) := by
  obtain ⟨s', x', sm⟩ := hs.frz hn (.tup ws)
  exact ⟨s', x', p, ws, rfl, .inl (.inl upd_same), Reps.mono sm (List.prefix_refl _) _ _ rv, fun z => by rw [hw] at z; cases z⟩
theorem new_tupP {ρ : List Addr} {F : Hp} {hp : Hp8} {xs : List D} {ws : List V} {p : Addr} {o : Obj} (hs : Sim K ρ F H hp) (rv : Reps K ρ F xs ws) (hn : H p = none) (ho : o.dict = none) :
    Sim K ρ (upd F p (.frz o (.tup ws))) (upd H p (.frz o (.tup ws))) hp ∧ Ext ρ ρ F H (upd F p (.frz o (.tup ws))) (upd H p (.frz o (.tup ws))) ∧ Rep K ρ (upd F p (.frz o (.tup ws))) (.tup xs) (.ref p) := by
  obtain ⟨s', x', sm⟩ := hs.frz hn (.frz o (.tup ws))
  exact ⟨s', x', p, ws, rfl, .inl (.inr ⟨o, upd_same⟩), Reps.mono sm (List.prefix_refl _) _ _ rv, fun _ => ⟨o, upd_same, ho⟩⟩
theorem new_lst {ρ : List Addr} {F : Hp} {hp : Hp8} {xs : List D} {ws : List V} {p : Addr} (hs : Sim K ρ F H hp) (rv : Reps K ρ F xs ws) (hn : H p = none) :
    Sim K ρ (upd F p (.lst ws)) (upd H p (.lst ws)) hp ∧ Ext ρ ρ F H (upd F p (.lst ws)) (upd H p (.lst ws)) ∧ Rep K ρ (upd F p (.lst ws)) (.lst xs) (.ref p) := by
  obtain ⟨s', x', sm⟩ := hs.frz hn (.lst ws)
  exact ⟨s', x', p, ws, rfl, upd_same, Reps.mono sm (List.prefix_refl _) _ _ rv⟩

/-! ### what may be read as a list -/
def listOf (hp : Hp8) : D → Option (List D)
  | .lst ds => some ds
  | .scr ns => some (ns.map .int)
  | .ref n => match hp[n]? with
    | some (.lst ds) => some ds
    | _ => none
  | _ => none
def lstM (hp : Hp8) : D → Option (List D)
  | .lst ds => some ds
  | .ref n => match hp[n]? with
    | some (.lst ds) => some ds
    | _ => none
  | _ => none
def seqOf (hp : Hp8) : D → Option (List D)
  | .tup ds => some ds
  | d => listOf hp d
theorem lstM_at {ρ : List Addr} {F : Hp} {hp : Hp8} {d : D} {v : V} {xs : List D} (hs : Sim K ρ F H hp) (r : Rep K ρ F d v) (e : lstM hp d = some xs) : ∃ a ws, v = .ref a ∧ H a = some (.lst ws) ∧ Reps K ρ F xs ws := by
  cases d with
  | lst ds =>
    cases e
    obtain ⟨a, ws, ev, q, rr⟩ := r
    exact ⟨a, ws, ev, hs.sub _ _ q, rr⟩
  | ref n =>
    simp only [lstM] at e
    split at e
    · rename_i ds hc
      cases e
      obtain ⟨a, ev, q⟩ := r
      obtain ⟨ws, q1, q2⟩ := hs.cell n _ a hc q
      exact ⟨a, ws, ev, q1, q2⟩
    · cases e
  | _ => cases e
theorem listOf_at {ρ : List Addr} {F : Hp} {hp : Hp8} {d : D} {v : V} {xs : List D} (hs : Sim K ρ F H hp) (r : Rep K ρ F d v) (e : listOf hp d = some xs) : ∃ a ws, v = .ref a ∧ SqL K.1 H a ws ∧ Reps K ρ F xs ws := by
  cases d with
  | scr ns =>
    cases e
    obtain ⟨a, ev, q⟩ := r
    exact ⟨a, _, ev, Same.lstS hs.sub q, Reps.ints ns⟩
  | lst ds =>
    obtain ⟨a, ws, ev, q, rr⟩ := lstM_at hs r e
    exact ⟨a, ws, ev, SqL.of q, rr⟩
  | ref n =>
    obtain ⟨a, ws, ev, q, rr⟩ := lstM_at hs r e
    exact ⟨a, ws, ev, SqL.of q, rr⟩
  | _ => cases e
theorem tup_at {ρ : List Addr} {F : Hp} {hp : Hp8} {v : V} {xs : List D} (hs : Sim K ρ F H hp) (r : Rep K ρ F (.tup xs) v) : ∃ a ws, v = .ref a ∧ SqT K.1 H a ws ∧ Reps K ρ F xs ws := by
  obtain ⟨a, ws, ev, q, rr, _⟩ := r
  exact ⟨a, ws, ev, Same.tupS hs.sub q, rr⟩
theorem seqOf_at {ρ : List Addr} {F : Hp} {hp : Hp8} {d : D} {v : V} {xs : List D} (hs : Sim K ρ F H hp) (r : Rep K ρ F d v) (e : seqOf hp d = some xs) : ∃ a ws, v = .ref a ∧ (SqL K.1 H a ws ∨ SqT K.1 H a ws) ∧ Reps K ρ F xs ws := by
  cases d with
  | tup ds =>
    cases e
    obtain ⟨a, ws, ev, q, rr⟩ := tup_at hs r
    exact ⟨a, ws, ev, .inr q, rr⟩
  | _ =>
    obtain ⟨a, ws, ev, q, rr⟩ := listOf_at hs r (show listOf hp _ = some xs from e)
    exact ⟨a, ws, ev, .inl q, rr⟩
end

/-! ### arithmetic and concatenation -/
def addD (x y : D) (hp : Hp8) : Option D := match x, y with
  | .int i, .int j => some (.int (i + j))
  | .str a, .str b => if a.length + b.length ≤ sizeLine then some (.str (a ++ b)) else none
  | .tup a, .tup b => if a.length + b.length ≤ sizeLine ∧ pl (a ++ b) = false then some (.tup (a ++ b)) else none
  | x, y => match lstM hp x, lstM hp y with
    | some a, some b => if a.length + b.length ≤ sizeLine then some (.lst (a ++ b)) else none
    | _, _ => none
def subD (x y : D) (_ : Hp8) : Option D := match x, y with
  | .int i, .int j => some (.int (i - j))
  | _, _ => none
def modD (x y : D) (_ : Hp8) : Option D := match x, y with
  | .int i, .int j => if 0 < j then some (.int (i % j)) else none
  | _, _ => none
def fdivD (x y : D) (_ : Hp8) : Option D := match x, y with
  | .int i, .int j => if 0 < j ∧ j < 1073741824 then some (.int (i / j)) else none
  | _, _ => none
def powD (x y : D) (_ : Hp8) : Option D := match x, y with
  | .int i, .int j => if 0 ≤ j ∧ j ≤ 1000 ∧ i.natAbs < 2 ^ 64 then some (.int (i ^ j.toNat)) else none
  | _, _ => none
/-- which products the model multiplies by the plain rule -/
def mulOk (i j : Int) : Bool := decide (i.natAbs < 18446744073709551616) || decide (j.natAbs < 18446744073709551616) || (decide (i.natAbs < 2 ^ 400) && decide (j.natAbs < 2 ^ 400))
def mulD (x y : D) (hp : Hp8) : Option D := match x, y with
  | .int i, .int j => if mulOk i j then some (.int (i * j)) else none
  | x, .int j => match lstM hp x with
    | some a => if j.natAbs < 9223372036854775808 ∧ a.length * j.toNat ≤ sizeLine then some (.lst (List.replicate j.toNat a).flatten) else none
    | none => none
  | _, _ => none
def sRd2 (h : D → D → Hp8 → Option D) : D → D → EF := fun x y => rd (h x y)
def sAdd : EF → EF → EF := sOp (sRd2 addD)
def sSub : EF → EF → EF := sOp (sRd2 subD)
def sMod : EF → EF → EF := sOp (sRd2 modD)
def sFdiv : EF → EF → EF := sOp (sRd2 fdivD)
def sPow : EF → EF → EF := sOp (sRd2 powD)
def sMul : EF → EF → EF := sOp (sRd2 mulD)
section
variable {X : Cx} {E : XK} {a b c : Expr} {fa fb fc : EF} {pos : Pos}
/-- ints in, a scalar out -/
theorem ok_ints {g : D → D → Hp8 → Option D} {C : Int → Int → Prop} {o : Int → Int → V} {o' : Int → Int → D}
    (hg : ∀ x y hp d, g x y hp = some d → ∃ i j, x = .int i ∧ y = .int j ∧ C i j ∧ d = o' i j) (ho : ∀ i j ρ F, Rep X.KW ρ F (o' i j) (o i j)) : OkOp X E (sRd2 g) (rI C o) := fun x y v w σ H Q h => by
  obtain ⟨ρ, F, hp, d, rv, hs, e, fin⟩ := EK.read h
  obtain ⟨i, j, rfl, rfl, hc, rfl⟩ := hg _ _ _ _ e
  obtain ⟨r1, r2⟩ := rep2 rv
  exact ⟨i, j, r2, r1, hc, fin ρ F H (Ext.refl _ _ _) hs _ (ho _ _ _ _)⟩
theorem ok_ints0 {g : D → D → Hp8 → Option D} {o : Int → Int → V} {o' : Int → Int → D}
    (hg : ∀ x y hp d, g x y hp = some d → ∃ i j, x = .int i ∧ y = .int j ∧ d = o' i j) (ho : ∀ i j ρ F, Rep X.KW ρ F (o' i j) (o i j)) : OkOp X E (sRd2 g) (rI0 o) := fun x y v w σ H Q h => by
  obtain ⟨ρ, F, hp, d, rv, hs, e, fin⟩ := EK.read h
  obtain ⟨i, j, rfl, rfl, rfl⟩ := hg _ _ _ _ e
  obtain ⟨r1, r2⟩ := rep2 rv
  exact ⟨i, j, r2, r1, fin ρ F H (Ext.refl _ _ _) hs _ (ho _ _ _ _)⟩
theorem de_sub (ha : DE X E a fa) (hb : DE X E b fb) : DE X E (.BinOp a .Sub b pos) (sSub fa fb) :=
  de_op op_sub (ok_ints0 (o' := fun i j => .int (i - j)) (fun x y hp d e => by unfold subD at e; split at e; (cases e; exact ⟨_, _, rfl, rfl, rfl⟩); cases e) fun _ _ _ _ => rfl) ha hb
theorem de_mod (ha : DE X E a fa) (hb : DE X E b fb) : DE X E (.BinOp a .Mod b pos) (sMod fa fb) :=
  de_op op_mod (ok_ints (C := fun _ j => 0 < j) (o' := fun i j => .int (i % j)) (fun x y hp d e => by
    unfold modD at e; split at e
    · split at e
      · rename_i h; cases e; exact ⟨_, _, rfl, rfl, h, rfl⟩
      · cases e
    · cases e) fun _ _ _ _ => rfl) ha hb
theorem de_fdiv (ha : DE X E a fa) (hb : DE X E b fb) : DE X E (.BinOp a .FloorDiv b pos) (sFdiv fa fb) :=
  de_op op_fdiv (ok_ints (C := CDiv) (o' := fun i j => .int (i / j)) (fun x y hp d e => by
    unfold fdivD at e; split at e
    · split at e
      · rename_i h; cases e; exact ⟨_, _, rfl, rfl, h, rfl⟩
      · cases e
    · cases e) fun _ _ _ _ => rfl) ha hb
theorem de_pow (ha : DE X E a fa) (hb : DE X E b fb) : DE X E (.BinOp a .Pow b pos) (sPow fa fb) :=
  de_op op_pow (ok_ints (C := CPow) (o' := fun i j => .int (i ^ j.toNat)) (fun x y hp d e => by
    unfold powD at e; split at e
    · split at e
      · rename_i h; cases e; exact ⟨_, _, rfl, rfl, ⟨h.1, Int.le_trans h.2.1 (by decide), h.2.2⟩, rfl⟩
      · cases e
    · cases e) fun _ _ _ _ => rfl) ha hb
theorem op_addAll : OpR X (binaryOp .Add) (fun x y H Q => (rI0 (fun i j => .int (i + j)) x y H Q ∨ (∃ i j, x = .str i ∧ y = .str j ∧ i.length + j.length ≤ sizeLine ∧ Q (.str (i ++ j)) H)) ∨ rCatA X.K x y H Q ∨ rCat x y H Q) :=
  (op_add.or op_add_str).or (op_catA.or op_cat)
theorem ok_add : OkOp X E (sRd2 addD) (fun x y H Q => (rI0 (fun i j => .int (i + j)) x y H Q ∨ (∃ i j, x = .str i ∧ y = .str j ∧ i.length + j.length ≤ sizeLine ∧ Q (.str (i ++ j)) H)) ∨ rCatA X.K x y H Q ∨ rCat x y H Q) := fun x y v w σ H Q h => by
  obtain ⟨ρ, F, hp, d, rv, hs, e, fin⟩ := EK.read h
  obtain ⟨r1, r2⟩ := rep2 rv
  unfold addD at e
  split at e
  · cases e
    exact .inl (.inl ⟨_, _, r2, r1, fin ρ F H (Ext.refl _ _ _) hs _ rfl⟩)
  · split at e
    · rename_i hl
      cases e
      exact .inl (.inr ⟨_, _, r2, r1, hl, fin ρ F H (Ext.refl _ _ _) hs _ rfl⟩)
    · cases e
  · split at e
    · rename_i as bs hl
      cases e
      obtain ⟨p, ws, rfl, q1, rr1⟩ := tup_at hs r2
      obtain ⟨p', ws', rfl, q2, rr2⟩ := tup_at hs r1
      have l1 := rr1.len
      have l2 := rr2.len
      refine .inr (.inl ⟨p, p', ws, ws', rfl, rfl, q1, q2, by have := hl.1; omega, fun z => ?_, fun z1 z2 => ?_, fun z1 z2 n hn => ?_⟩)
      · subst z
        have : as = [] := List.eq_nil_of_length_eq_zero (by simpa using l1)
        subst this
        exact fin ρ F H (Ext.refl _ _ _) hs _ r1
      · subst z2
        have : bs = [] := List.eq_nil_of_length_eq_zero (by simpa using l2)
        subst this
        rw [List.append_nil] at fin
        exact fin ρ F H (Ext.refl _ _ _) hs _ r2
      · obtain ⟨s', x', rr⟩ := new_tup hs (rr1.app rr2) hn hl.2
        exact fin _ _ _ x' s' _ rr
    · cases e
  · split at e
    · rename_i as bs ha hb
      split at e
      · rename_i hl
        cases e
        obtain ⟨p, ws, rfl, q1, rr1⟩ := lstM_at hs r2 ha
        obtain ⟨p', ws', rfl, q2, rr2⟩ := lstM_at hs r1 hb
        have l1 := rr1.len
        have l2 := rr2.len
        refine .inr (.inr ⟨p, p', ws, ws', rfl, rfl, q1, q2, by omega, fun n hn => ?_⟩)
        obtain ⟨s', x', rr⟩ := new_lst hs (rr1.app rr2) hn
        exact fin _ _ _ x' s' _ rr
      · cases e
    · cases e
theorem de_add (ha : DE X E a fa) (hb : DE X E b fb) : DE X E (.BinOp a .Add b pos) (sAdd fa fb) := de_op op_addAll ok_add ha hb
theorem op_mulAll : OpR X (binaryOp .Mult) (fun x y H Q => (rI CMul (fun i j => .int (i * j)) x y H Q ∨ rI CMulW (fun i j => .int (i * j)) x y H Q) ∨ rRep x y H Q) := (op_mul.or op_mulW).or op_rep
theorem ok_mul : OkOp X E (sRd2 mulD) (fun x y H Q => (rI CMul (fun i j => .int (i * j)) x y H Q ∨ rI CMulW (fun i j => .int (i * j)) x y H Q) ∨ rRep x y H Q) := fun x y v w σ H Q h => by
  obtain ⟨ρ, F, hp, d, rv, hs, e, fin⟩ := EK.read h
  obtain ⟨r1, r2⟩ := rep2 rv
  unfold mulD at e
  split at e
  · rename_i i j
    split at e
    · rename_i hm
      cases e
      have q := fin ρ F H (Ext.refl _ _ _) hs (.int (i * j)) rfl
      unfold mulOk at hm
      rw [Bool.or_eq_true, Bool.or_eq_true] at hm
      rcases hm with (hm | hm) | hm
      · have hm := of_decide_eq_true hm
        exact .inl (.inl ⟨_, _, r2, r1, .inl (by omega), q⟩)
      · have hm := of_decide_eq_true hm
        exact .inl (.inl ⟨_, _, r2, r1, .inr (by omega), q⟩)
      · rw [Bool.and_eq_true] at hm
        exact .inl (.inr ⟨_, _, r2, r1, wide_mul (of_decide_eq_true hm.1) (of_decide_eq_true hm.2) (by decide) (by decide) (by decide), q⟩)
    · cases e
  · split at e
    · rename_i as ha
      split at e
      · rename_i hl
        cases e
        obtain ⟨p, ws, rfl, q1, rr1⟩ := lstM_at hs r2 ha
        have l1 := rr1.len
        have hj := hl.1
        refine .inr ⟨p, _, ws, rfl, r1, q1, by omega, by omega, by rw [← l1]; exact hl.2, fun n hn => ?_⟩
        obtain ⟨s', x', rr⟩ := new_lst hs (rr1.rep _) hn
        exact fin _ _ _ x' s' _ rr
      · cases e
    · cases e
  · cases e
theorem de_mul (ha : DE X E a fa) (hb : DE X E b fb) : DE X E (.BinOp a .Mult b pos) (sMul fa fb) := de_op op_mulAll ok_mul ha hb
/-! negation -/
def sNeg (fa : EF) : EF := bnd fa fun x => rd fun _ => match x with
  | .int i => some (.int (-i))
  | _ => none
theorem de_neg (ha : DE X E a fa) : DE X E (.UnaryOp .USub a pos) (sNeg fa) :=
  pe_imp (pe_un (ta := EQ X.KW X.mg E fa) un_neg ha) fun σ H Q h => (EK.step h).imp fun v H1 ⟨d, q⟩ => by
    obtain ⟨ρ, F, hp, x, rv, hs, e, fin⟩ := EK.read q
    split at e
    · cases e
      exact ⟨_, rep1 rv, fin ρ F H1 (Ext.refl _ _ _) hs _ rfl⟩
    · cases e
end
end HI

namespace HI
open PySem L2

/-! ### data as the model's own data -/
mutual
def toP0 : D → Option PyData
  | .non => some .none
  | .bl b => some (.bool b)
  | .int i => some (.int i)
  | .str x => some (.str x)
  | .tup ds => (toPs0 ds).map .tuple
  | .lst ds => (toPs0 ds).map .list
  | .scr ns => some (.list (ns.map .int))
  | .ref _ => none
  | .dn _ _ => none
def toPs0 : List D → Option (List PyData)
  | [] => some []
  | d :: ds => match toP0 d, toPs0 ds with
    | some p, some ps => some (p :: ps)
    | _, _ => none
end
def toP (hp : Hp8) : D → Option PyData
  | .ref n => match hp[n]? with
    | some (.lst ds) => (toPs0 ds).map .list
    | _ => none
  | d => toP0 d
theorem dp_ints {K : KW} {H : Hp} : ∀ ns : List Int, DpAll K.1 H (ns.map V.int) (ns.map PyData.int)
  | [] => .nil
  | n :: ns => .cons (.int n) (dp_ints ns)
section
variable {K : KW} {ρ : List Addr} {F H : Hp} {hp : Hp8}
mutual
theorem dp0 (hs : Same F H) : ∀ (d : D) (v : V) (p : PyData), Rep K ρ F d v → toP0 d = some p → Dp K.1 H v p
  | .non, v, p, r, e => by cases e; rw [show v = _ from r]; exact .non
  | .bl b, v, p, r, e => by cases e; rw [show v = _ from r]; exact .bl b
  | .int i, v, p, r, e => by cases e; rw [show v = _ from r]; exact .int i
  | .str x, v, p, r, e => by cases e; rw [show v = _ from r]; exact .str x
  | .tup ds, v, p, r, e => by
    obtain ⟨a, vs, rfl, q, rr, _⟩ := r
    cases h : toPs0 ds with
    | none => simp [toP0, h] at e
    | some ps =>
      simp [toP0, h] at e
      subst e
      exact .tup (Same.tupS hs q) (dps0 hs ds vs ps rr h)
  | .lst ds, v, p, r, e => by
    obtain ⟨a, vs, rfl, q, rr⟩ := r
    cases h : toPs0 ds with
    | none => simp [toP0, h] at e
    | some ps =>
      simp [toP0, h] at e
      subst e
      exact .lst (SqL.of (hs _ _ q)) (dps0 hs ds vs ps rr h)
  | .scr ns, v, p, r, e => by
    obtain ⟨a, rfl, q⟩ := r
    cases e
    exact .lst (Same.lstS hs q) (dp_ints ns)
  | .ref n, v, p, r, e => by cases e
  | .dn _ _, v, p, r, e => by cases e
theorem dps0 (hs : Same F H) : ∀ (ds : List D) (vs : List V) (ps : List PyData), Reps K ρ F ds vs → toPs0 ds = some ps → DpAll K.1 H vs ps
  | [], vs, ps, r, e => by cases e; rw [show vs = _ from r]; exact .nil
  | d :: ds, vs, ps, r, e => by
    obtain ⟨v, w, rfl, r1, r2⟩ := r
    simp only [toPs0] at e
    split at e
    · rename_i p ps' h1 h2
      cases e
      exact .cons (dp0 hs d v p r1 h1) (dps0 hs ds w ps' r2 h2)
    · cases e
end
theorem dp_of (hs : Sim K ρ F H hp) {d : D} {v : V} {p : PyData} (r : Rep K ρ F d v) (e : toP hp d = some p) : Dp K.1 H v p := by
  cases d with
  | ref n =>
    simp only [toP] at e
    split at e
    · rename_i ds hc
      obtain ⟨a, rfl, q⟩ := r
      obtain ⟨ws, q1, q2⟩ := hs.cell n _ a hc q
      cases h : toPs0 ds with
      | none => simp [h] at e
      | some ps =>
        simp [h] at e
        subst e
        exact .lst (SqL.of q1) (dps0 hs.sub ds ws ps q2 h)
    · cases e
  | _ => exact dp0 hs.sub _ v p r e
end

/-! ### comparisons -/
def eqD (x y : D) (hp : Hp8) : Option Bool := match x, y with
  | .int i, .int j => some (i == j)
  | .str a, .str b => some (a == b)
  | x, y => match toP hp x, toP hp y with
    | some p, some q => if SeqAt.shaped p && SeqAt.shaped q then some (p.eqv q) else none
    | _, _ => none
def neD (x y : D) (hp : Hp8) : Option Bool := (eqD x y hp).map (!·)
def ltD (x y : D) (_ : Hp8) : Option Bool := match x, y with
  | .int i, .int j => some (decide (i < j))
  | _, _ => none
def leD (x y : D) (_ : Hp8) : Option Bool := match x, y with
  | .int i, .int j => some (decide (i ≤ j))
  | _, _ => none
def gtD (x y : D) (_ : Hp8) : Option Bool := match x, y with
  | .int i, .int j => some (decide (j < i))
  | _, _ => none
def geD (x y : D) (_ : Hp8) : Option Bool := match x, y with
  | .int i, .int j => some (decide (j ≤ i))
  | _, _ => none
def isNon : D → Bool
  | .non => true
  | _ => false
def isBl (b : Bool) : D → Bool
  | .bl c => c == b
  | _ => false
def isD (x y : D) (_ : Hp8) : Option Bool := match y with
  | .non => some (isNon x)
  | .bl b => some (isBl b x)
  | _ => none
def isNotD (x y : D) (hp : Hp8) : Option Bool := (isD x y hp).map (!·)
def flatD : D → Bool
  | .non => true
  | .bl _ => true
  | .int _ => true
  | .str _ => true
  | _ => false
def eqF : D → D → Bool
  | .non, .non => true
  | .bl a, .bl b => a == b
  | .bl a, .int b => (if a then 1 else 0) == b
  | .int a, .bl b => a == (if b then 1 else 0)
  | .int a, .int b => a == b
  | .str a, .str b => a == b
  | _, _ => false
def inD (x y : D) (hp : Hp8) : Option Bool := match x, y with
  | .str ⟨⟨[c]⟩⟩, .str z => some (decide (c ∈ z.cps.toList))
  | x, y => match seqOf hp y with
    | some ys => if flatD x && ys.all flatD then some (ys.any fun z => eqF z x) else match toP hp x, toP hp y with
      | some d, some (.list es) => if SeqAt.shaped d && SeqAt.shaped (.list es) then some (es.any fun z => PyData.eqv z d) else none
      | _, _ => none
    | none => none
def notInD (x y : D) (hp : Hp8) : Option Bool := (inD x y hp).map (!·)
theorem op_isB {X : Cx} : OpR X (compareOp .Is) (fun x y H Q => ∃ b, y = .bl b ∧ Q (.bl (decide (x = .bl b))) H) := by
  intro pins s σ H x y v u Q I rx ry h
  obtain ⟨b, rfl, q⟩ := h
  cases ry
  cases x with
  | non => cases rx; exact wpAny_is_plain rfl (fin_bl I q (by simp))
  | bl c => cases rx; exact wpAny_is_plain rfl (fin_bl I q (by cases b <;> cases c <;> rfl))
  | int i => obtain ⟨t, rfl⟩ := rx; exact wpAny_is_plain rfl (fin_bl I q (by simp))
  | str i => obtain ⟨t, rfl⟩ := rx; exact wpAny_is_plain rfl (fin_bl I q (by simp))
  | byt i => obtain ⟨t, rfl⟩ := rx; exact wpAny_is_plain rfl (fin_bl I q (by simp))
  | flt i => obtain ⟨t, rfl⟩ := rx; exact wpAny_is_plain rfl (fin_bl I q (by simp))
  | ref a => cases rx; exact wpAny_is_plain rfl (fin_bl I q (by simp))
  | ty n => cases rx; exact wpAny_is_plain rfl (fin_bl I q (by simp))
theorem op_isNotB {X : Cx} : OpR X (compareOp .IsNot) (fun x y H Q => ∃ b, y = .bl b ∧ Q (.bl (!decide (x = .bl b))) H) := by
  intro pins s σ H x y v u Q I rx ry h
  obtain ⟨b, rfl, q⟩ := h
  cases ry
  cases x with
  | non => cases rx; exact wpAny_isNot_plain rfl (fin_bl I q (by simp))
  | bl c => cases rx; exact wpAny_isNot_plain rfl (fin_bl I q (by cases b <;> cases c <;> rfl))
  | int i => obtain ⟨t, rfl⟩ := rx; exact wpAny_isNot_plain rfl (fin_bl I q (by simp))
  | str i => obtain ⟨t, rfl⟩ := rx; exact wpAny_isNot_plain rfl (fin_bl I q (by simp))
  | byt i => obtain ⟨t, rfl⟩ := rx; exact wpAny_isNot_plain rfl (fin_bl I q (by simp))
  | flt i => obtain ⟨t, rfl⟩ := rx; exact wpAny_isNot_plain rfl (fin_bl I q (by simp))
  | ref a => cases rx; exact wpAny_isNot_plain rfl (fin_bl I q (by simp))
  | ty n => cases rx; exact wpAny_isNot_plain rfl (fin_bl I q (by simp))
/-- a comparison by a function of the data -/
def sCmp (h : D → D → Hp8 → Option Bool) : D → D → EF := fun x y => rd fun hp => (h x y hp).map D.bl
abbrev OkCmp (X : Cx) (h : D → D → Hp8 → Option Bool) (r : R2) : Prop := ∀ (x y : D) (v w : V) (ρ : List Addr) (F H : Hp) (hp : Hp8) (b : Bool) (Q : VK), Sim X.KW ρ F H hp → Rep X.KW ρ F x v → Rep X.KW ρ F y w → h x y hp = some b → Q (.bl b) H → r v w H Q
section
variable {X : Cx} {E : XK} {a b c : Expr} {fa fb fc : EF} {pos : Pos}
theorem OkCmp.op {h : D → D → Hp8 → Option Bool} {r : R2} (k : OkCmp X h r) : OkOp X E (sCmp h) r := fun x y v w σ H Q q => by
  obtain ⟨ρ, F, hp, d, rv, hs, e, fin⟩ := EK.read q
  obtain ⟨r1, r2⟩ := rep2 rv
  cases e1 : h x y hp with
  | none => rw [e1] at e; cases e
  | some b =>
    rw [e1] at e
    cases e
    exact k x y v w ρ F H hp b Q hs r2 r1 e1 (fin ρ F H (Ext.refl _ _ _) hs _ rfl)
theorem okc_ints {h : D → D → Hp8 → Option Bool} {p : Int → Int → Bool} (hh : ∀ x y hp b, h x y hp = some b → ∃ i j, x = .int i ∧ y = .int j ∧ b = p i j) : OkCmp X h (rI0 fun i j => .bl (p i j)) := fun x y v w ρ F H hp b Q hs r1 r2 e q => by
  obtain ⟨i, j, rfl, rfl, rfl⟩ := hh _ _ _ _ e
  exact ⟨i, j, r1, r2, q⟩
theorem okc_lt : OkCmp X ltD (rI0 fun i j => .bl (decide (i < j))) := okc_ints (p := fun i j => decide (i < j)) fun x y hp b e => by unfold ltD at e; split at e; (cases e; exact ⟨_, _, rfl, rfl, rfl⟩); cases e
theorem okc_le : OkCmp X leD (rI0 fun i j => .bl (decide (i ≤ j))) := okc_ints (p := fun i j => decide (i ≤ j)) fun x y hp b e => by unfold leD at e; split at e; (cases e; exact ⟨_, _, rfl, rfl, rfl⟩); cases e
theorem okc_gt : OkCmp X gtD (rI0 fun i j => .bl (decide (j < i))) := okc_ints (p := fun i j => decide (j < i)) fun x y hp b e => by unfold gtD at e; split at e; (cases e; exact ⟨_, _, rfl, rfl, rfl⟩); cases e
theorem okc_ge : OkCmp X geD (rI0 fun i j => .bl (decide (j ≤ i))) := okc_ints (p := fun i j => decide (j ≤ i)) fun x y hp b e => by unfold geD at e; split at e; (cases e; exact ⟨_, _, rfl, rfl, rfl⟩); cases e
theorem okc_eq : OkCmp X eqD (fun x y H Q => rEq x y H Q ∨ rEqD X.K x y H Q) := fun x y v w ρ F H hp b Q hs r1 r2 e q => by
  unfold eqD at e
  split at e
  · cases e
    rw [show v = _ from r1, show w = _ from r2]
    exact .inl ⟨rfl, by rw [dec_int]; exact q⟩
  · cases e
    rw [show v = _ from r1, show w = _ from r2]
    exact .inl ⟨rfl, by rw [dec_str]; exact q⟩
  · split at e
    · rename_i p p' h1 h2
      split at e
      · rename_i hz
        rw [Bool.and_eq_true] at hz
        cases e
        exact .inr ⟨p, p', dp_of hs r1 h1, dp_of hs r2 h2, hz.1, hz.2, q⟩
      · cases e
    · cases e
theorem okc_ne : OkCmp X neD (fun x y H Q => rNe x y H Q ∨ rNeD X.K x y H Q) := fun x y v w ρ F H hp b Q hs r1 r2 e q => by
  unfold neD at e
  cases e1 : eqD x y hp with
  | none => rw [e1] at e; cases e
  | some k =>
    rw [e1] at e
    cases e
    unfold eqD at e1
    split at e1
    · cases e1
      rw [show v = _ from r1, show w = _ from r2]
      exact .inl ⟨rfl, by rw [dec_int]; exact q⟩
    · cases e1
      rw [show v = _ from r1, show w = _ from r2]
      exact .inl ⟨rfl, by rw [dec_str]; exact q⟩
    · split at e1
      · rename_i p p' h1 h2
        split at e1
        · rename_i hz
          rw [Bool.and_eq_true] at hz
          cases e1
          exact .inr ⟨p, p', dp_of hs r1 h1, dp_of hs r2 h2, hz.1, hz.2, q⟩
        · cases e1
      · cases e1
theorem rep_non {K : KW} {ρ : List Addr} {F : Hp} {d : D} {v : V} (r : Rep K ρ F d v) : isNon d = decide (v = V.non) := by
  cases d with
  | non => rw [show v = _ from r]; rfl
  | bl b => rw [show v = _ from r]; rfl
  | int b => rw [show v = _ from r]; rfl
  | str b => rw [show v = _ from r]; rfl
  | tup ds => obtain ⟨a, _, rfl, _⟩ := r; rfl
  | lst ds => obtain ⟨a, _, rfl, _⟩ := r; rfl
  | scr ds => obtain ⟨a, rfl, _⟩ := r; rfl
  | ref ds => obtain ⟨a, rfl, _⟩ := r; rfl
  | dn _ _ => obtain ⟨a, _, _, rfl, _⟩ := r; rfl
theorem rep_bl {K : KW} {ρ : List Addr} {F : Hp} {d : D} {v : V} (k : Bool) (r : Rep K ρ F d v) : isBl k d = decide (v = V.bl k) := by
  cases d with
  | non => rw [show v = _ from r]; rfl
  | bl b => rw [show v = _ from r]; cases b <;> cases k <;> rfl
  | int b => rw [show v = _ from r]; rfl
  | str b => rw [show v = _ from r]; rfl
  | tup ds => obtain ⟨a, _, rfl, _⟩ := r; rfl
  | lst ds => obtain ⟨a, _, rfl, _⟩ := r; rfl
  | scr ds => obtain ⟨a, rfl, _⟩ := r; rfl
  | ref ds => obtain ⟨a, rfl, _⟩ := r; rfl
  | dn _ _ => obtain ⟨a, _, _, rfl, _⟩ := r; rfl
theorem okc_is : OkCmp X isD (fun x y H Q => (y = .non ∧ Q (.bl (decide (x = .non))) H) ∨ (∃ b, y = .bl b ∧ Q (.bl (decide (x = .bl b))) H)) := fun x y v w ρ F H hp b Q hs r1 r2 e q => by
  unfold isD at e
  cases y with
  | non =>
    cases e
    rw [rep_non r1] at q
    exact .inl ⟨r2, q⟩
  | bl k =>
    cases e
    rw [rep_bl k r1] at q
    exact .inr ⟨k, r2, q⟩
  | _ => cases e
theorem okc_isNot : OkCmp X isNotD (fun x y H Q => (y = .non ∧ Q (.bl (!decide (x = .non))) H) ∨ (∃ b, y = .bl b ∧ Q (.bl (!decide (x = .bl b))) H)) := fun x y v w ρ F H hp b Q hs r1 r2 e q => by
  unfold isNotD isD at e
  cases y with
  | non =>
    cases e
    rw [rep_non r1] at q
    exact .inl ⟨r2, q⟩
  | bl k =>
    cases e
    rw [rep_bl k r1] at q
    exact .inr ⟨k, r2, q⟩
  | _ => cases e
theorem rep_flat {K : KW} {ρ : List Addr} {F : Hp} {d : D} {v : V} (r : Rep K ρ F d v) (f : flatD d = true) : flatV v = true := by
  cases d with
  | non => rw [show v = _ from r]; rfl
  | bl b => rw [show v = _ from r]; rfl
  | int b => rw [show v = _ from r]; rfl
  | str b => rw [show v = _ from r]; rfl
  | _ => cases f
theorem rep_eqF {K : KW} {ρ : List Addr} {F : Hp} {d e : D} {v w : V} (r : Rep K ρ F d v) (r' : Rep K ρ F e w) (f : flatD d = true) (f' : flatD e = true) : eqV v w = eqF d e := by
  cases d with
  | non => rw [show v = _ from r]; cases e with
    | non => rw [show w = _ from r']; rfl
    | bl b => rw [show w = _ from r']; rfl
    | int b => rw [show w = _ from r']; rfl
    | str b => rw [show w = _ from r']; rfl
    | _ => cases f'
  | bl b => rw [show v = _ from r]; cases e with
    | non => rw [show w = _ from r']; rfl
    | bl b => rw [show w = _ from r']; rfl
    | int b => rw [show w = _ from r']; rfl
    | str b => rw [show w = _ from r']; rfl
    | _ => cases f'
  | int b => rw [show v = _ from r]; cases e with
    | non => rw [show w = _ from r']; rfl
    | bl b => rw [show w = _ from r']; rfl
    | int b => rw [show w = _ from r']; rfl
    | str b => rw [show w = _ from r']; rfl
    | _ => cases f'
  | str b => rw [show v = _ from r]; cases e with
    | non => rw [show w = _ from r']; rfl
    | bl b => rw [show w = _ from r']; rfl
    | int b => rw [show w = _ from r']; rfl
    | str b => rw [show w = _ from r']; rfl
    | _ => cases f'
  | _ => cases f
theorem reps_flat {K : KW} {ρ : List Addr} {F : Hp} {e : D} {w : V} (r' : Rep K ρ F e w) (f' : flatD e = true) : ∀ {ds : List D} {vs : List V}, Reps K ρ F ds vs → ds.all flatD = true → vs.all flatV = true ∧ inV w vs = ds.any fun z => eqF z e
  | [], _, r, _ => by rw [show _ = _ from r]; exact ⟨rfl, rfl⟩
  | d :: ds, _, r, f => by
    obtain ⟨v, t, rfl, r1, r2⟩ := r
    rw [List.all_cons, Bool.and_eq_true] at f
    obtain ⟨h1, h2⟩ := reps_flat r' f' r2 f.2
    refine ⟨by rw [List.all_cons, rep_flat r1 f.1, h1]; rfl, ?_⟩
    unfold inV at h2 ⊢
    rw [List.any_cons, List.any_cons, h2, rep_eqF r1 r' f.1 f']
theorem okc_in (hneg : Bool) : OkCmp X (fun x y hp => (inD x y hp).map fun k => if hneg then !k else k) (fun x y H Q => (∃ (c : Nat) (z : Str), x = .str ⟨#[c]⟩ ∧ y = .str z ∧ Q (.bl (if hneg then !decide (c ∈ z.cps.toList) else decide (c ∈ z.cps.toList))) H) ∨ rIn X.K hneg x y H Q ∨
    (∃ d ds, Dp X.K H x d ∧ Dp X.K H y (.list ds) ∧ SeqAt.shaped d = true ∧ SeqAt.shaped (.list ds) = true ∧ Q (.bl (if hneg then !ds.any (fun z => PyData.eqv z d) else ds.any fun z => PyData.eqv z d)) H)) := fun x y v w ρ F H hp b Q hs r1 r2 e q => by
  replace e : (inD x y hp).map (fun k => if hneg then !k else k) = some b := e
  cases e1 : inD x y hp with
  | none => rw [e1] at e; cases e
  | some k =>
    rw [e1] at e
    cases e
    unfold inD at e1
    split at e1
    · cases e1
      exact .inl ⟨_, _, r1, r2, q⟩
    · split at e1
      · rename_i ys hy
        split at e1
        · rename_i hf
          cases e1
          rw [Bool.and_eq_true] at hf
          obtain ⟨p, ws, rfl, hq, rr⟩ := seqOf_at hs r2 hy
          obtain ⟨h1, h2⟩ := reps_flat r1 hf.1 rr hf.2
          exact .inr (.inl ⟨p, ws, rfl, hq, rep_flat r1 hf.1, h1, by rw [h2]; exact q⟩)
        · split at e1
          · rename_i d es h1 h2
            split at e1
            · rename_i hz
              cases e1
              rw [Bool.and_eq_true] at hz
              exact .inr (.inr ⟨d, es, dp_of hs r1 h1, dp_of hs r2 h2, hz.1, hz.2, q⟩)
            · cases e1
          · cases e1
      · cases e1
theorem de_cmp {op : CmpOp} {r : R2} {h : D → D → Hp8 → Option Bool} (ho : OpR X (compareOp op) r) (hr : OkCmp X h r) (ha : DE X E a fa) (hb : DE X E b fb) (hm : behindInMarks op b = false) : DE X E (.Compare a [op] [b] pos) (sOp (sCmp h) fa fb) :=
  pe_imp (pe_cmpR (ta := EQ X.KW X.mg E fa) (tb := EQ X.KW X.mg E fb) ho ha hb hm) fun σ H Q q => (EK.step q).imp fun v H1 ⟨d1, q1⟩ => (EK.step q1).imp fun w H2 ⟨d2, q2⟩ => hr.op (E := E) _ _ _ _ _ _ _ q2
end
end HI

namespace HI
open PySem L2

def sEq : EF → EF → EF := sOp (sCmp eqD)
def sNe : EF → EF → EF := sOp (sCmp neD)
def sLt : EF → EF → EF := sOp (sCmp ltD)
def sLe : EF → EF → EF := sOp (sCmp leD)
def sGt : EF → EF → EF := sOp (sCmp gtD)
def sGe : EF → EF → EF := sOp (sCmp geD)
def sIs : EF → EF → EF := sOp (sCmp isD)
def sIsNot : EF → EF → EF := sOp (sCmp isNotD)
def sIn : EF → EF → EF := sOp (sCmp fun x y hp => (inD x y hp).map fun k => if false then !k else k)
def sNotIn : EF → EF → EF := sOp (sCmp fun x y hp => (inD x y hp).map fun k => if true then !k else k)
/-- a value that is a bool, as a test -/
def sTst (fa : EF) : TF := bnd fa fun x => rd fun _ => match x with
  | .bl b => some b
  | _ => none
section
variable {X : Cx} {E : XK} {a b c : Expr} {fa fb fc : EF} {ft fu : TF} {pos : Pos}
/-- the comparison's rule and what it means of data -/
structure Cmp (X : Cx) (op : CmpOp) (h : D → D → Hp8 → Option Bool) : Prop where
  ex : ∃ r : R2, OpR X (compareOp op) r ∧ OkCmp X h r
theorem c_lt : Cmp X .Lt ltD := ⟨_, op_lt, okc_lt⟩
theorem c_le : Cmp X .LtE leD := ⟨_, op_le, okc_le⟩
theorem c_gt : Cmp X .Gt gtD := ⟨_, op_gt, okc_gt⟩
theorem c_ge : Cmp X .GtE geD := ⟨_, op_ge, okc_ge⟩
theorem c_eq (hu : X.A.units + 100 < cLine) : Cmp X .Eq eqD := ⟨_, op_eq.or (op_eqD (by omega)), okc_eq⟩
theorem c_ne (hu : X.A.units + 100 < cLine) : Cmp X .NotEq neD := ⟨_, op_ne.or (op_neD (by omega)), okc_ne⟩
theorem c_is : Cmp X .Is isD := ⟨_, op_isN.or op_isB, okc_is⟩
theorem c_isNot : Cmp X .IsNot isNotD := ⟨_, op_notN.or op_isNotB, okc_isNot⟩
theorem c_in (hu : X.A.units + 100 < cLine) : Cmp X .In (fun x y hp => (inD x y hp).map fun k => if false then !k else k) := ⟨_, op_in_sign.or (op_in_seq.or (op_inD (by omega))), okc_in false⟩
theorem c_notIn (hu : X.A.units + 100 < cLine) : Cmp X .NotIn (fun x y hp => (inD x y hp).map fun k => if true then !k else k) := ⟨_, op_notIn_sign.or (op_notIn_seq.or (op_notInD (by omega))), okc_in true⟩
theorem de_c {op : CmpOp} {h : D → D → Hp8 → Option Bool} (k : Cmp X op h) (ha : DE X E a fa) (hb : DE X E b fb) (hm : behindInMarks op b = false := by first | exact nomark _ | rfl) : DE X E (.Compare a [op] [b] pos) (sOp (sCmp h) fa fb) := by
  obtain ⟨r, h1, h2⟩ := k.ex
  exact de_cmp h1 h2 ha hb hm
theorem EK.tst {K : KW} {mg : Str → Option Value} {σ : St} {H : Hp} {Q : Bool → Hp → Prop} (h : TQ K mg E (sTst fa) σ H Q) : EQ K mg E fa σ H fun x H' => ∃ k, x = V.bl k ∧ Q k H' :=
  (EK.step h).imp fun v H1 ⟨d, q⟩ => by
    obtain ⟨ρ, F, hp, x, rv, hs, e, fin⟩ := EK.read q
    split at e
    · cases e
      exact ⟨_, rep1 rv, fin ρ F H1 (Ext.refl _ _ _) hs⟩
    · cases e
/-- a test that is a plain value (a call, a name ..) holding a bool -/
theorem dt_val (ha : DE X E a fa) (he : ∀ whole, isTrue a X.env whole = (do let v ← whole; standAt a.pos; holding [v] (truthy v)) := by intro _; rfl) : DT X E a (sTst fa) :=
  pt_imp (pt_val (t := EQ X.KW X.mg E fa) ha he) fun σ H Q h => EK.tst h
theorem dt_c {op : CmpOp} {h : D → D → Hp8 → Option Bool} (k : Cmp X op h) (ha : DE X E a fa) (hb : DE X E b fb) (hm : behindInMarks op b = false := by first | exact nomark _ | rfl) : DT X E (.Compare a [op] [b] pos) (sTst (sOp (sCmp h) fa fb)) := by
  obtain ⟨r, h1, h2⟩ := k.ex
  refine pt_imp (pt_cmpR (ta := EQ X.KW X.mg E fa) (tb := EQ X.KW X.mg E fb) h1 ha hb hm) fun σ H Q q => ?_
  exact (EK.step (EK.tst q)).imp fun v H1 ⟨d1, q1⟩ => (EK.step q1).imp fun w H2 ⟨d2, q2⟩ => h2.op (E := E) _ _ _ _ _ _ _ q2
/-! chains -/
def sChain (h h' : D → D → Hp8 → Option Bool) (fa fb fc : EF) : EF := bnd fa fun x => bnd fb fun y => bnd (rd (h x y)) fun k => if k then bnd fc fun z => sCmp h' y z else pur (.bl false)
theorem EK.rdb {K : KW} {mg : Str → Option Value} {α β : Type} {ds : List D} {vs : List V} {σ : St} {H : Hp} {h : Hp8 → Option α} {k : α → GF β} {Q : List Addr → Hp → Hp → β → Prop} (q : EK K mg E ds vs (bnd (rd h) k) σ H Q) :
    ∃ ρ F env hp a, Reps K ρ F ds vs ∧ EnvR K ρ F env σ ∧ Sim K ρ F H hp ∧ h hp = some a ∧ EK K mg E ds vs (k a) σ H Q := by
  obtain ⟨ρ, F, env, hp, r, hp', rd', he, hs, e, fin⟩ := q
  unfold bnd rd at e
  cases q : h hp with
  | none => rw [q] at e; cases e
  | some a =>
    rw [q] at e
    exact ⟨ρ, F, env, hp, a, rd', he, hs, q, ρ, F, env, hp, r, hp', rd', he, hs, e, fin⟩
theorem EK.drop1 {K : KW} {mg : Str → Option Value} {α : Type} {d : D} {v : V} {ds : List D} {vs : List V} {σ : St} {H : Hp} {g : GF α} {Q : List Addr → Hp → Hp → α → Prop} (q : EK K mg E (d :: ds) (v :: vs) g σ H Q) : EK K mg E ds vs g σ H Q := by
  obtain ⟨ρ, F, env, hp, r, hp', rd', he, hs, e, fin⟩ := q
  obtain ⟨w, t, ev, _, rr⟩ := rd'
  cases ev
  exact ⟨ρ, F, env, hp, r, hp', rr, he, hs, e, fin⟩
theorem EK.init {K : KW} {mg : Str → Option Value} {α : Type} {d e : D} {v w : V} {σ : St} {H : Hp} {g : GF α} {Q : List Addr → Hp → Hp → α → Prop} (q : EK K mg E [d, e] [v, w] g σ H Q) : EK K mg E [d] [v] g σ H Q := by
  obtain ⟨ρ, F, env, hp, r, hp', rd', he, hs, e, fin⟩ := q
  obtain ⟨r1, r2⟩ := rep2 rd'
  exact ⟨ρ, F, env, hp, r, hp', Reps.one r1, he, hs, e, fin⟩
theorem EK.chain {h h' : D → D → Hp8 → Option Bool} {r r' : R2} (k1 : OkCmp X h r) (k2 : OkCmp X h' r') {σ : St} {H : Hp} {Q : VK} (q : EQ X.KW X.mg E (sChain h h' fa fb fc) σ H Q) :
    tChain r r' (EQ X.KW X.mg E fa) (EQ X.KW X.mg E fb) (EQ X.KW X.mg E fc) σ H Q :=
  (EK.step q).imp fun v H1 ⟨x, q1⟩ => (EK.step q1).imp fun w H2 ⟨y, q2⟩ => by
    obtain ⟨ρ, F, env, hp, kk, rv, he, hs, e, q3⟩ := EK.rdb q2
    obtain ⟨r1, r2⟩ := rep2 rv
    refine k1 x y v w ρ F H2 hp kk _ hs r2 r1 e ⟨kk, rfl, ?_⟩
    cases kk with
    | false =>
      obtain ⟨ρ', F', hp', rv', hs', fin⟩ := EK.pure q3
      exact fin _ rfl
    | true =>
      refine (EK.step q3).imp fun u H3 ⟨z, q4⟩ => ?_
      obtain ⟨ρ, F, env, hp, r, hp', rd', he, hs, e, fin⟩ := q4
      obtain ⟨t1, t2, t3⟩ := rep3 rd'
      exact k2.op (E := E) y z w u σ H3 Q ⟨ρ, F, env, hp, r, hp', ⟨u, [w], rfl, t1, ⟨w, [], rfl, t2, rfl⟩⟩, he, hs, e, fin⟩
theorem de_chain {op op' : CmpOp} {h h' : D → D → Hp8 → Option Bool} (k : Cmp X op h) (k' : Cmp X op' h') (ha : DE X E a fa) (hb : DE X E b fb) (hc : DE X E c fc)
    (hm : lastMarks [op, op'] [b, c] = false := by with_unfolding_all rfl) : DE X E (.Compare a [op, op'] [b, c] pos) (sChain h h' fa fb fc) := by
  obtain ⟨r, h1, h2⟩ := k.ex
  obtain ⟨r', h1', h2'⟩ := k'.ex
  exact pe_imp (pe_chain (ta := EQ X.KW X.mg E fa) (tb := EQ X.KW X.mg E fb) (tc := EQ X.KW X.mg E fc) h1 h1' ha hb hc hm) fun σ H Q q => EK.chain h2 h2' q
theorem dt_chain {op op' : CmpOp} {h h' : D → D → Hp8 → Option Bool} (k : Cmp X op h) (k' : Cmp X op' h') (ha : DE X E a fa) (hb : DE X E b fb) (hc : DE X E c fc)
    (hm : lastMarks [op, op'] [b, c] = false := by with_unfolding_all rfl) : DT X E (.Compare a [op, op'] [b, c] pos) (sTst (sChain h h' fa fb fc)) := by
  obtain ⟨r, h1, h2⟩ := k.ex
  obtain ⟨r', h1', h2'⟩ := k'.ex
  exact pt_imp (pt_chain (ta := EQ X.KW X.mg E fa) (tb := EQ X.KW X.mg E fb) (tc := EQ X.KW X.mg E fc) h1 h1' ha hb hc hm) fun σ H Q q => EK.chain h2 h2' (EK.tst q)
/-! ### not, and, or, if -/
def tfNot (ft : TF) : TF := bnd ft fun b => pur (!b)
def tfAnd (ft fu : TF) : TF := bnd ft fun b => if b then fu else pur false
def tfOr (ft fu : TF) : TF := bnd ft fun b => if b then pur true else fu
def DW (X : Cx) (E : XK) (e : Expr) (f : TF) : Prop := PW X e (TQ X.KW X.mg E f)
theorem dt_w (h : DW X E a ft) : DT X E a ft := PW.pt h
theorem pw_imp {e : Expr} {t t' : TT} (h : PW X e t) (i : ∀ σ H Q, t' σ H Q → t σ H Q) : PW X e t' := ⟨fun wh pins s σ H Q I q => h.run wh pins s σ H Q I (i _ _ _ q)⟩
theorem dt_not (h : DT X E a ft) : DT X E (.UnaryOp .Not a pos) (tfNot ft) :=
  pt_imp (pt_not (tA := TQ X.KW X.mg E ft) h) fun σ H Q q => (EK.stepT q).imp fun b H1 q1 => by
    obtain ⟨ρ, F, hp, _, _, fin⟩ := EK.pure q1
    exact fin
theorem dw_and1 (h : DT X E a ft) : DW X E (.BoolOp .And [a] pos) ft := pw_and1 h
theorem dw_or1 (h : DT X E a ft) : DW X E (.BoolOp .Or [a] pos) ft := pw_or1 h
theorem dw_and {rest : List Expr} (h : DT X E a ft) (hb : DW X E (.BoolOp .And (b :: rest) pos) fu) : DW X E (.BoolOp .And (a :: b :: rest) pos) (tfAnd ft fu) :=
  pw_imp (pw_and (tA := TQ X.KW X.mg E ft) (tB' := TQ X.KW X.mg E fu) h hb) fun σ H Q q => (EK.stepT q).imp fun k H1 q1 => by
    cases k with
    | true => exact q1
    | false =>
      obtain ⟨ρ, F, hp, _, _, fin⟩ := EK.pure (show EK X.KW X.mg E [] [] (pur false) σ H1 _ from q1)
      exact fin
theorem dw_or {rest : List Expr} (h : DT X E a ft) (hb : DW X E (.BoolOp .Or (b :: rest) pos) fu) : DW X E (.BoolOp .Or (a :: b :: rest) pos) (tfOr ft fu) :=
  pw_imp (pw_or (tA := TQ X.KW X.mg E ft) (tB' := TQ X.KW X.mg E fu) h hb) fun σ H Q q => (EK.stepT q).imp fun k H1 q1 => by
    cases k with
    | false => exact q1
    | true =>
      obtain ⟨ρ, F, hp, _, _, fin⟩ := EK.pure (show EK X.KW X.mg E [] [] (pur true) σ H1 _ from q1)
      exact fin
/-- as values -/
def sAnd (fa fb : EF) : EF := bnd (sTst fa) fun b => if b then fb else pur (.bl false)
def sOr (fa fb : EF) : EF := bnd (sTst fa) fun b => if b then pur (.bl true) else fb
def sNot (fa : EF) : EF := bnd (sTst fa) fun b => pur (.bl (!b))
theorem EK.stepB {K : KW} {mg : Str → Option Value} {σ : St} {H : Hp} {k : Bool → EF} {Q : VK} (h : EQ K mg E (bnd (sTst fa) k) σ H Q) : EQ K mg E fa σ H fun x H1 => ∃ c, x = V.bl c ∧ EQ K mg E (k c) σ H1 Q :=
  EK.tst ((EK.stepT h).imp fun b H1 q => q)
theorem de_one {op} (h : DE X E a fa) : DE X E (.BoolOp op [a] pos) fa := pe_one h
theorem de_and {rest : List Expr} (h : DE X E a fa) (hb : DE X E (.BoolOp .And (b :: rest) pos) fb) : DE X E (.BoolOp .And (a :: b :: rest) pos) (sAnd fa fb) :=
  pe_imp (pe_and (ta := EQ X.KW X.mg E fa) (tb := EQ X.KW X.mg E fb) h hb) fun σ H Q q => (EK.stepB q).imp fun x H1 ⟨c, e, q1⟩ => ⟨c, e, by
    cases c with
    | true => exact q1
    | false =>
      obtain ⟨ρ, F, hp, _, _, fin⟩ := EK.pure (show EK X.KW X.mg E [] [] (pur (D.bl false)) σ H1 _ from q1)
      exact fin _ rfl⟩
theorem de_or {rest : List Expr} (h : DE X E a fa) (hb : DE X E (.BoolOp .Or (b :: rest) pos) fb) : DE X E (.BoolOp .Or (a :: b :: rest) pos) (sOr fa fb) :=
  pe_imp (pe_or (ta := EQ X.KW X.mg E fa) (tb := EQ X.KW X.mg E fb) h hb) fun σ H Q q => (EK.stepB q).imp fun x H1 ⟨c, e, q1⟩ => ⟨c, e, by
    cases c with
    | false => exact q1
    | true =>
      obtain ⟨ρ, F, hp, _, _, fin⟩ := EK.pure (show EK X.KW X.mg E [] [] (pur (D.bl true)) σ H1 _ from q1)
      exact fin _ rfl⟩
theorem de_not (h : DE X E a fa) : DE X E (.UnaryOp .Not a pos) (sNot fa) :=
  pe_imp (pe_not (ta := EQ X.KW X.mg E fa) h) fun σ H Q q => (EK.stepB q).imp fun x H1 ⟨c, e, q1⟩ => ⟨c, e, by
    obtain ⟨ρ, F, hp, _, _, fin⟩ := EK.pure q1
    exact fin _ rfl⟩
def sIf (ft : TF) (fa fb : EF) : EF := bnd ft fun b => if b then fa else fb
theorem de_if (hc : DT X E c ft) (ha : DE X E a fa) (hb : DE X E b fb) : DE X E (.IfExp c a b pos) (sIf ft fa fb) :=
  pe_imp (pe_ifExp (tA := TQ X.KW X.mg E ft) (ta := EQ X.KW X.mg E fa) (tb := EQ X.KW X.mg E fb) hc ha hb) fun σ H Q q => (EK.stepT q).imp fun k H1 q1 => by
    cases k with
    | true => exact q1
    | false => exact q1
end
end HI

namespace HI
open PySem L2

def SQ (K : KW) (mg : Str → Option Value) (E : XK) {α : Type} (f : GF α) (σ : St) (H : Hp) (Q : α → Hp → Prop) : Prop := EK K mg E [] [] f σ H fun _ _ H' b => Q b H'
def mkCell (c : Cell) : EF := fun _ hp => some (.ok (.ref hp.length), hp ++ [c])
section
variable {K : KW} {mg : Str → Option Value} {E : XK} {α β : Type} {ds : List D} {vs : List V} {σ : St} {H : Hp}
theorem EK.stepS {fa : GF α} {k : α → GF β} {Q : List Addr → Hp → Hp → β → Prop} (h : EK K mg E ds vs (bnd fa k) σ H Q) : SQ K mg E fa σ H fun b H1 => EK K mg E ds vs (k b) σ H1 Q := by
  obtain ⟨ρ, F, env, hp, r, hp', rd, he, hs, e, fin⟩ := h
  unfold bnd at e
  cases q : fa env hp with
  | none => rw [q] at e; cases e
  | some p =>
    obtain ⟨r1, hp1⟩ := p
    rw [q] at e
    cases r1 with
    | ok b =>
      refine ⟨ρ, F, env, hp, .ok b, hp1, rfl, he, hs, q, fun ρ1 F1 H1 x1 s1 => ⟨ρ1, F1, env, hp1, r, hp', Reps.mono x1.same x1.pre _ _ rd, he.mono x1.same x1.pre, s1, e, fun ρ2 F2 H2 x2 s2 => fin ρ2 F2 H2 (x1.trans s1 x2) s2⟩⟩
    | exc c =>
      obtain ⟨rfl, rfl⟩ := Prod.mk.inj (Option.some.inj e)
      exact ⟨ρ, F, env, hp, .exc c, _, rfl, he, hs, q, fun ρ1 F1 H1 x1 s1 => fin ρ1 F1 H1 x1 s1⟩
theorem SQ.imp {f : GF α} {Q Q' : α → Hp → Prop} (h : SQ K mg E f σ H Q) (i : ∀ v H, Q v H → Q' v H) : SQ K mg E f σ H Q' := EK.imp h fun _ _ H b q => i b H q
theorem EK.cell {c : Cell} {Q : VK} (h : EK K mg E ds vs (mkCell c) σ H fun ρ' F' H' d => ∀ v, Rep K ρ' F' d v → Q v H') :
    ∃ ρ F hp, Reps K ρ F ds vs ∧ Sim K ρ F H hp ∧ ∀ p o, H p = none → CellR K (ρ ++ [p]) F (upd H p o) p c → Q (.ref p) (upd H p o) := by
  obtain ⟨ρ, F, env, hp, r, hp', rd', he, hs, e, fin⟩ := h
  obtain ⟨rfl, rfl⟩ := Prod.mk.inj (Option.some.inj e)
  refine ⟨ρ, F, hp, rd', hs, fun p o hn hc => ?_⟩
  obtain ⟨s', x'⟩ := hs.new hn o c hc
  exact fin _ _ _ x' s' (.ref p) ⟨p, rfl, by rw [hs.len]; simp⟩
theorem Reps.split {ρ : List Addr} {F : Hp} : ∀ {as bs : List D} {vs ws : List V}, as.length = vs.length → Reps K ρ F (as ++ bs) (vs ++ ws) → Reps K ρ F as vs ∧ Reps K ρ F bs ws
  | [], _, [], _, _, h => ⟨rfl, h⟩
  | [], _, _ :: _, _, e, _ => by cases e
  | _ :: _, _, [], _, e, _ => by cases e
  | a :: as, bs, v :: vs, ws, e, h => by
    obtain ⟨w, r, ev, r1, r2⟩ := h
    have ev' : v :: (vs ++ ws) = w :: r := ev
    cases ev'
    obtain ⟨h1, h2⟩ := Reps.split (by simpa using e) r2
    exact ⟨⟨v, vs, rfl, r1, h1⟩, h2⟩
end
/-! ### arguments, displays -/
def sNil : AF := pur []
def sCons (fa : EF) (fr : AF) : AF := bnd fa fun x => bnd fr fun xs => pur (x :: xs)
def sTup (fA : AF) : EF := bnd fA fun xs => rd fun _ => if xs.length ≤ 1000 then some (.tup xs) else none
def sLst (fA : AF) : EF := bnd fA fun xs => rd fun _ => if xs.length ≤ 1000 then some (.lst xs) else none
def sLstC (fA : AF) : EF := bnd fA fun xs => if xs.length ≤ 1000 then mkCell (.lst xs) else fun _ _ => none
section
variable {X : Cx} {E : XK} {a b c e : Expr} {es : List Expr} {fa fb fc : EF} {fA fr : AF} {pos : Pos}
theorem da_nil : DA X E [] sNil := pa_imp pa_nil fun σ H Q q => by
  obtain ⟨ρ, F, hp, _, _, fin⟩ := EK.pure q
  exact fin _ rfl
theorem da_cons (ha : DE X E e fa) (hr : DA X E es fr) (hs : starEach (e :: es) X.env = (false, eval e X.env) :: starEach es X.env := by rfl) : DA X E (e :: es) (sCons fa fr) :=
  pa_imp (pa_cons (te := EQ X.KW X.mg E fa) (t := AQ X.KW X.mg E fr) ha hr hs) fun σ H Q q => (EK.step q).imp fun v H1 ⟨d, q1⟩ => (EK.stepA q1).imp fun ws H2 ⟨es, hl, q2⟩ => by
    obtain ⟨ρ, F, hp, rv, _, fin⟩ := EK.pure q2
    obtain ⟨h1, h2⟩ := Reps.split hl rv
    exact fin (v :: ws) ⟨v, ws, rfl, rep1 h2, h1⟩
theorem nil_app {K : KW} {mg : Str → Option Value} {α : Type} {ds : List D} {vs : List V} {σ : St} {H : Hp} {g : GF α} {Q : List Addr → Hp → Hp → α → Prop} (h : EK K mg E (ds ++ []) (vs ++ []) g σ H Q) : EK K mg E ds vs g σ H Q := by
  rw [List.append_nil, List.append_nil] at h
  exact h
theorem small {n : Nat} (h : n ≤ 1000) : n ≤ sizeLine := Nat.le_trans h (by decide)
/-! tuples whose object is kept in mind -/
theorem laidT {X : Cx} {pins : List (Addr × Obj)} {σ : St} {H : Hp} {s : Shared} {xs : List V} {us : List Value} {t : Nat} (I : Inv X pins σ H s) (z : xs.length ≤ sizeLine) (r : Vals xs us) :
    H s.heap.objs.size = none ∧ Inv X pins σ (upd H s.heap.objs.size (.frz { cls := .type "tuple", data := .seq us.toArray } (.tup xs))) { s with heap := s.heap.push { cls := .type "tuple", data := .seq us.toArray }, toks := t } := by
  have g : (s.heap.push { cls := .type "tuple", data := .seq us.toArray }).get? s.heap.objs.size = some { cls := .type "tuple", data := .seq us.toArray } := Heap.get?_push_size _ rfl
  exact ⟨I.hok.fresh (Nat.le_refl _), I.laid (fun b u e => Heap.get?_push_of_some _ e) (Nat.le_refl _) ⟨g, z, us, r, _, g, rfl, _, rfl⟩⟩
def tTupP (t : TA) : TE := fun σ H Q => t σ H fun xs H1 => xs.length ≤ sizeLine ∧ ∀ (p : Addr) (o : Obj), H1 p = none → o.dict = none → Q (.ref p) (upd H1 p (.frz o (.tup xs)))
theorem pe_tupP {X : Cx} {es : List Expr} {t : TA} {x1} {pos : Pos} (h : PA X es t) : PE X (.Tuple es x1 pos) (tTupP t) :=
  ⟨fun pins s σ H Q I hq => wpAny_Tuple_spliced (thn (h.run pos pins s σ H _ I hq) fun us s1 ⟨xs, H1, I1, r, z, q⟩ =>
    have l := laidT (t := s1.toks) I1 z r
    ⟨by rw [← r.length]; exact z, .ref s1.heap.objs.size, _, l.2, rfl, q _ _ l.1 rfl⟩)⟩
theorem call_tupleP {X : Cx} : CallR X (.type "tuple") (fun xs H Q => ∃ p ys, xs = [.ref p] ∧ ((SqL X.K H p ys ∧ ∀ (l : Addr) (o : Obj), H l = none → o.dict = none → Q (.ref l) (upd H l (.frz o (.tup ys)))) ∨ (SqT X.K H p ys ∧ Q (.ref p) H))) := by
  intro pins s σ H xs us Q I r h
  obtain ⟨p, ys, ex, h⟩ := h
  subst ex
  obtain ⟨u, eu, rx⟩ := vals1 r
  subst eu
  cases rx
  rcases h with ⟨hq, q⟩ | ⟨hq, q⟩
  · obtain ⟨its, r', ls, hz⟩ := I.list hq
    refine call_tuple_list ls.isList (fun h' kp => ?_) (by rw [List.size_toArray, ← r'.length]; exact hz)
    have l := laidT (t := s.toks) (I.kept (t' := s.toks) kp) hz r'
    exact ⟨.ref h'.objs.size, _, l.2, rfl, q _ _ l.1 rfl⟩
  · obtain ⟨its, r', ls, hz⟩ := I.tuple hq
    exact call_tuple_same ls ⟨.ref p, H, I, rfl, q⟩
def rSlP (K : PySem.W.Frag) : V → Option Int → Option Int → Hp → VK → Prop := fun x lo hi H Q => ∃ a xs, x = .ref a ∧ SqT K H a xs ∧
  ((HT.sIx xs.length 0 lo = 0 ∧ HT.sIx xs.length xs.length hi = xs.length) → Q (.ref a) H) ∧ (∀ (p : Addr) (o : Obj), H p = none → o.dict = none → Q (.ref p) (upd H p (.frz o (.tup (cutV xs lo hi)))))
theorem sl_tupP {X : Cx} : SlR X (rSlP X.K) := by
  intro pins s σ H x v vl vu lo hi sl Q I rx hs pv pu h
  obtain ⟨a, xs, ex, hx, q1, q2⟩ := h
  subst ex
  by_cases hw : HT.sIx xs.length 0 lo = 0 ∧ HT.sIx xs.length xs.length hi = xs.length
  · exact sl_tupA pins s σ H _ v vl vu lo hi sl Q I rx hs pv pu ⟨a, xs, rfl, hx, fun z => q1 z, fun z => absurd hw z⟩
  · cases rx
    obtain ⟨its, r, ht, hz⟩ := I.tuple hx
    have hlen : xs.length = its.toArray.size := by rw [List.size_toArray, r.length]
    have l := laidT (t := s.toks) (us := (its.drop (HT.sIx xs.length 0 lo)).take (HT.sIx xs.length xs.length hi - HT.sIx xs.length 0 lo)) I (Nat.le_trans (cutV_length xs lo hi) hz) ((r.drop (HT.sIx xs.length 0 lo)).take (HT.sIx xs.length xs.length hi - HT.sIx xs.length 0 lo))
    refine ⟨"tuple", _, PyProof.Rows.slot_tuple_getitem.lookup, ht.typeIs, HT.getItem_tuple_cut ht hs pv pu (by rw [← hlen]; exact hw) ?_ (by rw [← hlen]; exact hz)⟩
    rw [← hlen]
    exact ⟨.ref s.heap.objs.size, _, l.2, rfl, q2 _ _ l.1 rfl⟩
theorem de_tup {x1} (ha : DA X E es fA) : DE X E (.Tuple es x1 pos) (sTup fA) :=
  pe_imp (pe_tupP (t := AQ X.KW X.mg E fA) ha) fun σ H Q q => (EK.stepA q).imp fun ws H1 ⟨ds, hl, q1⟩ => by
    obtain ⟨ρ, F, hp, d, rv, hs, e, fin⟩ := EK.read (nil_app q1)
    split at e
    · rename_i h
      cases e
      refine ⟨by rw [← hl]; exact small h, fun p o hn ho => ?_⟩
      obtain ⟨s', x', rr⟩ := new_tupP hs rv hn ho
      exact fin _ _ _ x' s' _ rr
    · cases e
theorem de_lst (ha : DA X E es fA) : DE X E (.List es pos) (sLst fA) :=
  pe_imp (pe_lst (t := AQ X.KW X.mg E fA) ha) fun σ H Q q => (EK.stepA q).imp fun ws H1 ⟨ds, hl, q1⟩ => by
    obtain ⟨ρ, F, hp, d, rv, hs, e, fin⟩ := EK.read (nil_app q1)
    split at e
    · rename_i h
      cases e
      refine ⟨by rw [← hl]; exact small h, fun p hn => ?_⟩
      obtain ⟨s', x', rr⟩ := new_lst hs rv hn
      exact fin _ _ _ x' s' _ rr
    · cases e
theorem EK.none {K : KW} {mg : Str → Option Value} {α : Type} {ds : List D} {vs : List V} {σ : St} {H : Hp} {Q : List Addr → Hp → Hp → α → Prop} (h : EK K mg E ds vs (fun _ _ => Option.none) σ H Q) : False := by
  obtain ⟨ρ, F, env, hp, r, hp', rd', he, hs, e, fin⟩ := h
  cases e
theorem de_lstC (ha : DA X E es fA) : DE X E (.List es pos) (sLstC fA) :=
  pe_imp (pe_lst (t := AQ X.KW X.mg E fA) ha) fun σ H Q q => (EK.stepA q).imp fun ws H1 ⟨ds, hl, q1⟩ => by
    have q1 := nil_app q1
    split at q1
    · rename_i h
      obtain ⟨ρ, F, hp, rv, hs, fin⟩ := EK.cell q1
      exact ⟨by rw [← hl]; exact small h, fun p hn => fin p _ hn ⟨ws, upd_same, Reps.mono (Same.refl _) (List.prefix_append _ _) _ _ rv⟩⟩
    · exact (EK.none q1).elim
/-! ### a[i] -/
def ixD (x i : D) (hp : Hp8) : Option D := match x, i with
  | .str z, .int k => if z.length ≤ sizeLine then (atI z.cps.toList k).map fun c => .str ⟨#[c]⟩ else none
  | x, .int k => match seqOf hp x with
    | some ds => atI ds k
    | none => none
  | _, _ => none
def sIx : EF → EF → EF := sOp (sRd2 ixD)
theorem atI_rep {K : KW} {ρ : List Addr} {F : Hp} {ds : List D} {ws : List V} {k : Int} {d : D} (rr : Reps K ρ F ds ws) (e : atI ds k = some d) : ∃ v, atI ws k = some v ∧ Rep K ρ F d v := by
  unfold atI at e ⊢
  rw [← rr.len]
  cases h : ixN ds.length k with
  | none => rw [h] at e; cases e
  | some j =>
    rw [h] at e
    exact rr.get e
theorem ok_ix : OkOp X E (sRd2 ixD) (rIx X.K) := fun x y v w σ H Q h => by
  obtain ⟨ρ, F, hp, d, rv, hs, e, fin⟩ := EK.read h
  obtain ⟨r1, r2⟩ := rep2 rv
  unfold ixD at e
  split at e
  · rename_i z k
    split at e
    · rename_i hl
      cases q : atI z.cps.toList k with
      | none => rw [q] at e; cases e
      | some c =>
        rw [q] at e
        cases e
        exact .inr (.inr ⟨z, k, c, r2, r1, hl, q, fin ρ F H (Ext.refl _ _ _) hs _ rfl⟩)
    · cases e
  · rename_i x k hns
    split at e
    · rename_i ds hd
      obtain ⟨p, ws, rfl, hq, rr⟩ := seqOf_at hs r2 hd
      obtain ⟨u, hu, ru⟩ := atI_rep rr e
      rcases hq with hq | hq
      · exact .inl ⟨p, ws, k, u, rfl, r1, hq, hu, fin ρ F H (Ext.refl _ _ _) hs _ ru⟩
      · exact .inr (.inl ⟨p, ws, k, u, rfl, r1, hq, hu, fin ρ F H (Ext.refl _ _ _) hs _ ru⟩)
    · cases e
  · cases e
theorem de_ix (ha : DE X E a fa) (hb : DE X E b fb) (hs : PlainIx b := by exact fun _ _ => rfl) : DE X E (.Subscript a b pos) (sIx fa fb) :=
  pe_imp (pe_ix (ta := EQ X.KW X.mg E fa) (tb := EQ X.KW X.mg E fb) ix_seq ha hb hs) fun σ H Q q => (EK.step q).imp fun v H1 ⟨d1, q1⟩ => (EK.step q1).imp fun w H2 ⟨d2, q2⟩ => ok_ix (E := E) _ _ _ _ _ _ _ q2
/-! ### a[i:j] -/
def cutD (xs : List D) (lo hi : Option Int) : List D := (xs.drop (HT.sIx xs.length 0 lo)).take (HT.sIx xs.length xs.length hi - HT.sIx xs.length 0 lo)
theorem cut_rep {K : KW} {ρ : List Addr} {F : Hp} {ds : List D} {ws : List V} (rr : Reps K ρ F ds ws) (lo hi : Option Int) : Reps K ρ F (cutD ds lo hi) (cutV ws lo hi) := by
  unfold cutD cutV
  rw [rr.len]
  exact (rr.drop _).take _
def slD (x : D) (lo hi : Option Int) (hp : Hp8) : Option D := match x with
  | .tup ds => some (.tup (cutD ds lo hi))
  | .str z => if z.length ≤ sizeLine then some (.str (Txt.slice z lo hi)) else none
  | x => (listOf hp x).map fun ds => .lst (cutD ds lo hi)
def DO (X : Cx) (E : XK) (e : Option Expr) (f : GF (Option Int)) : Prop := PO X e (SQ X.KW X.mg E f)
theorem po_imp {e : Option Expr} {t t' : TO} (h : PO X e t) (i : ∀ σ H Q, t' σ H Q → t σ H Q) : PO X e t' := ⟨fun pins s σ H Q I q => h.run pins s σ H Q I (i _ _ _ q)⟩
theorem do_none : DO X E none (pur none) := po_imp po_none fun σ H Q q => by
  obtain ⟨ρ, F, hp, _, _, fin⟩ := EK.pure q
  exact fin
def sPart (fa : EF) : GF (Option Int) := bnd fa fun x => rd fun _ => match x with
  | .int i => some (some i)
  | _ => none
theorem do_some (ha : DE X E a fa) : DO X E (some a) (sPart fa) := po_imp (po_some (te := EQ X.KW X.mg E fa) ha) fun σ H Q q => (EK.step q).imp fun v H1 ⟨d, q1⟩ => by
  obtain ⟨ρ, F, hp, x, rv, hs, e, fin⟩ := EK.read q1
  split at e
  · cases e
    exact ⟨_, rep1 rv, fin ρ F H1 (Ext.refl _ _ _) hs⟩
  · cases e
def sSl (fa : EF) (fl fh : GF (Option Int)) : EF := bnd fa fun x => bnd fl fun lo => bnd fh fun hi => rd (slD x lo hi)
theorem de_slice {lo hi : Option Expr} {fl fh : GF (Option Int)} {p2 : Pos} (ha : DE X E a fa) (hl : DO X E lo fl) (hh : DO X E hi fh) : DE X E (.Subscript a (.Slice lo hi none p2) pos) (sSl fa fl fh) :=
  pe_imp (pe_slice (te := EQ X.KW X.mg E fa) (tl := SQ X.KW X.mg E fl) (th := SQ X.KW X.mg E fh) (sl_tupP.or (sl_list.or C8.sl_txt)) ha hl hh) fun σ H Q q => (EK.step q).imp fun v H1 ⟨x, q1⟩ =>
    (EK.stepS q1).imp fun lo H2 q2 => (EK.stepS q2).imp fun hi H3 q3 => by
      obtain ⟨ρ, F, hp, d, rv, hs, e, fin⟩ := EK.read q3
      have r := rep1 rv
      unfold slD at e
      split at e
      · rename_i ds
        cases e
        obtain ⟨a, ws, rfl, hq, rr⟩ := tup_at hs r
        refine .inl ⟨a, ws, rfl, hq, fun z => ?_, fun p o hn ho => ?_⟩
        · have z1 : HT.sIx ds.length 0 lo = 0 := by rw [rr.len]; exact z.1
          have z2 : HT.sIx ds.length ds.length hi = ds.length := by rw [rr.len]; exact z.2
          have : cutD ds lo hi = ds := by unfold cutD; rw [z1, z2]; simp
          rw [this] at fin
          exact fin ρ F H3 (Ext.refl _ _ _) hs _ r
        · obtain ⟨s', x', r'⟩ := new_tupP hs (cut_rep rr lo hi) hn ho
          exact fin _ _ _ x' s' _ r'
      · split at e
        · rename_i z hl
          cases e
          exact .inr (.inr ⟨z, r, hl, fin ρ F H3 (Ext.refl _ _ _) hs _ rfl⟩)
        · cases e
      · cases q : listOf hp x with
        | none => rw [q] at e; cases e
        | some ds =>
          rw [q] at e
          cases e
          obtain ⟨a, ws, rfl, hq, rr⟩ := listOf_at hs r q
          refine .inr (.inl ⟨a, ws, rfl, hq, fun p hn => ?_⟩)
          obtain ⟨s', x', r'⟩ := new_lst hs (cut_rep rr lo hi) hn
          exact fin _ _ _ x' s' _ r'
/-! ### built-in functions -/
abbrev OkCall (X : Cx) (E : XK) (g : List D → EF) (r : List V → Hp → VK → Prop) : Prop := ∀ (ds : List D) (vs : List V) (σ : St) (H : Hp) (Q : VK), EK X.KW X.mg E ds vs (g ds) σ H (fun ρ' F' H' d => ∀ v, Rep X.KW ρ' F' d v → Q v H') → r vs H Q
def sCall (g : List D → EF) (fA : AF) : EF := bnd fA g
theorem de_callB {id : String} {x : Str} {p : Pos} {r : List V → Hp → VK → Prop} {g : List D → EF} (hc : CallR X (.builtin id) r) (ok : OkCall X E g r) (hg : Gl X x) (hm : X.mg x = none) (hv : bootBuiltins x = some (.builtin id)) (ha : DA X E (e :: es) fA)
    (hn : x ≠ "__name__" := by decide) (hdb : (x == ("__debug__" : Str)) = false := by decide) (he : starEach (e :: es) X.env = (false, eval e X.env) :: starEach es X.env := by rfl) (hpl : (backTo pos (starEach es X.env)).any (·.1) = false := by rfl) :
    DE X E (.Call (.Name x p) (e :: es) [] pos) (sCall g fA) :=
  pe_imp (pe_callB (t := AQ X.KW X.mg E fA) hc hg hm hv ha hn hdb he hpl) fun σ H Q q => (EK.stepA q).imp fun ws H1 ⟨ds, hl, q1⟩ => ok ds ws σ H1 Q (nil_app q1)
theorem de_callT {T : String} {x : Str} {p : Pos} {r : List V → Hp → VK → Prop} {g : List D → EF} (hc : CallR X (.type T) r) (ok : OkCall X E g r) (hg : Gl X x) (hm : X.mg x = none) (hv : bootBuiltins x = some (.type T)) (ha : DA X E (e :: es) fA)
    (hn : x ≠ "__name__" := by decide) (hdb : (x == ("__debug__" : Str)) = false := by decide) (he : starEach (e :: es) X.env = (false, eval e X.env) :: starEach es X.env := by rfl) (hpl : (backTo pos (starEach es X.env)).any (·.1) = false := by rfl) :
    DE X E (.Call (.Name x p) (e :: es) [] pos) (sCall g fA) :=
  pe_imp (pe_callTy (t := AQ X.KW X.mg E fA) hc hg hm hv ha hn hdb he hpl) fun σ H Q q => (EK.stepA q).imp fun ws H1 ⟨ds, hl, q1⟩ => ok ds ws σ H1 Q (nil_app q1)
/-- one argument, read -/
def g1 (h : D → Hp8 → Option D) : List D → EF := fun ds => rd fun hp => match ds with
  | [d] => h d hp
  | _ => none
def g2 (h : D → D → Hp8 → Option D) : List D → EF := fun ds => rd fun hp => match ds with
  | [d, e] => h d e hp
  | _ => none
theorem reps1 {K : KW} {ρ : List Addr} {F : Hp} {d : D} {vs : List V} (h : Reps K ρ F [d] vs) : ∃ v, vs = [v] ∧ Rep K ρ F d v := by
  obtain ⟨v, r, rfl, q, e⟩ := h
  rw [show r = [] from e]
  exact ⟨v, rfl, q⟩
theorem reps2 {K : KW} {ρ : List Addr} {F : Hp} {d d' : D} {vs : List V} (h : Reps K ρ F [d, d'] vs) : ∃ v w, vs = [v, w] ∧ Rep K ρ F d v ∧ Rep K ρ F d' w := by
  obtain ⟨v, r, rfl, q, h⟩ := h
  obtain ⟨w, rfl, q'⟩ := reps1 h
  exact ⟨v, w, rfl, q, q'⟩
theorem ok_g1 {h : D → Hp8 → Option D} {r : List V → Hp → VK → Prop}
    (k : ∀ (d : D) (v : V) (ρ : List Addr) (F H : Hp) (hp : Hp8) (o : D) (Q : VK), Sim X.KW ρ F H hp → Rep X.KW ρ F d v → h d hp = some o → (∀ ρ' F' H', Ext ρ ρ' F H F' H' → Sim X.KW ρ' F' H' hp → ∀ v, Rep X.KW ρ' F' o v → Q v H') → r [v] H Q) : OkCall X E (g1 h) r := fun ds vs σ H Q q => by
  obtain ⟨ρ, F, hp, d, rv, hs, e, fin⟩ := EK.read q
  split at e
  · obtain ⟨v, rfl, rr⟩ := reps1 rv
    exact k _ v ρ F H hp d Q hs rr e fin
  · cases e
theorem ok_g2 {h : D → D → Hp8 → Option D} {r : List V → Hp → VK → Prop}
    (k : ∀ (d d' : D) (v w : V) (ρ : List Addr) (F H : Hp) (hp : Hp8) (o : D) (Q : VK), Sim X.KW ρ F H hp → Rep X.KW ρ F d v → Rep X.KW ρ F d' w → h d d' hp = some o → (∀ ρ' F' H', Ext ρ ρ' F H F' H' → Sim X.KW ρ' F' H' hp → ∀ v, Rep X.KW ρ' F' o v → Q v H') → r [v, w] H Q) : OkCall X E (g2 h) r := fun ds vs σ H Q q => by
  obtain ⟨ρ, F, hp, d, rv, hs, e, fin⟩ := EK.read q
  split at e
  · obtain ⟨v, w, rfl, rr, rr'⟩ := reps2 rv
    exact k _ _ v w ρ F H hp d Q hs rr rr' e fin
  · cases e
def lenD (x : D) (hp : Hp8) : Option D := match x with
  | .str z => if z.length ≤ sizeLine then some (.int z.length) else none
  | x => (seqOf hp x).map fun ds => .int ds.length
def sLen : AF → EF := sCall (g1 lenD)
theorem ok_len : OkCall X E (g1 lenD) (fun xs H Q => (∃ p ys, xs = [.ref p] ∧ (SqL X.K H p ys ∨ SqT X.K H p ys) ∧ Q (.int ys.length) H) ∨ (∃ z, xs = [.str z] ∧ z.length ≤ sizeLine ∧ Q (.int z.length) H)) := ok_g1 fun d v ρ F H hp o Q hs r e fin => by
  unfold lenD at e
  split at e
  · split at e
    · rename_i z hl
      cases e
      exact .inr ⟨z, by rw [show v = _ from r], hl, fin ρ F H (Ext.refl _ _ _) hs _ rfl⟩
    · cases e
  · cases q : seqOf hp d with
    | none => rw [q] at e; cases e
    | some ds =>
      rw [q] at e
      cases e
      obtain ⟨p, ws, rfl, hq, rr⟩ := seqOf_at hs r q
      refine .inl ⟨p, ws, rfl, hq, ?_⟩
      rw [← rr.len]
      exact fin ρ F H (Ext.refl _ _ _) hs _ rfl
theorem de_len {p : Pos} (hg : Gl X "len") (hm : X.mg "len" = none) (ha : DA X E [a] fA) (he : starEach [a] X.env = (false, eval a X.env) :: starEach [] X.env := by rfl) : DE X E (.Call (.Name "len" p) [a] [] pos) (sLen fA) :=
  de_callB (call_len_seq.or call_len_str) ok_len hg hm PySem.boot_len ha (he := he)
def maxD (x y : D) (_ : Hp8) : Option D := match x, y with
  | .int i, .int j => some (.int (if j > i then j else i))
  | _, _ => none
def minD (x y : D) (_ : Hp8) : Option D := match x, y with
  | .int i, .int j => some (.int (if j < i then j else i))
  | _, _ => none
def sMax2 : AF → EF := sCall (g2 maxD)
def sMin2 : AF → EF := sCall (g2 minD)
theorem ok_max2 : OkCall X E (g2 maxD) (fun xs H Q => ∃ i j, xs = [.int i, .int j] ∧ Q (.int (if j > i then j else i)) H) := ok_g2 fun d d' v w ρ F H hp o Q hs r r' e fin => by
  unfold maxD at e
  split at e
  · cases e
    exact ⟨_, _, by rw [show v = _ from r, show w = _ from r'], fin ρ F H (Ext.refl _ _ _) hs _ rfl⟩
  · cases e
theorem ok_min2 : OkCall X E (g2 minD) (fun xs H Q => ∃ i j, xs = [.int i, .int j] ∧ Q (.int (if j < i then j else i)) H) := ok_g2 fun d d' v w ρ F H hp o Q hs r r' e fin => by
  unfold minD at e
  split at e
  · cases e
    exact ⟨_, _, by rw [show v = _ from r, show w = _ from r'], fin ρ F H (Ext.refl _ _ _) hs _ rfl⟩
  · cases e
theorem boot_max' : bootBuiltins "max" = some (.builtin "max") := by decide +kernel
theorem boot_min' : bootBuiltins "min" = some (.builtin "min") := by decide +kernel
theorem boot_list' : bootBuiltins "list" = some (.type "list") := by decide +kernel
theorem boot_tuple' : bootBuiltins "tuple" = some (.type "tuple") := by decide +kernel
theorem boot_all' : bootBuiltins "all" = some (.builtin "all") := by decide +kernel
theorem boot_any' : bootBuiltins "any" = some (.builtin "any") := by decide +kernel
theorem boot_isinstance' : bootBuiltins "isinstance" = some (.builtin "isinstance") := by decide +kernel
theorem de_max2 {p : Pos} (hc : X.calm = true) (hg : Gl X "max") (hm : X.mg "max" = none) (ha : DA X E [a, b] fA) (he : starEach [a, b] X.env = (false, eval a X.env) :: starEach [b] X.env := by rfl) (hpl : (backTo pos (starEach [b] X.env)).any (·.1) = false := by rfl) : DE X E (.Call (.Name "max" p) [a, b] [] pos) (sMax2 fA) :=
  de_callB (call_max2 hc) ok_max2 hg hm boot_max' ha (he := he) (hpl := hpl)
theorem de_min2 {p : Pos} (hc : X.calm = true) (hg : Gl X "min") (hm : X.mg "min" = none) (ha : DA X E [a, b] fA) (he : starEach [a, b] X.env = (false, eval a X.env) :: starEach [b] X.env := by rfl) (hpl : (backTo pos (starEach [b] X.env)).any (·.1) = false := by rfl) : DE X E (.Call (.Name "min" p) [a, b] [] pos) (sMin2 fA) :=
  de_callB (call_min2 hc) ok_min2 hg hm boot_min' ha (he := he) (hpl := hpl)
/-- list(x): a new list, frozen; a cell -/
def listD (x : D) (hp : Hp8) : Option D := (seqOf hp x).map .lst
def sList : AF → EF := sCall (g1 listD)
theorem ok_list : OkCall X E (g1 listD) (fun xs H Q => ∃ p ys, xs = [.ref p] ∧ (SqL X.K H p ys ∨ SqT X.K H p ys) ∧ ∀ l, H l = none → Q (.ref l) (upd H l (.lst ys))) := ok_g1 fun d v ρ F H hp o Q hs r e fin => by
  unfold listD at e
  cases q : seqOf hp d with
  | none => rw [q] at e; cases e
  | some ds =>
    rw [q] at e
    cases e
    obtain ⟨p, ws, rfl, hq, rr⟩ := seqOf_at hs r q
    refine ⟨p, ws, rfl, hq, fun l hn => ?_⟩
    obtain ⟨s', x', r'⟩ := new_lst hs rr hn
    exact fin _ _ _ x' s' _ r'
theorem de_list {p : Pos} (hg : Gl X "list") (hm : X.mg "list" = none) (ha : DA X E [a] fA) (he : starEach [a] X.env = (false, eval a X.env) :: starEach [] X.env := by rfl) : DE X E (.Call (.Name "list" p) [a] [] pos) (sList fA) :=
  de_callT call_list_of ok_list hg hm boot_list' ha (he := he)
def tupleD (x : D) (hp : Hp8) : Option D := (seqOf hp x).map .tup
def sTuple : AF → EF := sCall (g1 tupleD)
theorem ok_tuple : OkCall X E (g1 tupleD) (fun xs H Q => ∃ p ys, xs = [.ref p] ∧ ((SqL X.K H p ys ∧ ∀ (l : Addr) (o : Obj), H l = none → o.dict = none → Q (.ref l) (upd H l (.frz o (.tup ys)))) ∨ (SqT X.K H p ys ∧ Q (.ref p) H))) := ok_g1 fun d v ρ F H hp o Q hs r e fin => by
  unfold tupleD at e
  cases q : seqOf hp d with
  | none => rw [q] at e; cases e
  | some ds =>
    rw [q] at e
    cases e
    cases d with
    | tup es =>
      cases q
      obtain ⟨p, ws, rfl, hq, rr⟩ := tup_at hs r
      exact ⟨p, ws, rfl, .inr ⟨hq, fin ρ F H (Ext.refl _ _ _) hs _ r⟩⟩
    | _ =>
      obtain ⟨p, ws, rfl, hq, rr⟩ := listOf_at hs r (show listOf hp _ = some ds from q)
      refine ⟨p, ws, rfl, .inl ⟨hq, fun l o hn ho => ?_⟩⟩
      obtain ⟨s', x', r'⟩ := new_tupP hs rr hn ho
      exact fin _ _ _ x' s' _ r'
theorem de_tuple {p : Pos} (hg : Gl X "tuple") (hm : X.mg "tuple" = none) (ha : DA X E [a] fA) (he : starEach [a] X.env = (false, eval a X.env) :: starEach [] X.env := by rfl) : DE X E (.Call (.Name "tuple" p) [a] [] pos) (sTuple fA) :=
  de_callT call_tupleP ok_tuple hg hm boot_tuple' ha (he := he)
/-- all, any of a list of bools -/
def bools : List D → Option (List Bool)
  | [] => some []
  | .bl b :: ds => (bools ds).map (b :: ·)
  | _ :: _ => none
theorem bools_rep {K : KW} {ρ : List Addr} {F : Hp} : ∀ {ds : List D} {ws : List V} {bs : List Bool}, Reps K ρ F ds ws → bools ds = some bs → ws = bs.map V.bl
  | [], _, _, r, e => by cases e; exact r
  | .bl b :: ds, _, bs, r, e => by
    obtain ⟨v, w, rfl, r1, r2⟩ := r
    cases q : bools ds with
    | none => simp [bools, q] at e
    | some cs =>
      simp [bools, q] at e
      subst e
      rw [show v = _ from r1, bools_rep r2 q]
      rfl
  | .non :: _, _, _, _, e => by cases e
  | .int _ :: _, _, _, _, e => by cases e
  | .str _ :: _, _, _, _, e => by cases e
  | .tup _ :: _, _, _, _, e => by cases e
  | .lst _ :: _, _, _, _, e => by cases e
  | .scr _ :: _, _, _, _, e => by cases e
  | .ref _ :: _, _, _, _, e => by cases e
def allD (x : D) (hp : Hp8) : Option D := match listOf hp x with
  | some ds => (bools ds).map fun bs => .bl (bs.all id)
  | none => none
def anyD (x : D) (hp : Hp8) : Option D := match listOf hp x with
  | some ds => (bools ds).map fun bs => .bl (bs.any id)
  | none => none
def sAll : AF → EF := sCall (g1 allD)
def sAny : AF → EF := sCall (g1 anyD)
theorem ok_all : OkCall X E (g1 allD) (rAll X.K) := ok_g1 fun d v ρ F H hp o Q hs r e fin => by
  unfold allD at e
  split at e
  · rename_i ds hd
    cases q : bools ds with
    | none => rw [q] at e; cases e
    | some bs =>
      rw [q] at e
      cases e
      obtain ⟨p, ws, rfl, hq, rr⟩ := listOf_at hs r hd
      rw [bools_rep rr q] at hq
      exact ⟨p, bs, rfl, hq, fin ρ F H (Ext.refl _ _ _) hs _ rfl⟩
  · cases e
theorem ok_any : OkCall X E (g1 anyD) (rAny X.K) := ok_g1 fun d v ρ F H hp o Q hs r e fin => by
  unfold anyD at e
  split at e
  · rename_i ds hd
    cases q : bools ds with
    | none => rw [q] at e; cases e
    | some bs =>
      rw [q] at e
      cases e
      obtain ⟨p, ws, rfl, hq, rr⟩ := listOf_at hs r hd
      rw [bools_rep rr q] at hq
      exact ⟨p, bs, rfl, hq, fin ρ F H (Ext.refl _ _ _) hs _ rfl⟩
  · cases e
theorem de_all {p : Pos} (hc : X.calm = true) (hg : Gl X "all") (hm : X.mg "all" = none) (ha : DA X E [a] fA) (he : starEach [a] X.env = (false, eval a X.env) :: starEach [] X.env := by rfl) : DE X E (.Call (.Name "all" p) [a] [] pos) (sAll fA) :=
  de_callB (cr_all hc) ok_all hg hm boot_all' ha (he := he)
theorem de_any {p : Pos} (hc : X.calm = true) (hg : Gl X "any") (hm : X.mg "any" = none) (ha : DA X E [a] fA) (he : starEach [a] X.env = (false, eval a X.env) :: starEach [] X.env := by rfl) : DE X E (.Call (.Name "any" p) [a] [] pos) (sAny fA) :=
  de_callB (cr_any hc) ok_any hg hm boot_any' ha (he := he)
/-! ### isinstance(x, T), T a built-in class -/
def tyD (hp : Hp8) : D → Option String
  | .non => some "NoneType"
  | .bl _ => some "bool"
  | .int _ => some "int"
  | .str _ => some "str"
  | .tup _ => some "tuple"
  | .lst _ => some "list"
  | .ref n => match hp[n]? with
    | some (.lst _) => some "list"
    | some (.dic _) => some "dict"
    | _ => none
  | .scr _ => none
  | .dn _ _ => none
theorem ty_of {K : KW} {ρ : List Addr} {F H : Hp} {hp : Hp8} {d : D} {v : V} {T : String} (hs : Sim K ρ F H hp) (r : Rep K ρ F d v) (e : tyD hp d = some T) : TyX K.1 H v (.type T) := by
  cases d with
  | non => cases e; rw [show v = _ from r]; exact .base .non
  | bl b => cases e; rw [show v = _ from r]; exact .base (.bl b)
  | int b => cases e; rw [show v = _ from r]; exact .base (.int b)
  | str b => cases e; rw [show v = _ from r]; exact .base (.str b)
  | tup ds =>
    cases e
    obtain ⟨a, ws, rfl, hq, _⟩ := tup_at hs r
    rcases hq with (hq | ⟨o, hq⟩) | ⟨o, its, n, h1, h2, _⟩
    · exact .base (.tup hq)
    · exact .fTuple hq
    · exact .kTuple h1 h2
  | lst ds =>
    cases e
    obtain ⟨a, ws, rfl, hq, _⟩ := lstM_at (xs := ds) hs r rfl
    exact .base (.lst hq)
  | ref n =>
    obtain ⟨a, rfl, q⟩ := r
    simp only [tyD] at e
    split at e
    · rename_i ds hc
      cases e
      obtain ⟨ws, q1, _⟩ := hs.cell n _ a hc q
      exact .base (.lst q1)
    · rename_i ds hc
      cases e
      obtain ⟨ws, q1, _⟩ := hs.cell n _ a hc q
      exact .base (.dK q1)
    · cases e
  | scr ns => cases e
  | dn _ _ => cases e
def sIsi (T : String) (fa : EF) : EF := bnd fa fun x => rd fun hp => match tyD hp x with
  | some t => (kitB t T).map .bl
  | none => none
theorem de_isi {T : Str} {S : String} {p p' : Pos} (hg : Gl X "isinstance") (hm : X.mg "isinstance" = none) (hgT : Gl X T) (hmT : X.mg T = none) (hvT : bootBuiltins T = some (.type S)) (ha : DE X E a fa)
    (hnT : T ≠ "__name__" := by decide) (hdT : (T == ("__debug__" : Str)) = false := by decide)
    (he : starEach [a, .Name T p'] X.env = (false, eval a X.env) :: starEach [.Name T p'] X.env := by rfl) (he2 : starEach [.Name T p'] X.env = (false, eval (.Name T p') X.env) :: starEach [] X.env := by rfl) (hpl : (backTo pos (starEach [.Name T p'] X.env)).any (·.1) = false := by rfl) :
    DE X E (.Call (.Name "isinstance" p) [a, .Name T p'] [] pos) (sIsi S fa) :=
  pe_imp (pe_callB (t := tCons (EQ X.KW X.mg E fa) (tCons (tC (.ty S)) tNil)) call_isi hg hm boot_isinstance' (pa_cons ha (pa_cons (pe_bltn hgT hmT hvT rfl hnT hdT) pa_nil he2) he) (he := he) (hpl := hpl)) fun σ H Q q => (EK.step q).imp fun v H1 ⟨d, q1⟩ => by
    obtain ⟨ρ, F, hp, o, rv, hs, e, fin⟩ := EK.read q1
    split at e
    · rename_i t ht
      cases q : kitB t S with
      | none => rw [q] at e; cases e
      | some b =>
        rw [q] at e
        cases e
        exact ⟨v, .ty S, .type t, .type S, b, rfl, .ty S, ty_of hs (rep1 rv) ht, kit_ty q, fin ρ F H1 (Ext.refl _ _ _) hs _ rfl⟩
    · cases e
end
end HI

namespace HI
open PySem L2

/-! ### statements -/
inductive Fl where
  | nx | rt (d : D) | bk | ct | ex (c : Str)
abbrev SF := Env8 → Hp8 → Option (Fl × Env8 × Hp8)
def Fin8 (K : KW) (mg : Str → Option Value) (E : XK) (De : Ends) (ρ : List Addr) (F H : Hp) (env : Env8) : Fl → Prop
  | .nx => ∀ σ', EnvR K ρ F env σ' → De.nx σ' H
  | .rt d => ∀ v, Rep K ρ F d v → De.rt v H
  | .bk => ∀ σ', EnvR K ρ F env σ' → De.bk σ' H
  | .ct => ∀ σ', EnvR K ρ F env σ' → De.ct σ' H
  | .ex c => ∀ C, mg c = some (.ref C) → E (.ref C) none H
/-- from here on f, with the data ds at hand -/
def SKd (K : KW) (mg : Str → Option Value) (E : XK) (ds : List D) (vs : List V) (f : SF) (De : Ends) (σ : St) (H : Hp) : Prop :=
  ∃ (ρ : List Addr) (F : Hp) (env : Env8) (hp : Hp8) (fl : Fl) (env' : Env8) (hp' : Hp8), Reps K ρ F ds vs ∧ EnvR K ρ F env σ ∧ Sim K ρ F H hp ∧ f env hp = some (fl, env', hp') ∧
    ∀ ρ' F' H', Ext ρ ρ' F H F' H' → Sim K ρ' F' H' hp' → Fin8 K mg E De ρ' F' H' env' fl
def SK (K : KW) (mg : Str → Option Value) (E : XK) (f : SF) : TS := fun De σ H => SKd K mg E [] [] f De σ H
def DS (X : Cx) (E : XK) (st : Stmt) (f : SF) : Prop := PS X st (SK X.KW X.mg E f)
def DSs (X : Cx) (E : XK) (st : List Stmt) (f : SF) : Prop := PSs X st (SK X.KW X.mg E f)
theorem ps_imp {X : Cx} {st : Stmt} {t t' : TS} (h : PS X st t) (i : ∀ De σ H, t' De σ H → t De σ H) : PS X st t' := ⟨fun pins s σ H De I q => h.run pins s σ H De I (i _ _ _ q)⟩
theorem pss_imp {X : Cx} {st : List Stmt} {t t' : TS} (h : PSs X st t) (i : ∀ De σ H, t' De σ H → t De σ H) : PSs X st t' := ⟨fun pins s σ H De I q => h.run pins s σ H De I (i _ _ _ q)⟩
def sSkip : SF := fun env hp => some (.nx, env, hp)
def sSeq (f g : SF) : SF := fun env hp => match f env hp with
  | some (.nx, env1, hp1) => g env1 hp1
  | r => r
/-- an expression first -/
def sE {α : Type} (fe : GF α) (k : α → SF) : SF := fun env hp => match fe env hp with
  | some (.ok d, hp1) => k d env hp1
  | some (.exc c, hp1) => some (.ex c, env, hp1)
  | none => none
section
variable {K : KW} {mg : Str → Option Value} {E : XK} {De : Ends} {σ : St} {H : Hp} {ds : List D} {vs : List V}
theorem SKd.step {fe : EF} {k : D → SF} (h : SKd K mg E ds vs (sE fe k) De σ H) : EQ K mg E fe σ H fun v H1 => ∃ d, SKd K mg E (d :: ds) (v :: vs) (k d) De σ H1 := by
  obtain ⟨ρ, F, env, hp, fl, env', hp', rd, he, hs, e, fin⟩ := h
  unfold sE at e
  cases q : fe env hp with
  | none => rw [q] at e; cases e
  | some p =>
    obtain ⟨r1, hp1⟩ := p
    rw [q] at e
    cases r1 with
    | ok d =>
      exact ⟨ρ, F, env, hp, .ok d, hp1, rfl, he, hs, q, fun ρ1 F1 H1 x1 s1 v rv => ⟨d, ρ1, F1, env, hp1, fl, env', hp', ⟨v, vs, rfl, rv, Reps.mono x1.same x1.pre _ _ rd⟩, he.mono x1.same x1.pre, s1, e, fun ρ2 F2 H2 x2 s2 => fin ρ2 F2 H2 (x1.trans s1 x2) s2⟩⟩
    | exc c =>
      cases e
      exact ⟨ρ, F, env, hp, .exc c, _, rfl, he, hs, q, fun ρ1 F1 H1 x1 s1 => fin ρ1 F1 H1 x1 s1⟩
theorem SKd.stepS {α : Type} {fe : GF α} {k : α → SF} (h : SKd K mg E ds vs (sE fe k) De σ H) : SQ K mg E fe σ H fun b H1 => SKd K mg E ds vs (k b) De σ H1 := by
  obtain ⟨ρ, F, env, hp, fl, env', hp', rd, he, hs, e, fin⟩ := h
  unfold sE at e
  cases q : fe env hp with
  | none => rw [q] at e; cases e
  | some p =>
    obtain ⟨r1, hp1⟩ := p
    rw [q] at e
    cases r1 with
    | ok d =>
      exact ⟨ρ, F, env, hp, .ok d, hp1, rfl, he, hs, q, fun ρ1 F1 H1 x1 s1 => ⟨ρ1, F1, env, hp1, fl, env', hp', Reps.mono x1.same x1.pre _ _ rd, he.mono x1.same x1.pre, s1, e, fun ρ2 F2 H2 x2 s2 => fin ρ2 F2 H2 (x1.trans s1 x2) s2⟩⟩
    | exc c =>
      cases e
      exact ⟨ρ, F, env, hp, .exc c, _, rfl, he, hs, q, fun ρ1 F1 H1 x1 s1 => fin ρ1 F1 H1 x1 s1⟩
theorem SKd.skip (h : SKd K mg E ds vs sSkip De σ H) : De.nx σ H := by
  obtain ⟨ρ, F, env, hp, fl, env', hp', rd, he, hs, e, fin⟩ := h
  cases e
  exact fin ρ F H (Ext.refl _ _ _) hs σ he
theorem SKd.drop {d : D} {v : V} {f : SF} (h : SKd K mg E (d :: ds) (v :: vs) f De σ H) : SKd K mg E ds vs f De σ H := by
  obtain ⟨ρ, F, env, hp, fl, env', hp', rd, he, hs, e, fin⟩ := h
  obtain ⟨w, t, ev, _, rr⟩ := rd
  cases ev
  exact ⟨ρ, F, env, hp, fl, env', hp', rr, he, hs, e, fin⟩
theorem SK.seq {f g : SF} (h : SK K mg E (sSeq f g) De σ H) : SK K mg E f { De with nx := SK K mg E g De } σ H := by
  obtain ⟨ρ, F, env, hp, fl, env', hp', rd, he, hs, e, fin⟩ := h
  unfold sSeq at e
  cases q : f env hp with
  | none => rw [q] at e; cases e
  | some p =>
    obtain ⟨fl1, env1, hp1⟩ := p
    rw [q] at e
    refine ⟨ρ, F, env, hp, fl1, env1, hp1, rfl, he, hs, q, fun ρ1 F1 H1 x1 s1 => ?_⟩
    cases fl1 with
    | nx => exact fun σ' he' => ⟨ρ1, F1, env1, hp1, fl, env', hp', rfl, he', s1, e, fun ρ2 F2 H2 x2 s2 => fin ρ2 F2 H2 (x1.trans s1 x2) s2⟩
    | rt d => cases e; exact fin ρ1 F1 H1 x1 s1
    | bk => cases e; exact fin ρ1 F1 H1 x1 s1
    | ct => cases e; exact fin ρ1 F1 H1 x1 s1
    | ex c => cases e; exact fin ρ1 F1 H1 x1 s1
end
section
variable {X : Cx} {E : XK} {a b c e : Expr} {es : List Expr} {fa fb fc fe : EF} {fA fr : AF} {ft : TF} {pos : Pos} {st : Stmt} {rest body orelse : List Stmt} {f g : SF}
theorem dss_nil : DSs X E [] sSkip := pss_imp pss_nil fun De σ H h => SKd.skip h
theorem dss_cons (h1 : DS X E st f) (h2 : DSs X E rest g) : DSs X E (st :: rest) (sSeq f g) :=
  pss_imp (pss_cons (t := SK X.KW X.mg E f) (u := SK X.KW X.mg E g) h1 h2) fun De σ H h => SK.seq h
theorem dss_one (h1 : DS X E st f) : DSs X E [st] f := pss_one h1
def sExpr (fe : EF) : SF := sE fe fun _ => sSkip
theorem ds_expr (he : DE X E e fe) (hs : swapsWith e none pos.line X.env = pure false := by rfl) : DS X E (.Expr e pos) (sExpr fe) :=
  ps_imp (ps_expr (te := EQ X.KW X.mg E fe) he hs) fun De σ H h => (SKd.step h).imp fun v H1 ⟨d, q⟩ => SKd.skip q
def sRet (fe : EF) : SF := sE fe fun d env hp => some (.rt d, env, hp)
theorem ds_ret (he : DE X E e fe) : DS X E (.Return (some e) pos) (sRet fe) :=
  ps_imp (ps_ret (te := EQ X.KW X.mg E fe) he) fun De σ H h => (SKd.step h).imp fun v H1 ⟨d, q⟩ => by
    obtain ⟨ρ, F, env, hp, fl, env', hp', rd, he, hs, e, fin⟩ := q
    cases e
    exact fin ρ F H1 (Ext.refl _ _ _) hs v (rep1 rd)
def sIfS (ft : TF) (f g : SF) : SF := sE ft fun b => if b then f else g
theorem ds_if (hc : DT X E c ft) (ha : DSs X E body f) (hb : DSs X E orelse g) : DS X E (.If c body orelse pos) (sIfS ft f g) :=
  ps_imp (ps_if (tc := TQ X.KW X.mg E ft) (t := SK X.KW X.mg E f) (u := SK X.KW X.mg E g) hc ha hb) fun De σ H h => (SKd.stepS h).imp fun b H1 q => by
    cases b with
    | true => exact q
    | false => exact q
theorem ds_pass : DS X E (.Pass pos) sSkip := ps_imp ps_pass fun De σ H h => SKd.skip h
/-! ### targets -/
abbrev G8 := D → Env8 → Hp8 → Option (Env8 × Hp8)
abbrev Gs8 := List D → Env8 → Hp8 → Option (Env8 × Hp8)
def GQd (K : KW) (ds : List D) (vs : List V) (f : Env8 → Hp8 → Option (Env8 × Hp8)) (σ : St) (H : Hp) (Q : St → Hp → Prop) : Prop :=
  ∃ (ρ : List Addr) (F : Hp) (env : Env8) (hp : Hp8) (env' : Env8) (hp' : Hp8), Reps K ρ F ds vs ∧ EnvR K ρ F env σ ∧ Sim K ρ F H hp ∧ f env hp = some (env', hp') ∧
    ∀ ρ' F' H', Ext ρ ρ' F H F' H' → Sim K ρ' F' H' hp' → ∀ σ', EnvR K ρ' F' env' σ' → Q σ' H'
def GQ (K : KW) (g : G8) : TG := fun v σ H Q => ∃ d, GQd K [d] [v] (g d) σ H Q
def GsQ (K : KW) (g : Gs8) : TGs := fun vs σ H Q => ∃ ds, GQd K ds vs (g ds) σ H Q
def DG (X : Cx) (tg : Expr) (g : G8) : Prop := PG X tg (GQ X.KW g)
def DGs (X : Cx) (tgs : List Expr) (g : Gs8) : Prop := PGs X tgs (GsQ X.KW g)
theorem pg_imp {tg : Expr} {t t' : TG} (h : PG X tg t) (i : ∀ v σ H Q, t' v σ H Q → t v σ H Q) : PG X tg t' := ⟨fun pins s σ H v u Q I r q => h.run pins s σ H v u Q I r (i _ _ _ _ q)⟩
theorem pgs_imp {tg : List Expr} {t t' : TGs} (h : PGs X tg t) (i : ∀ v σ H Q, t' v σ H Q → t v σ H Q) : PGs X tg t' := ⟨fun pins s σ H v u Q I r q => h.run pins s σ H v u Q I r (i _ _ _ _ q)⟩
def gNm (i : Nat) : G8 := fun d env hp => some (env.set i (some d), hp)
theorem dg_name {i : Nat} {x : Str} (hN : X.N.Nodup) (hi : X.N[i]? = some x) (hx : Loc X.env.scope x) (hf : X.fn x = true ∨ X.env.scope.names.lookup x = some .local := by first | exact .inl rfl | exact .inr rfl | assumption) : DG X (.Name x pos) (gNm i) :=
  pg_imp (pg_name hN hi hx hf) fun v σ H Q ⟨d, ρ, F, env, hp, env', hp', rd, he, hs, e, fin⟩ => by
    cases e
    exact fin ρ F H (Ext.refl _ _ _) hs _ (he.set (rep1 rd) i)
def gsNil : Gs8 := fun ds env hp => match ds with
  | [] => some (env, hp)
  | _ => none
def gsCons (g : G8) (r : Gs8) : Gs8 := fun ds env hp => match ds with
  | d :: ds => match g d env hp with
    | some (env1, hp1) => r ds env1 hp1
    | none => none
  | [] => none
theorem dgs_nil : DGs X [] gsNil := pgs_imp pgs_nil fun vs σ H Q ⟨ds, ρ, F, env, hp, env', hp', rd, he, hs, e, fin⟩ => by
  unfold gsNil at e
  split at e
  · cases e
    exact ⟨rd, fin ρ F H (Ext.refl _ _ _) hs _ he⟩
  · cases e
theorem dgs_cons {g : G8} {r : Gs8} (h1 : DG X e g) (h2 : DGs X es r) (hs : (assignEach (e :: es) X.env).map (·.2) = assign e X.env :: (assignEach es X.env).map (·.2) := by rfl) : DGs X (e :: es) (gsCons g r) :=
  pgs_imp (pgs_cons (t := GQ X.KW g) (u := GsQ X.KW r) h1 h2 hs) fun vs σ H Q ⟨ds, ρ, F, env, hp, env', hp', rd, he, hs, e, fin⟩ => by
    unfold gsCons at e
    split at e
    · rename_i d ds
      obtain ⟨v, w, rfl, r1, r2⟩ := rd
      cases q : g d env hp with
      | none => rw [q] at e; cases e
      | some p =>
        obtain ⟨env1, hp1⟩ := p
        rw [q] at e
        refine ⟨v, w, rfl, d, ρ, F, env, hp, env1, hp1, Reps.one r1, he, hs, q, fun ρ1 F1 H1 x1 s1 σ1 he1 => ?_⟩
        exact ⟨ds, ρ1, F1, env1, hp1, env', hp', Reps.mono x1.same x1.pre _ _ r2, he1, s1, e, fun ρ2 F2 H2 x2 s2 => fin ρ2 F2 H2 (x1.trans s1 x2) s2⟩
    · cases e
def gTp (n : Nat) (r : Gs8) : G8 := fun d env hp => match d with
  | .tup ds => if ds.length = n then r ds env hp else none
  | _ => none
theorem dg_tup {k : Nat} {n : Nat} {r : Gs8} (hc : X.calm = true) (h : DGs X es r) (hn : (assignEach es X.env).length = n := by rfl) (hst : (assignEach es X.env).findIdx? (·.1) = none := by rfl) : DG X (.Tuple es k pos) (gTp n r) :=
  pg_imp (pg_tup (t := GsQ X.KW r) hc h hn hst) fun v σ H Q ⟨d, ρ, F, env, hp, env', hp', rd, he, hs, e, fin⟩ => by
    unfold gTp at e
    split at e
    · rename_i ds
      split at e
      · rename_i hl
        obtain ⟨p, ws, rfl, hq, rr⟩ := tup_at hs (rep1 rd)
        exact ⟨p, ws, rfl, hq, by rw [← rr.len]; exact hl, ds, ρ, F, env, hp, env', hp', rr, he, hs, e, fin⟩
      · cases e
    · cases e
/-! assignments -/
def sPut (g : G8) (d : D) : SF := fun env hp => match g d env hp with
  | some (env', hp') => some (.nx, env', hp')
  | none => none
def sAsg (fe : EF) (g : G8) : SF := sE fe (sPut g)
theorem SKd.asg {K : KW} {mg : Str → Option Value} {De : Ends} {σ : St} {H : Hp} {d : D} {v : V} {ds : List D} {vs : List V} {g : G8}
    (h : SKd K mg E (d :: ds) (v :: vs) (sPut g d) De σ H) : GQ K g v σ H De.nx := by
  obtain ⟨ρ, F, env, hp, fl, env', hp', rd, he, hs, e, fin⟩ := h
  unfold sPut at e
  cases q : g d env hp with
  | none => rw [q] at e; cases e
  | some p =>
    obtain ⟨env1, hp1⟩ := p
    rw [q] at e
    cases e
    obtain ⟨w, t, ev, r1, _⟩ := rd
    cases ev
    exact ⟨d, ρ, F, env, hp, _, _, Reps.one r1, he, hs, q, fin⟩
theorem ds_asg {tg : Expr} {g : G8} (he : DE X E e fe) (hg : DG X tg g) (hs : swapsWithSole [tg] e pos.line X.env = pure false := by rfl) (hw : swappedStores [tg] e X.env = pure none := by rfl)
    (h1 : (assignEach [tg] X.env).map (·.2) = [assign tg X.env] := by rfl) : DS X E (.Assign [tg] e pos) (sAsg fe g) :=
  ps_imp (ps_asg (te := EQ X.KW X.mg E fe) (g := GQ X.KW g) he hg hs hw h1) fun De σ H h => (SKd.step h).imp fun v H1 ⟨d, q⟩ => SKd.asg q
theorem ds_set {i : Nat} {x : Str} {pos' : Pos} (hN : X.N.Nodup) (hi : X.N[i]? = some x) (hx : Loc X.env.scope x) (he : DE X E e fe) (hs : swapsWith e (some (.Name x pos')) pos.line X.env = pure false := by rfl)
    (hf : X.fn x = true ∨ X.env.scope.names.lookup x = some .local := by first | exact .inl rfl | exact .inr rfl | assumption) : DS X E (.Assign [.Name x pos'] e pos) (sAsg fe (gNm i)) :=
  ps_imp (ps_set (te := EQ X.KW X.mg E fe) hN hi hx he hs hf) fun De σ H h => (SKd.step h).imp fun v H1 ⟨d, q⟩ => by
    obtain ⟨d', ρ, F, env, hp, env', hp', rd, he, hs, e, fin⟩ := SKd.asg (g := gNm i) q
    cases e
    exact fin ρ F H1 (Ext.refl _ _ _) hs _ (he.set (rep1 rd) i)
/-- a, b = x, y with two plain local names -/
def sPar2 (i j : Nat) (fA : AF) : SF := sE fA fun ds env hp => match ds with
  | [x, y] => some (.nx, (env.set i (some x)).set j (some y), hp)
  | _ => none
theorem SKd.stepA {K : KW} {mg : Str → Option Value} {De : Ends} {σ : St} {H : Hp} {fA : AF} {k : List D → SF} (h : SK K mg E (sE fA k) De σ H) : AQ K mg E fA σ H fun ws H1 => ∃ ds, SKd K mg E ds ws (k ds) De σ H1 := by
  obtain ⟨ρ, F, env, hp, fl, env', hp', rd, he, hs, e, fin⟩ := h
  unfold sE at e
  cases q : fA env hp with
  | none => rw [q] at e; cases e
  | some p =>
    obtain ⟨r1, hp1⟩ := p
    rw [q] at e
    cases r1 with
    | ok d =>
      exact ⟨ρ, F, env, hp, .ok d, hp1, rfl, he, hs, q, fun ρ1 F1 H1 x1 s1 v rv => ⟨d, ρ1, F1, env, hp1, fl, env', hp', rv, he.mono x1.same x1.pre, s1, e, fun ρ2 F2 H2 x2 s2 => fin ρ2 F2 H2 (x1.trans s1 x2) s2⟩⟩
    | exc c =>
      cases e
      exact ⟨ρ, F, env, hp, .exc c, _, rfl, he, hs, q, fun ρ1 F1 H1 x1 s1 => fin ρ1 F1 H1 x1 s1⟩
theorem ds_par2 {i j : Nat} {x y : Str} {px py pt : Pos} {kt k2 pt2} (hc : X.calm = true) (hN : X.N.Nodup) (hi : X.N[i]? = some x) (hj : X.N[j]? = some y) (hij : i ≠ j)
    (hx : X.env.scope.names.lookup x = some .local) (hy : X.env.scope.names.lookup y = some .local) (ha : DA X E [a, b] fA)
    (hw : swappedStores [.Tuple [.Name x px, .Name y py] kt pt] (.Tuple [a, b] k2 pt2) X.env = pure (some [x, y]) := by rfl)
    (hs : swapsWithSole [.Tuple [.Name x px, .Name y py] kt pt] (.Tuple [a, b] k2 pt2) pos.line X.env = pure false := by rfl) :
    DS X E (.Assign [.Tuple [.Name x px, .Name y py] kt pt] (.Tuple [a, b] k2 pt2) pos) (sPar2 i j fA) :=
  ps_imp (ps_par (ta := AQ X.KW X.mg E fA) hc hN hi hj hij hx hy ha hw hs) fun De σ H h => (SKd.stepA h).imp fun ws H1 ⟨ds, q⟩ => by
    obtain ⟨ρ, F, env, hp, fl, env', hp', rd, he, hs, e, fin⟩ := q
    split at e
    · cases e
      obtain ⟨v, w, rfl, r1, r2⟩ := reps2 rd
      exact ⟨v, w, rfl, fin ρ F H1 (Ext.refl _ _ _) hs _ ((he.set r1 i).set r2 j)⟩
    · cases e
/-! name op= e -/
def ipD (op : Operator) (x y : D) : Option D := match op, x, y with
  | .Add, .int i, .int j => some (.int (i + j))
  | .Sub, .int i, .int j => some (.int (i - j))
  | _, _, _ => none
def sAug (i : Nat) (op : Operator) (fe : EF) : SF := fun env hp => match env[i]? with
  | some (some x) => (sE fe fun y env hp => match ipD op x y with
    | some z => some (.nx, env.set i (some z), hp)
    | none => none) env hp
  | _ => none
theorem ds_aug {i : Nat} {x : Str} {op : Operator} {pos' : Pos} {ti : TIp} (hN : X.N.Nodup) (hi : X.N[i]? = some x) (hx : Loc X.env.scope x) (he : DE X E e fe) (ho : PIp X op ti) (hr : ∀ (d d' o : D) (v w : V) (K : KW) (ρ : List Addr) (F H : Hp) (Q : VK), Rep K ρ F d v → Rep K ρ F d' w → ipD op d d' = some o → (∀ u, Rep K ρ F o u → Q u H) → ti v w H Q)
    (hf : X.fn x = true ∨ X.env.scope.names.lookup x = some .local := by first | exact .inl rfl | exact .inr rfl | assumption) : DS X E (.AugAssign (.Name x pos') op e pos) (sAug i op fe) :=
  ps_imp (ps_aug (te := EQ X.KW X.mg E fe) hN hi hx he ho hf) fun De σ H ⟨ρ, F, env, hp, fl, env', hp', rd, he, hs, e, fin⟩ => by
    unfold sAug at e
    split at e
    · rename_i d hd
      obtain ⟨v, hv, rv⟩ := he.2 i d hd
      refine ⟨v, hv, ?_⟩
      have q : SKd X.KW X.mg E [d] [v] (sE fe fun y env hp => match ipD op d y with | some z => some (.nx, env.set i (some z), hp) | none => none) De σ H := ⟨ρ, F, env, hp, fl, env', hp', Reps.one rv, he, hs, e, fin⟩
      refine (SKd.step q).imp fun w H1 ⟨y, q1⟩ => ?_
      obtain ⟨ρ, F, env, hp, fl, env', hp', rd, he, hs, e, fin⟩ := q1
      obtain ⟨r1, r2⟩ := rep2 rd
      split at e
      · rename_i z hz
        cases e
        exact hr d y z v w X.KW ρ F H1 _ r2 r1 hz fun u ru => fin ρ F H1 (Ext.refl _ _ _) hs _ (he.set ru i)
      · cases e
    · cases e
theorem ds_augAdd {i : Nat} {x : Str} {pos' : Pos} (hN : X.N.Nodup) (hi : X.N[i]? = some x) (hx : Loc X.env.scope x) (he : DE X E e fe)
    (hf : X.fn x = true ∨ X.env.scope.names.lookup x = some .local := by first | exact .inl rfl | exact .inr rfl | assumption) : DS X E (.AugAssign (.Name x pos') .Add e pos) (sAug i .Add fe) :=
  ds_aug hN hi hx he ip_add (fun d d' o v w K ρ F H Q r1 r2 e q => by
    unfold ipD at e
    split at e
    · cases e
      exact ⟨_, _, r1, r2, q _ rfl⟩
    · rename_i h; exact nomatch h
    · cases e) hf
/-! while -/
def sWhile (ft : TF) (fb : SF) : Nat → SF
  | 0 => fun _ _ => none
  | n + 1 => sE ft fun b => if b then (fun env hp => match fb env hp with
      | some (.nx, env2, hp2) => sWhile ft fb n env2 hp2
      | some (.ct, env2, hp2) => sWhile ft fb n env2 hp2
      | some (.bk, env2, hp2) => some (.nx, env2, hp2)
      | r => r) else sSkip
theorem ds_while {fb : SF} (n : Nat) (hp : PassesOwn (model X.prog X.w) X.A X.env X.xe) (hc : DT X E c ft) (hb : DSs X E body fb) : DS X E (.While c body [] pos) (sWhile ft fb n) :=
  ps_imp (ps_while (tc := TQ X.KW X.mg E ft) (tb := SK X.KW X.mg E fb) hp hc hb) fun De σ H h => by
    refine ⟨fun m σ H => SK X.KW X.mg E (sWhile ft fb m) De σ H, ⟨n, h⟩, fun m σ H w => ?_⟩
    cases m with
    | zero =>
      obtain ⟨ρ, F, env, hp, fl, env', hp', rd, he, hs, e, fin⟩ := w
      cases e
    | succ m =>
      refine (SKd.stepS w).imp fun b H1 q => ?_
      cases b with
      | false => exact SKd.skip q
      | true =>
        refine ⟨SK X.KW X.mg E (sWhile ft fb m) De, fun σ' H' w' => ⟨m, Nat.lt_succ_self m, w'⟩, ?_⟩
        obtain ⟨ρ, F, env, hp, fl, env', hp', rd, he, hs, e, fin⟩ := q
        replace e : (match fb env hp with
          | some (.nx, env2, hp2) => sWhile ft fb m env2 hp2
          | some (.ct, env2, hp2) => sWhile ft fb m env2 hp2
          | some (.bk, env2, hp2) => some (.nx, env2, hp2)
          | r => r) = some (fl, env', hp') := e
        cases q : fb env hp with
        | none => rw [q] at e; cases e
        | some p =>
          obtain ⟨fl1, env1, hp1⟩ := p
          rw [q] at e
          refine ⟨ρ, F, env, hp, fl1, env1, hp1, rfl, he, hs, q, fun ρ1 F1 H1 x1 s1 => ?_⟩
          cases fl1 with
          | nx => exact fun σ' he' => ⟨ρ1, F1, env1, hp1, fl, env', hp', rfl, he', s1, e, fun ρ2 F2 H2 x2 s2 => fin ρ2 F2 H2 (x1.trans s1 x2) s2⟩
          | ct => exact fun σ' he' => ⟨ρ1, F1, env1, hp1, fl, env', hp', rfl, he', s1, e, fun ρ2 F2 H2 x2 s2 => fin ρ2 F2 H2 (x1.trans s1 x2) s2⟩
          | bk => cases e; exact fin ρ1 F1 H1 x1 s1
          | rt d => cases e; exact fin ρ1 F1 H1 x1 s1
          | ex c => cases e; exact fin ρ1 F1 H1 x1 s1
/-! the ghost step: the list cell that slot i holds is frozen -/
def sIce (i : Nat) : SF := fun env hp => match env[i]? with
  | some (some (.ref n)) => match hp[n]? with
    | some (.lst ds) => some (.nx, env.set i (some (.lst ds)), hp.set n .dead)
    | some (.dn ks vs) => some (.nx, env.set i (some (.dn ks vs)), hp.set n .dead)
    | _ => none
  | _ => none
theorem ds_ice (i : Nat) (h : DS X E st f) : DS X E st (sSeq (sIce i) f) :=
  ps_imp h fun De σ H q => by
    obtain ⟨ρ, F, env, hp, fl, env', hp', rd, he, hs, e, fin⟩ := q
    unfold sSeq sIce at e
    cases h1 : env[i]? with
    | none => rw [h1] at e; cases e
    | some o =>
      cases o with
      | none => rw [h1] at e; cases e
      | some d =>
        cases d with
        | ref n =>
          rw [h1] at e
          simp only at e
          cases h2 : hp[n]? with
          | none => rw [h2] at e; cases e
          | some c =>
            cases c with
            | lst ds =>
              rw [h2] at e
              obtain ⟨v, hv, a, rfl, ha⟩ := he.2 i _ h1
              obtain ⟨vs, q1, q2⟩ := hs.cell n _ a h2 ha
              obtain ⟨s', x', sm⟩ := hs.ice ha h2 q1
              have he1 := he.mono sm (List.prefix_refl _)
              have rr : Rep X.KW ρ (upd F a (.lst vs)) (.lst ds) (.ref a) := ⟨a, vs, rfl, upd_same, Reps.mono sm (List.prefix_refl _) _ _ q2⟩
              have hσ : σ.set i (some (V.ref a)) = σ := by
                obtain ⟨hi, e1⟩ := List.getElem?_eq_some_iff.mp hv
                rw [← e1]
                exact List.set_getElem_self hi
              have he2 := he1.set rr i
              rw [hσ] at he2
              exact ⟨ρ, _, _, _, fl, env', hp', rfl, he2, s', e, fun ρ2 F2 H2 x2 s2 => fin ρ2 F2 H2 (x'.trans s' x2) s2⟩
            | dic kvs => rw [h2] at e; cases e
            | dead => rw [h2] at e; cases e
            | dn ks vs =>
              rw [h2] at e
              obtain ⟨v, hv, a, rfl, ha⟩ := he.2 i _ h1
              obtain ⟨kas, ws, q1, q2, q3, q4⟩ := hs.cell n _ a h2 ha
              obtain ⟨s', x', sm⟩ := hs.iceO ha h2 rfl q1
              have he1 := he.mono sm (List.prefix_refl _)
              have rr : Rep X.KW ρ (upd F a (dnO X.KW.2 a kas ws)) (.dn ks vs) (.ref a) := ⟨a, kas, ws, rfl, upd_same, q2, Reps.mono sm (List.prefix_refl _) _ _ q3, Reps.mono sm (List.prefix_refl _) _ _ q4⟩
              have hσ : σ.set i (some (V.ref a)) = σ := by
                obtain ⟨hi, e1⟩ := List.getElem?_eq_some_iff.mp hv
                rw [← e1]
                exact List.set_getElem_self hi
              have he2 := he1.set rr i
              rw [hσ] at he2
              exact ⟨ρ, _, _, _, fl, env', hp', rfl, he2, s', e, fun ρ2 F2 H2 x2 s2 => fin ρ2 F2 H2 (x'.trans s' x2) s2⟩
        | _ => rw [h1] at e; cases e
end
end HI

namespace HI
open PySem L2

/-- the walk J gives the items, while what is frozen stays -/
def WalksD (K : KW) (ρ : List Addr) (F : Hp) (J : It) (items : List D) : Prop := ∃ (G : Hp → Prop) (Y : Nat → Hp → V → Hp → Prop), Walk J items.length G Y ∧
  (∀ ρ' F' H' hp', ρ <+: ρ' → Same F F' → Sim K ρ' F' H' hp' → G H') ∧
  (∀ i H x H' ρ' F' hp', ρ <+: ρ' → Same F F' → Sim K ρ' F' H hp' → i < items.length → Y i H x H' → ∃ F'' d, items[i]? = some d ∧ Ext ρ' ρ' F' H F'' H' ∧ Sim K ρ' F'' H' hp' ∧ Rep K ρ' F'' d x)
def IQ (K : KW) (mg : Str → Option Value) (E : XK) (fi : GF (List D)) : TI := fun σ H R => EK K mg E [] [] fi σ H fun ρ' F' H' items => ∀ J, WalksD K ρ' F' J items → R J H'
def DI (X : Cx) (E : XK) (tg iter : Expr) (fi : GF (List D)) : Prop := PI X tg iter (IQ X.KW X.mg E fi)
section
variable {X : Cx} {E : XK} {tg iter a b c e : Expr} {fa fb fe : EF} {fA : AF} {pos : Pos}
theorem pi_imp {t t' : TI} (h : PI X tg iter t) (i : ∀ σ H Q, t' σ H Q → t σ H Q) : PI X tg iter t' := ⟨fun pins s σ H Q I q => h.run pins s σ H Q I (i _ _ _ q)⟩
/-! ### lists, tuples, texts -/
def iAny (K : PySem.W.Frag) (tl : TE) : TI := fun σ H R => tl σ H fun x H1 => (∃ a, x = .ref a ∧ (∃ xs, SqL K H1 a xs) ∧ R (Itl K a) H1) ∨ (∃ a, x = .ref a ∧ (∃ xs, SqT K H1 a xs) ∧ R (Itt K a) H1) ∨ (∃ z, x = .str z ∧ R (Its z) H1)
theorem pi_any {tl : TE} (hl : PE X iter tl) : PI X tg iter (iAny X.K tl) := by
  refine ⟨fun pins s σ H R I h => ?_⟩
  refine thn (hl.run pins s σ H _ I h) fun v s1 ⟨x, H1, I1, r1, q1⟩ => ?_
  rcases q1 with ⟨a, e, ⟨xs, hq⟩, q⟩ | ⟨a, e, ⟨xs, hq⟩, q⟩ | ⟨z, e, q⟩
  · subst e
    cases r1
    obtain ⟨its, rv, p, hz⟩ := I1.list hq
    refine wpAny_pyIter_list p.isList ?_
    refine ⟨s1.heap.objs.size, [s1.heap.objs.size], _, _, H1, rfl, I1.kept (t' := s1.toks) fun b o e => Heap.get?_push_of_some _ e, turn_list a _, ⟨_, Heap.get?_push_size _ rfl, rfl, rfl⟩, fun b hb => ?_, q⟩
    have e : b = s1.heap.objs.size := by simpa using hb
    subst e
    exact I1.fpOk (Nat.le_refl _) (I1.hok.fresh (Nat.le_refl _))
  · subst e
    cases r1
    obtain ⟨its, rv, p, hz⟩ := I1.tuple hq
    refine wpAny_pyIter_tuple (show s1.heap.IsTuple a its.toArray from p) ?_
    refine ⟨s1.heap.objs.size, [s1.heap.objs.size], _, _, H1, rfl, I1.kept (t' := s1.toks) fun b o e => Heap.get?_push_of_some _ e, turn_tuple a _, ⟨_, Heap.get?_push_size _ rfl, rfl, rfl⟩, fun b hb => ?_, q⟩
    have e : b = s1.heap.objs.size := by simpa using hb
    subst e
    exact I1.fpOk (Nat.le_refl _) (I1.hok.fresh (Nat.le_refl _))
  · subst e
    obtain ⟨t, rfl⟩ := r1
    cases ha : z.cps.all (· < 128)
    · exact wpAny_pyIter_wide ha (pi_one (tk := s1.toks) I1 _ (turn_str _ z t "str_iterator" (.inr rfl)) ⟨_, Heap.get?_push_size _ rfl, rfl, rfl⟩ q)
    · exact wpAny_pyIter_ascii ha (pi_one (tk := s1.toks) I1 _ (turn_str _ z t "str_ascii_iterator" (.inl rfl)) ⟨_, Heap.get?_push_size _ rfl, rfl, rfl⟩ q)
def chars (z : Str) : List D := z.cps.toList.map fun c => .str ⟨#[c]⟩
def itD : D → Option (List D)
  | .lst ds => some ds
  | .tup ds => some ds
  | .scr ns => some (ns.map .int)
  | .str z => some (chars z)
  | _ => none
def sIt (fa : EF) : GF (List D) := bnd fa fun x => rd fun _ => itD x
theorem walks_lst {K : KW} {ρ : List Addr} {F : Hp} {p : Addr} {ds : List D} {ws : List V} (hq : SqL K.1 F p ws) (rr : Reps K ρ F ds ws) : WalksD K ρ F (Itl K.1 p) ds := by
  refine ⟨fun H => SqL K.1 H p ws, YAt ws, by rw [rr.len]; exact walk_list, fun ρ' F' H' hp' _ sm s => Same.lstS s.sub (Same.lstS sm hq), fun i H x H' ρ' F' hp' pr sm s hi y => ?_⟩
  obtain ⟨rfl, hx⟩ := y
  obtain ⟨d, hd, r⟩ := rr.get' hx
  exact ⟨F', d, hd, Ext.refl _ _ _, s, Rep.mono sm pr _ _ r⟩
theorem walks_tup {K : KW} {ρ : List Addr} {F : Hp} {p : Addr} {ds : List D} {ws : List V} (hq : SqT K.1 F p ws) (rr : Reps K ρ F ds ws) : WalksD K ρ F (Itt K.1 p) ds := by
  refine ⟨fun H => SqT K.1 H p ws, YAt ws, by rw [rr.len]; exact walk_tup, fun ρ' F' H' hp' _ sm s => Same.tupS s.sub (Same.tupS sm hq), fun i H x H' ρ' F' hp' pr sm s hi y => ?_⟩
  obtain ⟨rfl, hx⟩ := y
  obtain ⟨d, hd, r⟩ := rr.get' hx
  exact ⟨F', d, hd, Ext.refl _ _ _, s, Rep.mono sm pr _ _ r⟩
theorem walks_str {K : KW} {ρ : List Addr} {F : Hp} (z : Str) : WalksD K ρ F (Its z) (chars z) := by
  refine ⟨fun _ => True, _, by rw [show (chars z).length = z.cps.size by simp [chars]]; exact walk_str, fun _ _ _ _ _ _ _ => trivial, fun i H x H' ρ' F' hp' pr sm s hi y => ?_⟩
  obtain ⟨rfl, c, hc, rfl⟩ := y
  refine ⟨F', .str ⟨#[c]⟩, ?_, Ext.refl _ _ _, s, rfl⟩
  unfold chars
  rw [List.getElem?_map, Array.getElem?_toList, hc]
  rfl
theorem di_any (ha : DE X E iter fa) : DI X E tg iter (sIt fa) :=
  pi_imp (pi_any (tl := EQ X.KW X.mg E fa) ha) fun σ H R q => (EK.step q).imp fun v H1 ⟨d, q1⟩ => by
    obtain ⟨ρ, F, hp, items, rv, hs, e, fin⟩ := EK.read q1
    have r := rep1 rv
    have fin := fin ρ F H1 (Ext.refl _ _ _) hs
    cases d with
    | lst ds =>
      cases e
      obtain ⟨p, ws, rfl, hq, rr⟩ := r
      exact .inl ⟨p, rfl, ⟨ws, SqL.of (hs.sub _ _ hq)⟩, fin _ (walks_lst (SqL.of hq) rr)⟩
    | tup ds =>
      cases e
      obtain ⟨p, ws, rfl, hq, rr⟩ := r
      exact .inr (.inl ⟨p, rfl, ⟨ws, Same.tupS hs.sub hq⟩, fin _ (walks_tup hq rr.1)⟩)
    | scr ns =>
      cases e
      obtain ⟨p, rfl, hq⟩ := r
      exact .inl ⟨p, rfl, ⟨_, Same.lstS hs.sub hq⟩, fin _ (walks_lst hq (Reps.ints ns))⟩
    | str z =>
      cases e
      exact .inr (.inr ⟨z, r, fin _ (walks_str z)⟩)
    | _ => cases e
/-! ### ranges -/
def rngD (lo : Int) (n : Nat) : List D := (List.range n).map fun (i : Nat) => D.int (lo + i)
theorem walks_rng {K : KW} {ρ : List Addr} {F : Hp} (lo : Int) (n : Nat) : WalksD K ρ F (Itr lo n) (rngD lo n) := by
  refine ⟨fun _ => True, _, by rw [show (rngD lo n).length = n by simp [rngD]]; exact walk_range, fun _ _ _ _ _ _ _ => trivial, fun i H x H' ρ' F' hp' pr sm s hi y => ?_⟩
  obtain ⟨rfl, rfl⟩ := y
  refine ⟨F', .int (lo + i), ?_, Ext.refl _ _ _, s, rfl⟩
  have : i < n := by simpa [rngD] using hi
  simp [rngD, this]
def okRng (j : Int) : Bool := decide (j.natAbs < 4611686018427387904)
theorem okRng_b {j : Int} (h : okRng j = true) : -(2 ^ 62) ≤ j ∧ j < 2 ^ 62 := by
  unfold okRng at h
  have := of_decide_eq_true h
  omega
def sRng1 (fA : AF) : GF (List D) := bnd fA fun ds => rd fun _ => match ds with
  | [.int j] => if okRng j then some (rngD 0 j.toNat) else none
  | _ => none
def sRng2 (fA : AF) : GF (List D) := bnd fA fun ds => rd fun _ => match ds with
  | [.int i, .int j] => if okRng i && okRng j then some (rngD i (j - i).toNat) else none
  | _ => none
theorem di_rng1 {p : Pos} (hg : Gl X "range") (hm : X.mg "range" = none) (ha : DA X E [a] fA) (hs : starEach [a] X.env = [(false, eval a X.env)] := by rfl) : DI X E tg (.Call (.Name "range" p) [a] [] pos) (sRng1 fA) :=
  pi_imp (pi_range1 (ta := AQ X.KW X.mg E fA) hg hm ha hs) fun σ H R q => (EK.stepA q).imp fun ws H1 ⟨ds, hl, q1⟩ => by
    obtain ⟨ρ, F, hp, items, rv, hs, e, fin⟩ := EK.read (nil_app q1)
    split at e
    · rename_i j
      split at e
      · rename_i hj
        cases e
        obtain ⟨v, rfl, r⟩ := reps1 rv
        have hj := okRng_b hj
        exact ⟨j, by rw [show v = _ from r], hj.1, hj.2, fin ρ F H1 (Ext.refl _ _ _) hs _ (walks_rng 0 _)⟩
      · cases e
    · cases e
theorem di_rng2 {p : Pos} (hg : Gl X "range") (hm : X.mg "range" = none) (ha : DA X E [a, b] fA) (hs : starEach [a, b] X.env = [(false, eval a X.env), (false, eval b X.env)] := by rfl) (hs2 : starEach [b] X.env = [(false, eval b X.env)] := by rfl) : DI X E tg (.Call (.Name "range" p) [a, b] [] pos) (sRng2 fA) :=
  pi_imp (pi_range2 (ta := AQ X.KW X.mg E fA) hg hm ha hs hs2) fun σ H R q => (EK.stepA q).imp fun ws H1 ⟨ds, hl, q1⟩ => by
    obtain ⟨ρ, F, hp, items, rv, hs, e, fin⟩ := EK.read (nil_app q1)
    split at e
    · rename_i i j
      split at e
      · rename_i hj
        cases e
        obtain ⟨v, w, rfl, r, r'⟩ := reps2 rv
        simp only [Bool.and_eq_true] at hj
        have hi := okRng_b hj.1
        have hj := okRng_b hj.2
        exact ⟨i, j, by rw [show v = _ from r, show w = _ from r'], ⟨hi.1, hi.2, hj.1, hj.2⟩, fin ρ F H1 (Ext.refl _ _ _) hs _ (walks_rng i _)⟩
      · cases e
    · cases e
/-! ### enumerate, zip -/
theorem walks_pair {K : KW} {ρ : List Addr} {F : Hp} {J : It} {G : Hp → Prop} {f g : Nat → Option V} {items : List D} (w : Walk J items.length G (YPair f g))
    (hG : ∀ ρ' F' H' hp', ρ <+: ρ' → Same F F' → Sim K ρ' F' H' hp' → G H')
    (hi : ∀ i x y, i < items.length → f i = some x → g i = some y → ∃ d d', items[i]? = some (.tup [d, d']) ∧ pl [d, d'] = false ∧ Rep K ρ F d x ∧ Rep K ρ F d' y) : WalksD K ρ F J items := by
  refine ⟨G, _, w, hG, fun i H x H' ρ' F' hp' pr sm s hl y => ?_⟩
  obtain ⟨T, u, v, rfl, hn, rfl, h1, h2⟩ := y
  obtain ⟨d, d', e, hw, r1, r2⟩ := hi i u v hl h1 h2
  obtain ⟨s', x', rr⟩ := new_tup (xs := [d, d']) (ws := [u, v]) s ⟨u, [v], rfl, Rep.mono sm pr _ _ r1, ⟨v, [], rfl, Rep.mono sm pr _ _ r2, rfl⟩⟩ hn hw
  exact ⟨_, _, e, x', s', rr⟩
def enumL (ds : List D) : List D := (List.range ds.length).map fun (i : Nat) => .tup [.int (i : Nat), ds.getD i .non]
def zipL (ds es : List D) : List D := (ds.zip es).map fun p => .tup [p.1, p.2]
def sEnum (fA : AF) : GF (List D) := bnd fA fun ds => rd fun _ => match ds with
  | [.lst xs] => some (enumL xs)
  | _ => none
theorem di_enum {p tpos : Pos} {elts : List Expr} {kk : Nat} (hg : Gl X "enumerate") (hm : X.mg "enumerate" = none) (ha : DA X E [e] fA) (hs : starEach [e] X.env = [(false, eval e X.env)] := by rfl) :
    DI X E (.Tuple elts kk tpos) (.Call (.Name "enumerate" p) [e] [] pos) (sEnum fA) :=
  pi_imp (pi_enum (ta := AQ X.KW X.mg E fA) hg hm ha hs) fun σ H R q => (EK.stepA q).imp fun ws H1 ⟨ds, hl, q1⟩ => by
    obtain ⟨ρ, F, hp, items, rv, hs, e, fin⟩ := EK.read (nil_app q1)
    split at e
    · rename_i xs
      cases e
      obtain ⟨v, rfl, p, us, rfl, hq, rr⟩ := reps1 rv
      refine ⟨p, us, rfl, SqL.of (hs.sub _ _ hq), fin ρ F H1 (Ext.refl _ _ _) hs _ (walks_pair (by rw [show (enumL xs).length = us.length by simp [enumL, rr.len]]; exact walk_enum) (fun ρ' F' H' hp' _ sm s => SqL.of (s.sub _ _ (sm _ _ hq))) fun i x y hi h1 h2 => ?_)⟩
      cases h1
      obtain ⟨d, hd, r⟩ := rr.get' h2
      refine ⟨.int (i : Nat), d, ?_, rfl, rfl, r⟩
      have hi' : i < xs.length := by simpa [enumL] using hi
      have hd' : xs.getD i .non = d := by rw [List.getD_eq_getElem?_getD, hd]; rfl
      simp only [enumL, List.getElem?_map, List.getElem?_range hi', Option.map_some, hd']
    · cases e
def sZip (fA : AF) : GF (List D) := bnd fA fun ds => rd fun _ => match ds with
  | [.lst xs, .lst ys] => if (xs.zip ys).all (fun p => !pl [p.1, p.2]) then some (zipL xs ys) else none
  | _ => none
theorem di_zip {e2 : Expr} {p tpos : Pos} {elts : List Expr} {kk : Nat} (hg : Gl X "zip") (hm : X.mg "zip" = none) (ha : DA X E [e, e2] fA)
    (hs : starEach [e, e2] X.env = (false, eval e X.env) :: starEach [e2] X.env := by rfl) (hpl : (backTo pos (starEach [e2] X.env)).any (·.1) = false := by rfl) :
    DI X E (.Tuple elts kk tpos) (.Call (.Name "zip" p) [e, e2] [] pos) (sZip fA) :=
  pi_imp (pi_zip (ta := AQ X.KW X.mg E fA) hg hm ha hs hpl) fun σ H R q => (EK.stepA q).imp fun ws H1 ⟨ds, hl, q1⟩ => by
    obtain ⟨ρ, F, hp, items, rv, hs, e, fin⟩ := EK.read (nil_app q1)
    split at e
    · rename_i xs ys
      split at e
      rotate_left
      · cases e
      rename_i hall
      cases e
      obtain ⟨v, w, rfl, ⟨p, us, rfl, hq, rr⟩, ⟨p', us', rfl, hq', rr'⟩⟩ := reps2 rv
      refine ⟨p, p', us, us', rfl, SqL.of (hs.sub _ _ hq), SqL.of (hs.sub _ _ hq'), fin ρ F H1 (Ext.refl _ _ _) hs _ (walks_pair (walk_zip (xs := us) (ys := us') (by simp [zipL, rr.len, rr'.len])) (fun ρ' F' H' hp' _ sm s => ⟨SqL.of (s.sub _ _ (sm _ _ hq)), SqL.of (s.sub _ _ (sm _ _ hq'))⟩) fun i x y hi h1 h2 => ?_)⟩
      obtain ⟨d, hd, r⟩ := rr.get' h1
      obtain ⟨d', hd', r'⟩ := rr'.get' h2
      have hz : (xs.zip ys)[i]? = some (d, d') := List.getElem?_zip_eq_some.mpr ⟨hd, hd'⟩
      refine ⟨d, d', by simp [zipL, hz], ?_, r, r'⟩
      have hx := List.all_eq_true.mp hall (d, d') (List.mem_of_getElem? hz)
      simpa using hx
    · cases e
/-! ### for -/
def loopL (g : G8) (fb : SF) : List D → SF
  | [] => sSkip
  | d :: ds => fun env hp => match g d env hp with
    | none => none
    | some (env1, hp1) => match fb env1 hp1 with
      | some (.nx, e2, h2) => loopL g fb ds e2 h2
      | some (.ct, e2, h2) => loopL g fb ds e2 h2
      | some (.bk, e2, h2) => some (.nx, e2, h2)
      | r => r
def sFor (fi : GF (List D)) (g : G8) (fb : SF) : SF := sE fi (loopL g fb)
theorem ds_for {body : List Stmt} {fi : GF (List D)} {g : G8} {fb : SF} (hp : PassesOwn (model X.prog X.w) X.A X.env X.xe) (hc : X.calm = true) (hi : DI X E tg iter fi) (hg : DG X tg g) (hb : DSs X E body fb)
    (hs : ∀ x, foldedSetIterable iter X.env x = pure x := by intro _; rfl) : DS X E (.For tg iter body [] pos) (sFor fi g fb) :=
  ps_imp (ps_for (wi := IQ X.KW X.mg E fi) (g := GQ X.KW g) (tb := SK X.KW X.mg E fb) hp hc hi hg hb hs) fun De σ H h => by
    obtain ⟨ρ, F, env, hp, fl, env', hp', rd, he, hs, e, fin⟩ := h
    unfold sFor sE at e
    cases q : fi env hp with
    | none => rw [q] at e; cases e
    | some p =>
      obtain ⟨r1, hp1⟩ := p
      rw [q] at e
      refine ⟨ρ, F, env, hp, r1, hp1, rfl, he, hs, q, fun ρ1 F1 H1 x1 s1 => ?_⟩
      cases r1 with
      | exc c => cases e; exact fin ρ1 F1 H1 x1 s1
      | ok items =>
        intro J ⟨G, Y, w, hG, hY⟩
        refine for_it w (fun i σ2 H2 => ∃ ρ2 F2 env2 hp2, ρ1 <+: ρ2 ∧ Same F1 F2 ∧ EnvR X.KW ρ2 F2 env2 σ2 ∧ Sim X.KW ρ2 F2 H2 hp2 ∧ loopL g fb (items.drop i) env2 hp2 = some (fl, env', hp') ∧ ∀ ρ' F' H', Ext ρ2 ρ' F2 H2 F' H' → Sim X.KW ρ' F' H' hp' → Fin8 X.KW X.mg E De ρ' F' H' env' fl)
          ⟨ρ1, F1, env, hp1, List.prefix_refl _, Same.refl _, he.mono x1.same x1.pre, s1, e, fun ρ2 F2 H2 x2 s2 => fin ρ2 F2 H2 (x1.trans s1 x2) s2⟩
          (fun i σ2 H2 _ ⟨ρ2, F2, env2, hp2, pr, sm, _, s2, _⟩ => hG ρ2 F2 H2 hp2 pr sm s2) ?_ ?_
        · rintro i x σ2 H2 H3 hi ⟨ρ2, F2, env2, hp2, pr, sm, he2, s2, e2, fin2⟩ y
          obtain ⟨F3, d, hd, x3, s3, r3⟩ := hY i H2 x H3 ρ2 F2 hp2 pr sm s2 hi y
          have hdrop : items.drop i = d :: items.drop (i + 1) := by
            obtain ⟨h1, h2⟩ := List.getElem?_eq_some_iff.mp hd
            rw [← h2]
            exact List.drop_eq_getElem_cons h1
          rw [hdrop] at e2
          simp only [loopL] at e2
          cases q2 : g d env2 hp2 with
          | none => rw [q2] at e2; cases e2
          | some p2 =>
            obtain ⟨env4, hp4⟩ := p2
            rw [q2] at e2
            simp only at e2
            refine ⟨d, ρ2, F3, env2, hp2, env4, hp4, Reps.one r3, he2.mono x3.same x3.pre, s3, q2, fun ρ4 F4 H4 x4 s4 σ4 he4 => ?_⟩
            cases q5 : fb env4 hp4 with
            | none => rw [q5] at e2; cases e2
            | some p5 =>
              obtain ⟨fl5, env5, hp5⟩ := p5
              rw [q5] at e2
              refine ⟨ρ4, F4, env4, hp4, fl5, env5, hp5, rfl, he4, s4, q5, fun ρ5 F5 H5 x5 s5 => ?_⟩
              have xx := (x3.trans s3 x4).trans s4 x5
              cases fl5 with
              | nx => exact fun σ' he' => ⟨ρ5, F5, env5, hp5, pr.trans xx.pre, sm.trans xx.same, he', s5, e2, fun ρ6 F6 H6 x6 s6 => fin2 ρ6 F6 H6 (xx.trans s5 x6) s6⟩
              | ct => exact fun σ' he' => ⟨ρ5, F5, env5, hp5, pr.trans xx.pre, sm.trans xx.same, he', s5, e2, fun ρ6 F6 H6 x6 s6 => fin2 ρ6 F6 H6 (xx.trans s5 x6) s6⟩
              | bk => cases e2; exact fin2 ρ5 F5 H5 xx s5
              | rt d => cases e2; exact fin2 ρ5 F5 H5 xx s5
              | ex c => cases e2; exact fin2 ρ5 F5 H5 xx s5
        · rintro σ2 H2 ⟨ρ2, F2, env2, hp2, pr, sm, he2, s2, e2, fin2⟩
          rw [List.drop_length] at e2
          cases e2
          exact fin2 ρ2 F2 H2 (Ext.refl _ _ _) s2 σ2 he2
end
end HI

namespace HI
open PySem L2

/-! ### comprehensions -/
inductive CT where
  | nm (i : Nat) | tp (is : List Nat)
def gsN : List Nat → TGs
  | [] => gNil
  | i :: is => gCons (gName i) (gsN is)
def CT.tg (K : KW) : CT → TG
  | .nm i => gName i
  | .tp is => gTup K.1 is.length (gsN is)
def setAll : List Nat → List D → Env8 → Option Env8
  | [], [], env => some env
  | i :: is, d :: ds, env => setAll is ds (env.set i (some d))
  | _, _, _ => none
def CT.set : CT → D → Env8 → Option Env8
  | .nm i, d, env => some (env.set i (some d))
  | .tp is, .tup ds, env => if ds.length = is.length then setAll is ds env else none
  | .tp _, _, _ => none
def CT.slots : CT → List Nat
  | .nm i => [i]
  | .tp is => is
def wipe8 (env : Env8) : List Nat → Env8
  | [] => env
  | v :: vs => (wipe8 env vs).set v none
theorem wipe8_len (env : Env8) : ∀ vs : List Nat, (wipe8 env vs).length = env.length
  | [] => rfl
  | v :: vs => by simp [wipe8, wipe8_len env vs]
theorem EnvR.unset {K : KW} {ρ : List Addr} {F : Hp} {env : Env8} {σ : St} (h : EnvR K ρ F env σ) (i : Nat) : EnvR K ρ F (env.set i none) (σ.set i none) := by
  refine ⟨by simp [h.1], fun j e q => ?_⟩
  by_cases hj : j = i
  · subst hj
    have hl : j < env.length := by
      have := (List.getElem?_eq_some_iff.mp q).1
      simpa using this
    rw [List.getElem?_set_self hl] at q
    cases q
  · rw [List.getElem?_set_ne (Ne.symm hj)] at q ⊢
    exact h.2 j e q
theorem EnvR.wipe {K : KW} {ρ : List Addr} {F : Hp} {env : Env8} {σ : St} (h : EnvR K ρ F env σ) : ∀ vs : List Nat, EnvR K ρ F (wipe8 env vs) (wipe σ vs)
  | [] => h
  | v :: vs => (EnvR.wipe h vs).unset v
theorem wipe_set {σ : St} {i : Nat} {w : Option V} : ∀ {vs : List Nat}, i ∈ vs → wipe (σ.set i w) vs = wipe σ vs
  | [], h => by cases h
  | v :: vs, h => by
    unfold L2.wipe
    by_cases hi : i ∈ vs
    · rw [wipe_set hi]
    · have e : i = v := by
        rcases List.mem_cons.mp h with h | h
        · exact h
        · exact absurd h hi
      subst e
      have : ∀ (us : List Nat), i ∉ us → wipe (σ.set i w) us = (wipe σ us).set i w := by
        intro us hu
        induction us with
        | nil => rfl
        | cons u us ih =>
          unfold L2.wipe
          rw [ih (fun z => hu (List.mem_cons_of_mem _ z)), List.set_comm _ _ (fun z => hu (by rw [z]; exact List.mem_cons_self))]
      rw [this vs hi, List.set_set]
theorem wipe_wipe (σ : St) (vs : List Nat) : wipe (wipe σ vs) vs = wipe σ vs := by
  have aux : ∀ (us : List Nat), (∀ u ∈ us, u ∈ vs) → wipe (wipe σ us) vs = wipe σ vs := by
    intro us hu
    induction us with
    | nil => rfl
    | cons u us ih =>
      show wipe ((wipe σ us).set u none) vs = _
      rw [wipe_set (hu u List.mem_cons_self)]
      exact ih fun z hz => hu z (List.mem_cons_of_mem _ hz)
  exact aux vs fun _ h => h
theorem gsN_ok {K : KW} {ρ : List Addr} {F H : Hp} {vs : List Nat} {Q : St → Hp → Prop} {σ0 : St} : ∀ {is : List Nat} {ds : List D} {ws : List V} {env env1 : Env8} {σ : St}, Reps K ρ F ds ws → EnvR K ρ F env σ → (∀ i ∈ is, i ∈ vs) → wipe σ vs = σ0 → setAll is ds env = some env1 →
    (∀ σ2, EnvR K ρ F env1 σ2 → wipe σ2 vs = σ0 → Q σ2 H) → gsN is ws σ H Q
  | [], [], ws, env, env1, σ, r, he, _, hw, e, q => by
    cases e
    exact ⟨r, q σ he hw⟩
  | [], _ :: _, _, _, _, _, _, _, _, _, e, _ => by cases e
  | _ :: _, [], _, _, _, _, _, _, _, _, e, _ => by cases e
  | i :: is, d :: ds, ws, env, env1, σ, r, he, hi, hw, e, q => by
    obtain ⟨v, t, rfl, r1, r2⟩ := r
    exact ⟨v, t, rfl, gsN_ok (is := is) r2 (he.set r1 i) (fun j hj => hi j (List.mem_cons_of_mem _ hj)) (by rw [wipe_set (hi i List.mem_cons_self)]; exact hw) e q⟩
theorem CT.ok {K : KW} {ρ : List Addr} {F H : Hp} {hp : Hp8} {vs : List Nat} {Q : St → Hp → Prop} {c : CT} {d : D} {x : V} {env env1 : Env8} {σ σ0 : St} (hs : Sim K ρ F H hp) (r : Rep K ρ F d x) (he : EnvR K ρ F env σ) (hi : ∀ i ∈ c.slots, i ∈ vs) (hw : wipe σ vs = σ0) (e : c.set d env = some env1)
    (q : ∀ σ2, EnvR K ρ F env1 σ2 → wipe σ2 vs = σ0 → Q σ2 H) : c.tg K x σ H Q := by
  cases c with
  | nm i =>
    cases e
    exact q _ (he.set r i) (by rw [wipe_set (hi i (List.mem_singleton.mpr rfl))]; exact hw)
  | tp is =>
    cases d with
    | tup ds =>
      simp only [CT.set] at e
      split at e
      · rename_i hl
        obtain ⟨a, ws, rfl, hq, rr⟩ := tup_at hs r
        exact ⟨a, ws, rfl, hq, by rw [← rr.len]; exact hl, gsN_ok rr he hi hw e q⟩
      · cases e
    | _ => cases e
/-- the items' turns: what is kept of each -/
def loopC (c : CT) (ft : TF) (fe : EF) (env0 : Env8) : List D → List D → Hp8 → Option (List D × Hp8)
  | [], acc, hp => some (acc, hp)
  | d :: ds, acc, hp => match c.set d env0 with
    | none => none
    | some env1 => match ft env1 hp with
      | some (.ok true, hp1) => match fe env1 hp1 with
        | some (.ok y, hp2) => if acc.length < 1000000 then loopC c ft fe env0 ds (acc ++ [y]) hp2 else none
        | _ => none
      | some (.ok false, hp1) => loopC c ft fe env0 ds acc hp1
      | _ => none
def sLcR (fi : GF (List D)) (c : CT) (ft : TF) (fe : EF) (own : List Nat) : GF (List D) := bnd fi fun items env hp => (loopC c ft fe (wipe8 env own) items [] hp).map fun p => (.ok p.1, p.2)
def sLc (fi : GF (List D)) (c : CT) (ft : TF) (fe : EF) (own : List Nat) : EF := bnd (sLcR fi c ft fe own) fun ds => pur (.lst ds)
def sLcC (fi : GF (List D)) (c : CT) (ft : TF) (fe : EF) (own : List Nat) : EF := bnd (sLcR fi c ft fe own) fun ds => mkCell (.lst ds)
def tfYes : TF := pur true
def DTs (X : Cx) (E : XK) (ifs : List Expr) (f : TF) : Prop := PTs X ifs (TQ X.KW X.mg E f)
section
variable {X : Cx} {E : XK} {elt tg iter a b c e : Expr} {fa fb fe : EF} {fA : AF} {ft : TF} {pos : Pos}
theorem pts_imp {ifs : List Expr} {t t' : TT} (h : PTs X ifs t) (i : ∀ σ H Q, t' σ H Q → t σ H Q) : PTs X ifs t' := ⟨fun pins s σ H Q I q => h.run pins s σ H Q I (i _ _ _ q)⟩
theorem dts_nil : DTs X E [] tfYes := pts_imp pts_nil fun σ H Q q => by
  obtain ⟨ρ, F, hp, _, _, fin⟩ := EK.pure q
  exact fin
theorem dts_one (h : DT X E c ft) : DTs X E [c] ft := pts_one h
/-- the core: the new list at D, told at its end by the data -/
theorem lc_read {K : KW} {mg : Str → Option Value} {E : XK} {ct : CT} {own : List Nat} {σ : St} {H : Hp} {Q : VK} {fi : GF (List D)} {k : List D → EF} (hsl : ∀ i ∈ ct.slots, i ∈ own)
    (hk : ∀ (ds : List D) (ρ ρ1 : List Addr) (F H F1 H1 : Hp) (hp1 : Hp8) (env : Env8) (D0 : Addr) (ws : List V) (r : Res D) (hp' : Hp8), k ds env hp1 = some (r, hp') → Ext ρ ρ1 F H F1 H1 → Sim K ρ1 F1 H1 hp1 → F1 D0 = none → D0 ∉ ρ1 → H D0 = none → H1 D0 = some (.lst ws) → Reps K ρ1 F1 ds ws →
      (∀ ρ' F' H', Ext ρ ρ' F H F' H' → Sim K ρ' F' H' hp' → Out mg E H' (fun d => ∀ v, Rep K ρ' F' d v → Q v H') r) → Q (.ref D0) H1)
    (h : EQ K mg E (bnd (sLcR fi ct ft fe own) k) σ H Q) : tLc (IQ K mg E fi) (ct.tg K) (TQ K mg E0 ft) (EQ K mg E0 fe) own σ H Q := by
  obtain ⟨ρ, F, env, hp, r, hp', rd, he, hs, e, fin⟩ := h
  unfold bnd sLcR at e
  cases q : fi env hp with
  | none => simp only [bnd, q] at e; cases e
  | some p =>
    obtain ⟨r1, hp1⟩ := p
    refine ⟨ρ, F, env, hp, r1, hp1, rfl, he, hs, q, fun ρ1 F1 H1 x1 s1 => ?_⟩
    cases r1 with
    | exc c =>
      simp only [bnd, q] at e
      cases e
      exact fin ρ1 F1 H1 x1 s1
    | ok items =>
      intro J ⟨G, Y, w, hG, hY⟩ D0 hD0
      simp only [bnd, q] at e
      cases q1 : loopC ct ft fe (wipe8 env own) items [] hp1 with
      | none => rw [q1] at e; cases e
      | some p =>
        obtain ⟨ds, hpE⟩ := p
        rw [q1] at e
        simp only [Option.map_some] at e
        refine lc_it w (fun i H2 => ∃ ρ2 F2 hp2 acc ws, Ext ρ1 ρ2 F1 H1 F2 H2 ∧ Sim K ρ2 F2 H2 hp2 ∧ F2 D0 = none ∧ D0 ∉ ρ2 ∧ H2 D0 = some (.lst ws) ∧ Reps K ρ2 F2 acc ws ∧ acc.length ≤ 1000000 ∧ loopC ct ft fe (wipe8 env own) (items.drop i) acc hp2 = some (ds, hpE)) ?_ (fun i H2 _ ⟨ρ2, F2, hp2, acc, ws, x2, s2, _⟩ => hG ρ2 F2 H2 hp2 x2.pre x2.same s2) ?_ ?_
        · have hF : F1 D0 = none := Same.free s1.sub hD0
          have nr : D0 ∉ ρ1 := fun z => s1.live D0 z hD0
          have np : ∀ b, H1 b ≠ none → b ≠ D0 := fun b hb z => hb (z ▸ hD0)
          refine ⟨ρ1, F1, hp1, [], [], ⟨List.prefix_refl _, Same.refl _, fun a o h n _ => ⟨n, by rw [upd_ne (np a (by rw [h]; exact fun z => by cases z))]; exact h⟩, fun a h => .inl h⟩, ⟨fun b u eb => ?_, s1.nd, s1.len, s1.out, fun b hb => ?_, fun n c a h1 h2 => ?_⟩, hF, nr, upd_same, rfl, by simp, q1⟩
          · rw [upd_ne (fun z => by rw [z, hF] at eb; cases eb)]
            exact s1.sub _ _ eb
          · rw [upd_ne (np b (s1.live b hb))]
            exact s1.live b hb
          · exact (s1.cell n c a h1 h2).mono (Same.refl _) (List.prefix_refl _) (upd_ne (np a (s1.live a (List.mem_of_getElem? h2))))
        · rintro i x H2 H3 hi ⟨ρ2, F2, hp2, acc, ws, x2, s2, hF2, nr2, hw2, ra2, hl2, e2⟩ y
          obtain ⟨F3, d, hd, x3, s3, r3⟩ := hY i H2 x H3 ρ2 F2 hp2 x2.pre x2.same s2 hi y
          have hdrop : items.drop i = d :: items.drop (i + 1) := by
            obtain ⟨h1, h2⟩ := List.getElem?_eq_some_iff.mp hd
            rw [← h2]
            exact List.drop_eq_getElem_cons h1
          rw [hdrop] at e2
          simp only [loopC] at e2
          cases q2 : ct.set d (wipe8 env own) with
          | none => rw [q2] at e2; cases e2
          | some env4 =>
            rw [q2] at e2
            simp only at e2
            have x13 := x2.trans s2 x3
            have he3 : EnvR K ρ2 F3 (wipe8 env own) (wipe σ own) := ((he.mono x1.same x1.pre).mono x13.same x13.pre).wipe own
            obtain ⟨hF3, hw3⟩ := x3.keep D0 _ hw2 hF2 nr2
            refine CT.ok s3 r3 he3 hsl (wipe_wipe σ own) q2 fun σ4 he4 hw4 => ⟨hw4, ?_⟩
            cases q5 : ft env4 hp2 with
            | none => rw [q5] at e2; cases e2
            | some p5 =>
              obtain ⟨r5, hp5⟩ := p5
              rw [q5] at e2
              cases r5 with
              | exc c => cases e2
              | ok b =>
                refine ⟨ρ2, F3, env4, hp2, .ok b, hp5, rfl, he4, s3, q5, fun ρ5 F5 H5 x5 s5 => ?_⟩
                have x15 := x13.trans s3 x5
                obtain ⟨hF5, hw5⟩ := x5.keep D0 _ hw3 hF3 nr2
                have nr5 : D0 ∉ ρ5 := fun z => (x5.fresh D0 z).elim nr2 fun q => by rw [hw3] at q; cases q
                cases b with
                | false =>
                  exact ⟨ρ5, F5, hp5, acc, ws, x15, s5, hF5, nr5, hw5, Reps.mono (x3.same.trans x5.same) (x3.pre.trans x5.pre) _ _ ra2, hl2, e2⟩
                | true =>
                  simp only at e2
                  cases q6 : fe env4 hp5 with
                  | none => rw [q6] at e2; cases e2
                  | some p6 =>
                    obtain ⟨r6, hp6⟩ := p6
                    rw [q6] at e2
                    cases r6 with
                    | exc c => cases e2
                    | ok yd =>
                      simp only at e2
                      split at e2
                      · rename_i hacc
                        refine ⟨ρ5, F5, env4, hp5, .ok yd, hp6, rfl, he4.mono x5.same x5.pre, s5, q6, fun ρ6 F6 H6 x6 s6 yv ry => ?_⟩
                        obtain ⟨hF6, hw6⟩ := x6.keep D0 _ hw5 hF5 nr5
                        have nr6 : D0 ∉ ρ6 := fun z => (x6.fresh D0 z).elim nr5 fun q => by rw [hw5] at q; cases q
                        have x16 := x15.trans s5 x6
                        have ra6 := Reps.mono ((x3.same.trans x5.same).trans x6.same) ((x3.pre.trans x5.pre).trans x6.pre) _ _ ra2
                        have np : ∀ b, b ∈ ρ6 → b ≠ D0 := fun b hb z => nr6 (z ▸ hb)
                        refine ⟨ws, hw6, by rw [← ra2.len]; exact Nat.lt_of_lt_of_le hacc (by decide), ρ6, F6, hp6, acc ++ [yd], ws ++ [yv], ⟨x16.pre, x16.same, fun a o h n hr => ?_, x16.fresh⟩, ⟨fun b u eb => ?_, s6.nd, s6.len, s6.out, fun b hb => ?_, fun n c a h1 h2 => ?_⟩, hF6, nr6, upd_same, ra6.app (Reps.one ry), by simp; omega, e2⟩
                        · have haD : a ≠ D0 := fun z => by rw [z, hD0] at h; cases h
                          rw [upd_ne haD]
                          exact x16.keep a o h n hr
                        · rw [upd_ne (fun z => by rw [z, hF6] at eb; cases eb)]
                          exact s6.sub _ _ eb
                        · rw [upd_ne (np b hb)]
                          exact s6.live b hb
                        · exact (s6.cell n c a h1 h2).mono (Same.refl _) (List.prefix_refl _) (upd_ne (np a (List.mem_of_getElem? h2)))
                      · cases e2
        · rintro H2 ⟨ρ2, F2, hp2, acc, ws, x2, s2, hF2, nr2, hw2, ra2, hl2, e2⟩
          rw [List.drop_length] at e2
          simp only [loopC, Option.some.injEq, Prod.mk.injEq] at e2
          obtain ⟨rfl, rfl⟩ := e2
          exact hk acc ρ1 ρ2 F1 H1 F2 H2 hp2 env D0 ws r hp' e x2 s2 hF2 nr2 hD0 hw2 ra2 fun ρ' F' H' x' s' => fin ρ' F' H' (x1.trans s1 x') s'
theorem lc_frz {K : KW} {mg : Str → Option Value} {E : XK} {ct : CT} {own : List Nat} {σ : St} {H : Hp} {Q : VK} {fi : GF (List D)} (hsl : ∀ i ∈ ct.slots, i ∈ own)
    (h : EQ K mg E (sLc fi ct ft fe own) σ H Q) : tLc (IQ K mg E fi) (ct.tg K) (TQ K mg E0 ft) (EQ K mg E0 fe) own σ H Q :=
  lc_read hsl (fun ds ρ ρ1 F H F1 H1 hp1 env D0 ws r hp' e x s hF nr hn hw rr fin => by
    obtain ⟨rfl, rfl⟩ := Prod.mk.inj (Option.some.inj e)
    have sm : Same F1 (upd F1 D0 (.lst ws)) := fun b u eb => by
      rw [upd_ne (fun z => by rw [z, hF] at eb; cases eb)]
      exact eb
    have np : ∀ b, b ∈ ρ1 → b ≠ D0 := fun b hb z => nr (z ▸ hb)
    refine fin ρ1 (upd F1 D0 (.lst ws)) H1 ⟨x.pre, x.same.trans sm, fun a o h n hr => ?_, x.fresh⟩ ⟨fun b u eb => ?_, s.nd, s.len, fun n c a h1 h2 h3 => ?_, s.live, fun n c a h1 h2 => ?_⟩ (.ref D0) ⟨D0, ws, rfl, upd_same, Reps.mono sm (List.prefix_refl _) _ _ rr⟩
    · have haD : a ≠ D0 := fun z => by rw [z, hn] at h; cases h
      rw [upd_ne haD]
      exact x.keep a o h n hr
    · by_cases hb : b = D0
      · subst hb
        rw [upd_same] at eb
        rw [← eb]
        exact hw
      · rw [upd_ne hb] at eb
        exact s.sub _ _ eb
    · rw [upd_ne (np a (List.mem_of_getElem? h2))]
      exact s.out n c a h1 h2 h3
    · exact (s.cell n c a h1 h2).mono sm (List.prefix_refl _) rfl) h
theorem lc_cell {K : KW} {mg : Str → Option Value} {E : XK} {ct : CT} {own : List Nat} {σ : St} {H : Hp} {Q : VK} {fi : GF (List D)} (hsl : ∀ i ∈ ct.slots, i ∈ own)
    (h : EQ K mg E (sLcC fi ct ft fe own) σ H Q) : tLc (IQ K mg E fi) (ct.tg K) (TQ K mg E0 ft) (EQ K mg E0 fe) own σ H Q :=
  lc_read hsl (fun ds ρ ρ1 F H F1 H1 hp1 env D0 ws r hp' e x s hF nr hn hw rr fin => by
    obtain ⟨rfl, rfl⟩ := Prod.mk.inj (Option.some.inj e)
    have pp : ρ1 <+: ρ1 ++ [D0] := List.prefix_append _ _
    refine fin (ρ1 ++ [D0]) F1 H1 ⟨x.pre.trans pp, x.same, fun a o h n hr => x.keep a o h n hr, fun a ha => ?_⟩ ⟨s.sub, ?_, by simp [s.len], fun n c a h1 h2 h3 => ?_, fun a ha => ?_, fun n c a h1 h2 => ?_⟩ (.ref D0) ⟨D0, rfl, by rw [s.len]; simp⟩
    · rcases List.mem_append.mp ha with h | h
      · exact x.fresh a h
      · simp at h
        subst h
        exact .inr hn
    · rw [List.nodup_append]
      exact ⟨s.nd, by simp, fun a ha b hb => by simp at hb; subst hb; exact fun z => nr (z ▸ ha)⟩
    · by_cases hlt : n < hp1.length
      · rw [List.getElem?_append_left hlt] at h1
        rw [List.getElem?_append_left (by rw [← s.len]; exact hlt)] at h2
        exact s.out n c a h1 h2 h3
      · have hlen : n = hp1.length := by
          have := (List.getElem?_eq_some_iff.mp h1).1
          simp at this
          omega
        subst hlen
        rw [s.len, List.getElem?_append_right (Nat.le_refl _), Nat.sub_self] at h2
        simp at h2
        subst h2
        exact hF
    · rcases List.mem_append.mp ha with h | h
      · exact s.live a h
      · simp at h
        subst h
        rw [hw]
        exact fun z => by cases z
    · by_cases hlt : n < hp1.length
      · rw [List.getElem?_append_left hlt] at h1
        rw [List.getElem?_append_left (by rw [← s.len]; exact hlt)] at h2
        exact (s.cell n c a h1 h2).mono (Same.refl _) pp rfl
      · have hlen : n = hp1.length := by
          have := (List.getElem?_eq_some_iff.mp h1).1
          simp at this
          omega
        subst hlen
        rw [List.getElem?_append_right (Nat.le_refl _), Nat.sub_self] at h1
        rw [s.len, List.getElem?_append_right (Nat.le_refl _), Nat.sub_self] at h2
        simp at h1 h2
        subst h1 h2
        exact ⟨ws, hw, Reps.mono (Same.refl _) pp _ _ rr⟩) h
section
variable {ifs : List Expr} {scope : Scope} {own : List (Str × Nat)} {fi : GF (List D)} {ct : CT}
theorem de_lc (hc : X.calm = true) (hN : X.N.Nodup) (hi : DI X E tg iter fi) (ok : BlkOk X.N X.env.scope scope own) (hsl : ∀ i ∈ ct.slots, i ∈ own.map (·.2))
    (hg : ∀ (s : Shared) (H : Hp) (C : Addr) (cl : List (Str × Addr)) (fp : List Addr), PG (X.blk s H scope (compEnvC scope cl C X.env) fp) tg (ct.tg X.KW)) (ht : ∀ (s : Shared) (H : Hp) (C : Addr) (cl : List (Str × Addr)) (fp : List Addr), DTs (X.blk s H scope (compEnvC scope cl C X.env) fp) E0 ifs ft)
    (he : ∀ (s : Shared) (H : Hp) (C : Addr) (cl : List (Str × Addr)) (fp : List Addr), DE (X.blk s H scope (compEnvC scope cl C X.env) fp) E0 elt fe) (hs : ∀ x, foldedSetIterable iter X.env x = pure x := by intro _; rfl) :
    DE X E (.ListComp elt [⟨tg, iter, ifs, 0⟩] scope pos) (sLc fi ct ft fe (own.map (·.2))) :=
  pe_imp (pe_lc (wi := IQ X.KW X.mg E fi) (tt := TQ X.KW X.mg E0 ft) (te := EQ X.KW X.mg E0 fe) hc hN hi ok hg ht he hs) fun σ H Q q => lc_frz hsl q
theorem de_lcC (hc : X.calm = true) (hN : X.N.Nodup) (hi : DI X E tg iter fi) (ok : BlkOk X.N X.env.scope scope own) (hsl : ∀ i ∈ ct.slots, i ∈ own.map (·.2))
    (hg : ∀ (s : Shared) (H : Hp) (C : Addr) (cl : List (Str × Addr)) (fp : List Addr), PG (X.blk s H scope (compEnvC scope cl C X.env) fp) tg (ct.tg X.KW)) (ht : ∀ (s : Shared) (H : Hp) (C : Addr) (cl : List (Str × Addr)) (fp : List Addr), DTs (X.blk s H scope (compEnvC scope cl C X.env) fp) E0 ifs ft)
    (he : ∀ (s : Shared) (H : Hp) (C : Addr) (cl : List (Str × Addr)) (fp : List Addr), DE (X.blk s H scope (compEnvC scope cl C X.env) fp) E0 elt fe) (hs : ∀ x, foldedSetIterable iter X.env x = pure x := by intro _; rfl) :
    DE X E (.ListComp elt [⟨tg, iter, ifs, 0⟩] scope pos) (sLcC fi ct ft fe (own.map (·.2))) :=
  pe_imp (pe_lc (wi := IQ X.KW X.mg E fi) (tt := TQ X.KW X.mg E0 ft) (te := EQ X.KW X.mg E0 fe) hc hN hi ok hg ht he hs) fun σ H Q q => lc_cell hsl q
/-- y = [..] on one line, y a plain local -/
theorem ds_setLc {i : Nat} {y : Str} {py spos : Pos} (hc : X.calm = true) (hN : X.N.Nodup) (hy : X.N[i]? = some y) (hyl : X.env.scope.names.lookup y = some .local)
    (hsw : swapsWith (.ListComp elt [⟨tg, iter, ifs, 0⟩] scope pos) (some (.Name y py)) spos.line X.env = pure true) (hi : DI X E tg iter fi) (ok : BlkOk X.N X.env.scope scope own) (hsl : ∀ i ∈ ct.slots, i ∈ own.map (·.2))
    (hg : ∀ (s : Shared) (H : Hp) (C : Addr) (cl : List (Str × Addr)) (fp : List Addr), PG (X.blk s H scope (compEnvC scope cl C X.env) fp) tg (ct.tg X.KW)) (ht : ∀ (s : Shared) (H : Hp) (C : Addr) (cl : List (Str × Addr)) (fp : List Addr), DTs (X.blk s H scope (compEnvC scope cl C X.env) fp) E0 ifs ft)
    (he : ∀ (s : Shared) (H : Hp) (C : Addr) (cl : List (Str × Addr)) (fp : List Addr), DE (X.blk s H scope (compEnvC scope cl C X.env) fp) E0 elt fe) (hs : ∀ x, foldedSetIterable iter X.env x = pure x := by intro _; rfl) :
    DS X E (.Assign [.Name y py] (.ListComp elt [⟨tg, iter, ifs, 0⟩] scope pos) spos) (sAsg (sLc fi ct ft fe (own.map (·.2))) (gNm i)) :=
  ps_imp (ps_setLc (wi := IQ X.KW X.mg E fi) (tt := TQ X.KW X.mg E0 ft) (te := EQ X.KW X.mg E0 fe) hc hN hy hyl hsw hi ok hg ht he hs) fun De σ H h => lc_frz hsl ((SKd.step h).imp fun v H1 ⟨d, q⟩ => by
    obtain ⟨d', ρ, F, env, hp, env', hp', rd, he, hs, e, fin⟩ := SKd.asg (g := gNm i) q
    cases e
    exact fin ρ F H1 (Ext.refl _ _ _) hs _ (he.set (rep1 rd) i))
theorem ds_setLcC {i : Nat} {y : Str} {py spos : Pos} (hc : X.calm = true) (hN : X.N.Nodup) (hy : X.N[i]? = some y) (hyl : X.env.scope.names.lookup y = some .local)
    (hsw : swapsWith (.ListComp elt [⟨tg, iter, ifs, 0⟩] scope pos) (some (.Name y py)) spos.line X.env = pure true) (hi : DI X E tg iter fi) (ok : BlkOk X.N X.env.scope scope own) (hsl : ∀ i ∈ ct.slots, i ∈ own.map (·.2))
    (hg : ∀ (s : Shared) (H : Hp) (C : Addr) (cl : List (Str × Addr)) (fp : List Addr), PG (X.blk s H scope (compEnvC scope cl C X.env) fp) tg (ct.tg X.KW)) (ht : ∀ (s : Shared) (H : Hp) (C : Addr) (cl : List (Str × Addr)) (fp : List Addr), DTs (X.blk s H scope (compEnvC scope cl C X.env) fp) E0 ifs ft)
    (he : ∀ (s : Shared) (H : Hp) (C : Addr) (cl : List (Str × Addr)) (fp : List Addr), DE (X.blk s H scope (compEnvC scope cl C X.env) fp) E0 elt fe) (hs : ∀ x, foldedSetIterable iter X.env x = pure x := by intro _; rfl) :
    DS X E (.Assign [.Name y py] (.ListComp elt [⟨tg, iter, ifs, 0⟩] scope pos) spos) (sAsg (sLcC fi ct ft fe (own.map (·.2))) (gNm i)) :=
  ps_imp (ps_setLc (wi := IQ X.KW X.mg E fi) (tt := TQ X.KW X.mg E0 ft) (te := EQ X.KW X.mg E0 fe) hc hN hy hyl hsw hi ok hg ht he hs) fun De σ H h => lc_cell hsl ((SKd.step h).imp fun v H1 ⟨d, q⟩ => by
    obtain ⟨d', ρ, F, env, hp, env', hp', rd, he, hs, e, fin⟩ := SKd.asg (g := gNm i) q
    cases e
    exact fin ρ F H1 (Ext.refl _ _ _) hs _ (he.set (rep1 rd) i))
end
end
end HI

namespace HI
open PySem L2 PyProof.Rows

/-! ### the promise of a def -/
def sp8 (K : KW) (mg : Str → Option Value) (G : List D → Hp8 → Option (Res D × Hp8)) : Sp := fun vs H Q E =>
  ∃ (ρ : List Addr) (F : Hp) (hp : Hp8) (ds : List D) (r : Res D) (hp' : Hp8), Reps K ρ F ds vs ∧ Sim K ρ F H hp ∧ G ds hp = some (r, hp') ∧
    ∀ ρ' F' H', Ext ρ ρ' F H F' H' → Sim K ρ' F' H' hp' → Out mg E H' (fun d => ∀ v, Rep K ρ' F' d v → Q v H') r
abbrev Fn8 (P : Program) (w : World) (K : PySem.W.Frag) (mg : Str → Option Value) (base : Heap) (k : Nat) (f : Addr) (fd : FuncData) (ps : List Str) (G : List D → Hp8 → Option (Res D × Hp8)) : Prop := FnOk P w K mg base (L2.CX P w) k f fd ps (sp8 (K, w) mg G)
def runF (n m : Nat) (fb : SF) : List D → Hp8 → Option (Res D × Hp8) := fun ds hp => if ds.length = m then match fb (ds.map some ++ List.replicate (n - m) none) hp with
    | some (.nx, _, hp') => some (.ok .non, hp')
    | some (.rt d, _, hp') => some (.ok d, hp')
    | some (.ex c, _, hp') => some (.exc c, hp')
    | _ => none else none
theorem env_start {K : KW} {ρ : List Addr} {F : Hp} {n : Nat} : ∀ {ds : List D} {vs : List V}, Reps K ρ F ds vs → EnvR K ρ F (ds.map some ++ List.replicate n none) (vs.map some ++ List.replicate n none)
  | [], _, h => by
    rw [show _ = _ from h]
    refine ⟨by simp, fun i d e => ?_⟩
    simp [List.getElem?_replicate] at e
  | d :: ds, _, h => by
    obtain ⟨v, r, rfl, r1, r2⟩ := h
    obtain ⟨h1, h2⟩ := env_start (n := n) r2
    refine ⟨by simpa using h1, fun i e q => ?_⟩
    cases i with
    | zero =>
      simp at q
      subst q
      exact ⟨v, rfl, r1⟩
    | succ i => exact h2 i e (by simpa using q)
section
variable {P : Program} {w : World} {K : PySem.W.Frag} {mg : Str → Option Value} {base : Heap}
theorem fn_ok {x qual : Str} {st : Stmt} {f : Addr} {fd : FuncData} {N ps : List Str} {k : Nat} {fb : SF} (F : Fun K x qual st f fd) (S : FnScope N ps (defScope st))
    (hb : ∀ (cdv : Value) (A : Around) (outer : List Env) (s : Shared) (H : Hp) (E : XK), Room k (A.deeper (envOfC qual (defScope st) s.heap.objs.size f cdv)) →
      DSs (cxOf (L2.CX P w) P w K mg base N qual (defScope st) f cdv A outer s H E) E (defBody st) fb) : Fn8 P w K mg base (k + 1) f fd ps (runF N.length ps.length fb) := by
  refine F.okX S (fun vs H Q E h => ?_) (fun cdv A outer s H vs Q E hr h => ⟨_, hb cdv A outer s H E hr, ?_⟩)
  · obtain ⟨ρ, F, hp, ds, r, hp', rd, hs, e, _⟩ := h
    unfold runF at e
    split at e
    · rename_i hl
      rw [← rd.len]
      exact hl
    · cases e
  · obtain ⟨ρ, F, hp, ds, r, hp', rd, hs, e, fin⟩ := h
    unfold runF at e
    split at e
    · rename_i hl
      have he := env_start (n := N.length - ps.length) rd
      have hst : L2.start N vs = vs.map some ++ List.replicate (N.length - ps.length) none := by
        unfold L2.start
        rw [← rd.len, hl]
      cases q : fb (ds.map some ++ List.replicate (N.length - ps.length) none) hp with
      | none => rw [q] at e; cases e
      | some p =>
        obtain ⟨fl, env', hp1⟩ := p
        rw [q] at e
        refine ⟨ρ, F, _, hp, fl, env', hp1, rfl, by rw [hst]; exact he, hs, q, fun ρ' F' H' x s' => ?_⟩
        cases fl with
        | nx => cases e; exact fun σ' _ => fin ρ' F' H' x s' .non rfl
        | rt d => cases e; exact fin ρ' F' H' x s'
        | ex c => cases e; exact fin ρ' F' H' x s'
        | bk => cases e
        | ct => cases e
    · cases e
theorem Fn8.imp {f : Addr} {fd : FuncData} {ps : List Str} {k : Nat} {g G : List D → Hp8 → Option (Res D × Hp8)} (F : Fn8 P w K mg base k f fd ps g) (h : ∀ ds hp r, G ds hp = some r → g ds hp = some r) : Fn8 P w K mg base k f fd ps G :=
  FnOk.imp F fun vs H Q E ⟨ρ, F, hp, ds, r, hp', rd, hs, e, fin⟩ => ⟨ρ, F, hp, ds, r, hp', rd, hs, h _ _ _ e, fin⟩
/-- with fuel -/
theorem Fn8.fuel {f : Addr} {fd : FuncData} {ps : List Str} {k : Nat} {g : Nat → List D → Hp8 → Option (Res D × Hp8)} {G : List D → Hp8 → Option (Res D × Hp8)} (F : ∀ n, Fn8 P w K mg base k f fd ps (g n)) (h : ∀ ds hp r, G ds hp = some r → ∃ n, g n ds hp = some r) : Fn8 P w K mg base k f fd ps G := by
  have up : ∀ vs H Q E, sp8 (K, w) mg G vs H Q E → ∃ n, sp8 (K, w) mg (g n) vs H Q E := fun vs H Q E ⟨ρ, F, hp, ds, r, hp', rd, hs, e, fin⟩ => by
    obtain ⟨n, q⟩ := h _ _ _ e
    exact ⟨n, ρ, F, hp, ds, r, hp', rd, hs, q, fin⟩
  refine ⟨fun vs H Q E q => ?_, fun A outer s H args us vs Q E hr he hb hv q => ?_⟩
  · obtain ⟨n, q⟩ := up _ _ _ _ q
    exact (F n).len _ _ _ _ q
  · obtain ⟨n, q⟩ := up _ _ _ _ q
    exact (F n).run A outer s H args us vs Q E hr he hb hv q
/-- a def that is given no cell and hands back data: its cells are its own -/
def lift0 (G : List D → Option (Res D)) : List D → Hp8 → Option (Res D × Hp8) := fun ds hp => (G ds).map fun r => (r, hp)
def unrefR (hp : Hp8) : Res D → Option (Res D)
  | .ok d => (unref hp d).map .ok
  | .exc c => some (.exc c)
theorem Fn8.pure {f : Addr} {fd : FuncData} {ps : List Str} {k : Nat} {g : List D → Hp8 → Option (Res D × Hp8)} {G : List D → Option (Res D)} (Fo : Fn8 P w K mg base k f fd ps g)
    (h : ∀ ds r, G ds = some r → closeds ds = true ∧ ∃ r0 hp0, g ds [] = some (r0, hp0) ∧ unrefR hp0 r0 = some r) : Fn8 P w K mg base k f fd ps (lift0 G) :=
  FnOk.imp Fo fun vs H Q E ⟨ρ, F, hp, ds, r, hp', rd, hs, e, fin⟩ => by
    unfold lift0 at e
    cases q : G ds with
    | none => rw [q] at e; cases e
    | some r1 =>
      rw [q] at e
      cases e
      obtain ⟨hc, r0, hp0, e0, eu⟩ := h ds _ q
      refine ⟨[], F, [], ds, r0, hp0, Reps.shift _ _ hc rd, ⟨hs.sub, by simp, rfl, fun n c a h => by simp at h, fun a ha => by simp at ha, fun n c a h => by simp at h⟩, e0, fun ρ' F' H' x s' => ?_⟩
      have nr : ∀ a, a ∈ ρ → a ∉ ρ' := fun a ha z => (x.fresh a z).elim (fun q => by simp at q) (hs.live a ha)
      have sm : Same F (frzAll ρ' F' H') := x.same.trans (frzAll_same s')
      have ext : Ext ρ ρ F H (frzAll ρ' F' H') H' := by
        refine ⟨List.prefix_refl _, sm, fun a o ho n hr => ?_, fun a ha => .inl ha⟩
        obtain ⟨n', ho'⟩ := x.keep a o ho n (by simp)
        have na : a ∉ ρ' := fun z => (x.fresh a z).elim (fun q => by simp at q) fun q => by rw [ho] at q; cases q
        exact ⟨by simp [frzAll, na, n'], ho'⟩
      have keep : ∀ (n : Nat) (c : Cell) (a : Addr), hp[n]? = some c → ρ[n]? = some a → c.live = true → F' a = none ∧ H' a = H a := fun n c a h1 h2 h3 => by
        have ha : a ∈ ρ := List.mem_of_getElem? h2
        cases q : H a with
        | none => exact absurd q (hs.live a ha)
        | some o =>
          obtain ⟨n', ho'⟩ := x.keep a o q (hs.out n c a h1 h2 h3) (by simp)
          exact ⟨n', ho'⟩
      have sim : Sim (K, w) ρ (frzAll ρ' F' H') H' hp := by
        refine ⟨fun b u eb => ?_, hs.nd, hs.len, fun n c a h1 h2 h3 => ?_, fun a ha => ?_, fun n c a h1 h2 => ?_⟩
        · unfold frzAll at eb
          split at eb
          · split at eb
            · rename_i vs hv
              rw [hv]
              exact eb
            · rename_i vs hv
              rw [hv]
              exact eb
            · exact s'.sub _ _ eb
          · exact s'.sub _ _ eb
        · have ha : a ∈ ρ := List.mem_of_getElem? h2
          simp [frzAll, nr a ha, (keep n c a h1 h2 h3).1]
        · cases q : H a with
          | none => exact absurd q (hs.live a ha)
          | some o =>
            cases qf : F a with
            | none =>
              rw [(x.keep a o q qf (by simp)).2]
              exact fun z => by cases z
            | some u =>
              rw [s'.sub _ _ (x.same _ _ qf)]
              exact fun z => by cases z
        · cases c with
          | dead => trivial
          | lst l => exact (hs.cell n _ a h1 h2).mono sm (List.prefix_refl _) (keep n _ a h1 h2 rfl).2
          | dic l => exact (hs.cell n _ a h1 h2).mono sm (List.prefix_refl _) (keep n _ a h1 h2 rfl).2
          | dn _ _ => exact (hs.cell n _ a h1 h2).mono sm (List.prefix_refl _) (keep n _ a h1 h2 rfl).2
      have f2 := fin ρ _ H' ext sim
      cases r0 with
      | exc c =>
        cases eu
        exact f2
      | ok d =>
        intro v rv
        cases qd : unref hp0 d with
        | none => simp [unrefR, qd] at eu
        | some d1 =>
          simp [unrefR, qd] at eu
          subst eu
          exact f2 v (Rep.unref s' d d1 v qd rv)
end
/-! ### the call of a def -/
def sCallD (G : List D → Hp8 → Option (Res D × Hp8)) (fA : AF) : EF := bnd fA fun ds _ hp => G ds hp
section
variable {X : Cx} {E : XK} {elt tg iter a b c e : Expr} {es : List Expr} {fa fb fe : EF} {fA : AF} {ft : TF} {pos p apos : Pos} {k : Nat} {f : Addr} {fd : FuncData} {ps : List Str} {x : Str} {G : List D → Hp8 → Option (Res D × Hp8)}
theorem EK.sp {ds : List D} {vs : List V} {σ : L2.St} {H : Hp} {Q : VK} (h : EK X.KW X.mg E ds vs (fun _ hp => G ds hp) σ H fun ρ' F' H' d => ∀ v, Rep X.KW ρ' F' d v → Q v H') : sp8 X.KW X.mg G vs H Q E := by
  obtain ⟨ρ, F, env, hp, r, hp', rd, he, hs, e, fin⟩ := h
  exact ⟨ρ, F, hp, ds, r, hp', rd, hs, e, fin⟩
theorem de_call (F : Fn8 X.prog X.w X.K X.mg X.base k f fd ps G) (hr : Room k X.A) (hg : Gl X x) (hm : X.mg x = some (.ref f)) (hk : PySem.W.keepIn X.K (.ref f) = true) (hb : Binds X.K fd ps []) (hx : Passes (L2.CX X.prog X.w) X E) (ha : DA X E (e :: es) fA)
    (hdb : (x == ("__debug__" : Str)) = false := by decide) (he : starEach (e :: es) X.env = (false, eval e X.env) :: starEach es X.env := by rfl) (hpl : (backTo pos (starEach es X.env)).any (·.1) = false := by rfl) :
    DE X E (.Call (.Name x p) (e :: es) [] pos) (sCallD G fA) :=
  pe_imp (pe_call (t := AQ X.KW X.mg E fA) F hr hg hm hk hb .nil hx ha hdb he hpl) fun σ H Q q => (EK.stepA q).imp fun ws H1 ⟨ds, hl, q1⟩ => by
    rw [List.append_nil]
    exact EK.sp (nil_app q1)
theorem de_call0 (F : Fn8 X.prog X.w X.K X.mg X.base k f fd ps G) (hr : Room k X.A) (hg : Gl X x) (hm : X.mg x = some (.ref f)) (hk : PySem.W.keepIn X.K (.ref f) = true) (hb : Binds X.K fd ps []) (hx : Passes (L2.CX X.prog X.w) X E)
    (hdb : (x == ("__debug__" : Str)) = false := by decide) : DE X E (.Call (.Name x p) [] [] pos) (sCallD G sNil) :=
  pe_imp (pe_call0 F hr hg hm hk hb .nil hx hdb) fun σ H Q q => EK.sp (E := E) (Q := Q) (ds := []) (vs := []) (G := G) (by
    obtain ⟨ρ, F, env, hp, r, hp', rd, he, hs, e, fin⟩ := q
    exact ⟨ρ, F, env, hp, r, hp', rd, he, hs, e, fin⟩)
/-! ### raise X() -/
def sRaise (c : Str) : SF := fun env hp => some (.ex c, env, hp)
theorem pmk_own0 {C : Addr} {bmB : List Value} {B newId initId : String} (F : ExcBaseFacts B newId initId bmB) (q : PySem.W.excIn X.K C bmB newId = true) (gC : X.mg x = some (.ref C)) (kC : PySem.W.keepIn X.K (.ref C) = true) (r : Raises X (.ref C)) (hg : Gl X x)
    (hdb : (x == ("__debug__" : Str)) = false := by decide) : PMk X (.Call (.Name x p) [] [] pos) (fun _ H Q => Q (.ref C) none H) := by
  intro pins s σ H Q I h
  refine wpAny_Call_Name_kw (ld_glob I hg gC ?_ hdb)
  refine PySem.W.callWith_K0 I.kIn kC ?_
  show wpAny _ _ (call (.ref C) []) _ _ _
  obtain ⟨bm, N, nm, qn, bs, hdct, sn, sub, ab, col, dd, k0, k1, k2, k3, k5, mN, hC, hN, hni, T⟩ := exc_obj I.kIn q
  refine wpAny_call_exc_subT F T hC hN hni (fun h' e hm => ?_) (by show 0 ≤ sizeLine; decide)
  exact mk_of I hm r h (I.hok.gone hm.new)
/-- an own exception class over ValueError -/
structure Exc8 (K : PySem.W.Frag) (mg : Str → Option Value) (x : Str) (C : Addr) : Prop where
  g : mg x = some (.ref C)
  i : PySem.W.excIn K C [.type "ValueError", .type "Exception", .type "BaseException", .type "object"] "ValueError.__new__" = true
  k : PySem.W.keepIn K (.ref C) = true
  b : PySem.W.subIn K (.ref C) (.type "BaseException") = some true
  t : PySem.W.typeIn K (.ref C) = some (.type "type")
theorem ds_raise {C : Addr} (hc : X.calm = true) (T : Exc8 X.K X.mg x C) (tk : Takes X (fun cls d _ H => E cls d H)) (hg : Gl X x) (hdb : (x == ("__debug__" : Str)) = false := by decide) : DS X E (.Raise (some (.Call (.Name x p) [] [] apos)) none pos) (sRaise x) :=
  ps_imp (ps_raise hc tk (pmk_own0 PySem.F.excBase_ValueError T.i T.g T.k (raises_own T.b T.t) hg hdb)) fun De σ H h => by
    obtain ⟨ρ, F, env, hp, fl, env', hp', rd, he, hs, e, fin⟩ := h
    cases e
    exact fin ρ F H (Ext.refl _ _ _) hs C T.g
/-! ### methods of lists that are cells -/
/-- the list that is a cell -/
def cellL (hp : Hp8) : D → Option (Nat × List D)
  | .ref n => match hp[n]? with
    | some (.lst ds) => some (n, ds)
    | _ => none
  | _ => none
theorem cellL_at {K : KW} {ρ : List Addr} {F H : Hp} {hp : Hp8} {d : D} {v : V} {n : Nat} {xs : List D} (hs : Sim K ρ F H hp) (r : Rep K ρ F d v) (e : cellL hp d = some (n, xs)) : ∃ a ws, v = .ref a ∧ ρ[n]? = some a ∧ hp[n]? = some (.lst xs) ∧ H a = some (.lst ws) ∧ Reps K ρ F xs ws := by
  cases d with
  | ref m =>
    simp only [cellL] at e
    split at e
    · rename_i ds hc
      cases e
      obtain ⟨a, ev, q⟩ := r
      obtain ⟨ws, q1, q2⟩ := hs.cell n _ a hc q
      exact ⟨a, ws, ev, q, hc, q1, q2⟩
    · cases e
  | _ => cases e
/-- what a method makes of the list -/
def wr (h : Hp8 → Option (Nat × List D × D)) : EF := fun _ hp => match h hp with
  | some (n, ds, d) => some (.ok d, hp.set n (.lst ds))
  | none => none
theorem EK.wr {K : KW} {mg : Str → Option Value} {ds : List D} {vs : List V} {σ : L2.St} {H : Hp} {h : Hp8 → Option (Nat × List D × D)} {Q : List Addr → Hp → Hp → D → Prop} (q : EK K mg E ds vs (HI.wr h) σ H Q) :
    ∃ ρ F hp n xs d, Reps K ρ F ds vs ∧ Sim K ρ F H hp ∧ h hp = some (n, xs, d) ∧ ∀ ρ' F' H', Ext ρ ρ' F H F' H' → Sim K ρ' F' H' (hp.set n (.lst xs)) → Q ρ' F' H' d := by
  obtain ⟨ρ, F, env, hp, r, hp', rd', he, hs, e, fin⟩ := q
  unfold HI.wr at e
  split at e
  · rename_i n xs d ha
    obtain ⟨rfl, rfl⟩ := Prod.mk.inj (Option.some.inj e)
    exact ⟨ρ, F, hp, n, xs, d, rd', hs, ha, fun ρ' F' H' x s => fin ρ' F' H' x s⟩
  · cases e
def appD (x y : D) (hp : Hp8) : Option (Nat × List D × D) := match cellL hp x with
  | some (n, ds) => if ds.length < 1000000 then some (n, ds ++ [y], .non) else none
  | none => none
def sAppend (fo : EF) (fa : EF) : EF := bnd fo fun x => bnd (rd fun hp => cellL hp x) fun _ => bnd (sCons fa sNil) fun ds => wr fun hp => match ds with
  | [y] => appD x y hp
  | _ => none
theorem de_append {o : Expr} {fo : EF} {cpos : Pos} (ho : DE X E o fo) (ha : DE X E a fa) (hbase : attributeBase o "append" X.env (eval o X.env) = eval o X.env := by rfl)
    (hfew : ((backTo cpos (starEach [a] X.env)).all (fun x => !x.1) && (backToKw cpos (keywordEach [] X.env)).all (fun x => x.1.isSome) && decide (([a] : List Expr).length + ([] : List Keyword).length + (if ([] : List Keyword).isEmpty then 0 else 1) < 30)) = true := by rfl)
    (hline : (apos.endLine == cpos.line) = true := by rfl) (hs : starEach [a] X.env = (false, eval a X.env) :: starEach [] X.env := by rfl) (hplain : (backTo cpos (starEach [] X.env)).any (·.1) = false := by rfl) :
    DE X E (.Call (.Attribute o "append" apos) [a] [] cpos) (sAppend fo fa) :=
  pe_imp (pe_bm (to := EQ X.KW X.mg E fo) (t := AQ X.KW X.mg E (sCons fa sNil)) PySem.F.plainAttrs_list PySem.F.slot_list_append PySem.F.type_list_append mt_append ho (da_cons ha da_nil hs) hbase hfew hline hs hplain) fun σ H Q q => (EK.step q).imp fun v H1 ⟨x, q1⟩ => by
    obtain ⟨ρ, F, env, hp, p, rv, he, hs, e, q2⟩ := EK.rdb q1
    obtain ⟨n, xs⟩ := p
    obtain ⟨a, ws, rfl, _, _, hw, _⟩ := cellL_at hs (rep1 rv) e
    refine ⟨.inl ⟨rfl, _, SqL.of hw⟩, (EK.stepA q2).imp fun us H2 ⟨ds, hl, q3⟩ => ?_⟩
    obtain ⟨ρ, F, hp, n, ys, d, rv, hs, e, fin⟩ := EK.wr q3
    obtain ⟨r1, r2⟩ := Reps.split hl rv
    split at e
    · rename_i y
      unfold appD at e
      split at e
      · rename_i n' zs hc
        split at e
        · rename_i hz
          cases e
          obtain ⟨a', ws', ea, hρ, hcl, hw', rr⟩ := cellL_at hs (rep1 r2) hc
          cases ea
          obtain ⟨u, rfl, ru⟩ := reps1 r1
          have lw := rr.len
          refine ⟨a, ws', u, rfl, rfl, hw', by rw [← lw]; exact Nat.lt_of_lt_of_le hz (by decide), ?_⟩
          obtain ⟨s', x'⟩ := hs.put hρ hcl rfl (.lst (ws' ++ [u])) (.lst (zs ++ [y])) ⟨_, upd_same, rr.app (Reps.one ru)⟩
          exact fin _ _ _ x' s' _ rfl
        · cases e
      · cases e
    · cases e
def extD (x y : D) (hp : Hp8) : Option (Nat × List D × D) := match cellL hp x, lstM hp y with
  | some (n, ds), some es => if ds.length + es.length ≤ 1000000 then some (n, ds ++ es, .non) else none
  | _, _ => none
def sExtend (fo : EF) (fa : EF) : EF := bnd fo fun x => bnd (rd fun hp => cellL hp x) fun _ => bnd (sCons fa sNil) fun ds => wr fun hp => match ds with
  | [y] => extD x y hp
  | _ => none
theorem de_extend {o : Expr} {fo : EF} {cpos : Pos} (ho : DE X E o fo) (ha : DE X E a fa) (hbase : attributeBase o "extend" X.env (eval o X.env) = eval o X.env := by rfl)
    (hfew : ((backTo cpos (starEach [a] X.env)).all (fun x => !x.1) && (backToKw cpos (keywordEach [] X.env)).all (fun x => x.1.isSome) && decide (([a] : List Expr).length + ([] : List Keyword).length + (if ([] : List Keyword).isEmpty then 0 else 1) < 30)) = true := by rfl)
    (hline : (apos.endLine == cpos.line) = true := by rfl) (hs : starEach [a] X.env = (false, eval a X.env) :: starEach [] X.env := by rfl) (hplain : (backTo cpos (starEach [] X.env)).any (·.1) = false := by rfl) :
    DE X E (.Call (.Attribute o "extend" apos) [a] [] cpos) (sExtend fo fa) :=
  pe_imp (pe_bm (to := EQ X.KW X.mg E fo) (t := AQ X.KW X.mg E (sCons fa sNil)) PySem.F.plainAttrs_list PySem.F.slot_list_extend PySem.F.type_list_extend mt_extend ho (da_cons ha da_nil hs) hbase hfew hline hs hplain) fun σ H Q q => (EK.step q).imp fun v H1 ⟨x, q1⟩ => by
    obtain ⟨ρ, F, env, hp, p, rv, he, hs, e, q2⟩ := EK.rdb q1
    obtain ⟨n, xs⟩ := p
    obtain ⟨a, ws, rfl, _, _, hw, _⟩ := cellL_at hs (rep1 rv) e
    refine ⟨.inl ⟨rfl, _, SqL.of hw⟩, (EK.stepA q2).imp fun us H2 ⟨ds, hl, q3⟩ => ?_⟩
    obtain ⟨ρ, F, hp, n, ys, d, rv, hs, e, fin⟩ := EK.wr q3
    obtain ⟨r1, r2⟩ := Reps.split hl rv
    split at e
    · rename_i y
      unfold extD at e
      split at e
      · rename_i n' zs es hc he
        split at e
        · rename_i hz
          cases e
          obtain ⟨a', ws', ea, hρ, hcl, hw', rr⟩ := cellL_at hs (rep1 r2) hc
          cases ea
          obtain ⟨u, rfl, ru⟩ := reps1 r1
          obtain ⟨b, us, rfl, hb, rb⟩ := lstM_at hs ru he
          have lw := rr.len
          have lb := rb.len
          refine ⟨a, b, ws', us, rfl, rfl, hw', hb, by rw [← lw, ← lb]; exact Nat.le_trans hz (by decide), ?_⟩
          obtain ⟨s', x'⟩ := hs.put hρ hcl rfl (.lst (ws' ++ us)) (.lst (zs ++ es)) ⟨_, upd_same, rr.app rb⟩
          exact fin _ _ _ x' s' _ rfl
        · cases e
      · cases e
    · cases e
/-! ### o[i] = e, o[i] op= e of list cells -/
def setD (x i y : D) (hp : Hp8) : Option (Nat × List D) := match cellL hp x, i with
  | some (n, ds), .int k => (ixN ds.length k).map fun j => (n, ds.set j y)
  | _, _ => none
def gIx (fo fi : EF) : G8 := fun d env hp => match fo env hp with
  | some (.ok o, hp1) => match fi env hp1 with
    | some (.ok i, hp2) => match setD o i d hp2 with
      | some (n, ds) => some (env, hp2.set n (.lst ds))
      | none => none
    | _ => none
  | _ => none
theorem dg_ix {o i : Expr} {fo fi : EF} (ho : DE X E o fo) (hi : DE X E i fi)
    (ha : ∀ v, assign (.Subscript o i pos) X.env v = (do
      let ov ← holding [v] (eval o X.env)
      let iv ← holding [v, ov] (eval i X.env)
      standAt pos
      holding [v, ov, iv] (setItem ov iv v)
      release [v, ov, iv] []) := by intro _; rfl) : DG X (.Subscript o i pos) (gIx fo fi) :=
  pg_imp (pg_sub (to := EQ X.KW X.mg E fo) (ti := EQ X.KW X.mg E fi) ho hi set_list ha) fun v σ H Q ⟨d, ρ, F, env, hp, env', hp', rd, he, hs, e, fin⟩ => by
    unfold gIx at e
    split at e
    · rename_i od hp1 qo
      split at e
      · rename_i id hp2 qi
        cases q : setD od id d hp2 with
        | none => rw [q] at e; cases e
        | some p =>
          obtain ⟨n, ds⟩ := p
          rw [q] at e
          cases e
          refine ⟨ρ, F, env, hp, .ok od, hp1, rfl, he, hs, qo, fun ρ1 F1 H1 x1 s1 ov rov => ?_⟩
          refine ⟨ρ1, F1, env, hp1, .ok id, hp2, rfl, he.mono x1.same x1.pre, s1, qi, fun ρ2 F2 H2 x2 s2 iv riv => ?_⟩
          have x12 := x1.trans s1 x2
          unfold setD at q
          split at q
          · rename_i n' zs k hc
            obtain ⟨a, ws, rfl, hρ, hcl, hw, rr⟩ := cellL_at s2 (Rep.mono x2.same x2.pre _ _ rov) hc
            cases qj : ixN zs.length k with
            | none => rw [qj] at q; cases q
            | some j =>
              rw [qj] at q
              cases q
              refine ⟨a, ws, k, j, rfl, riv, hw, by rw [← rr.len]; exact qj, ?_⟩
              have rd2 := Rep.mono x12.same x12.pre _ _ (rep1 rd)
              obtain ⟨s', x'⟩ := s2.put hρ hcl rfl (.lst (ws.set j v)) (.lst (zs.set j d)) ⟨_, upd_same, rr.set rd2 j⟩
              exact fin _ _ _ (x12.trans s2 x') s' σ ((he.mono x12.same x12.pre).mono x'.same x'.pre)
          · cases q
      · cases e
    · cases e
theorem get_list : PGet X (fun o i H Q => ∃ p xs k v, o = V.ref p ∧ i = .int k ∧ 0 ≤ k ∧ SqL X.K H p xs ∧ xs[k.toNat]? = some v ∧ Q v H) := by
  intro pins s σ H o i ov iv Q I ro ri h
  obtain ⟨p, xs, k, v, rfl, rfl, h0, hq, hx, q⟩ := h
  cases ro
  obtain ⟨t, rfl⟩ := ri
  obtain ⟨its, rv, pl, hz⟩ := I.list hq
  obtain ⟨u, hu, ru⟩ := rv.get hx
  have hl := (List.getElem?_eq_some_iff.mp hx).1
  have h63 := line63
  exact wpAny_getItem_list pl.isList h0 (by omega) (by simpa using hu) ⟨v, H, I, ru, q⟩
theorem ipD_add {x y z : D} (e : ipD .Add x y = some z) : ∃ i j, x = .int i ∧ y = .int j ∧ z = .int (i + j) := by
  cases x <;> cases y <;> first | (cases e; exact ⟨_, _, rfl, rfl, rfl⟩) | cases e
def sAugIx (fo fi : EF) (op : Operator) (fe : EF) : SF := sE fo fun o => sE fi fun i => sE (rd fun hp => match listOf hp o, i with
    | some ds, .int k => if 0 ≤ k then ds[k.toNat]? else none
    | _, _ => none) fun x => sE fe fun y env hp => match ipD op x y with
  | some z => match setD o i z hp with
    | some (n, ds) => some (.nx, env, hp.set n (.lst ds))
    | none => none
  | none => none
theorem SKd.rdb {K : KW} {mg : Str → Option Value} {α : Type} {ds : List D} {vs : List V} {De : Ends} {σ : L2.St} {H : Hp} {h : Hp8 → Option α} {k : α → SF} (q : SKd K mg E ds vs (sE (rd h) k) De σ H) :
    ∃ ρ F env hp a, Reps K ρ F ds vs ∧ EnvR K ρ F env σ ∧ Sim K ρ F H hp ∧ h hp = some a ∧ ∃ fl env' hp', k a env hp = some (fl, env', hp') ∧ ∀ ρ' F' H', Ext ρ ρ' F H F' H' → Sim K ρ' F' H' hp' → Fin8 K mg E De ρ' F' H' env' fl := by
  obtain ⟨ρ, F, env, hp, fl, env', hp', rd', he, hs, e, fin⟩ := q
  unfold sE rd at e
  cases q : h hp with
  | none => rw [q] at e; cases e
  | some a =>
    rw [q] at e
    exact ⟨ρ, F, env, hp, a, rd', he, hs, q, fl, env', hp', e, fin⟩
theorem ds_augIx {o i : Expr} {fo fi : EF} {tpos : Pos} (ho : DE X E o fo) (hi : DE X E i fi) (he : DE X E e fe)
    (ha : ∀ ov iv new, augStore i ov iv new = (do holding [new, ov, iv] (setItem ov iv new); release [new, ov, iv] []; pure .next) := by intros; rfl) : DS X E (.AugAssign (.Subscript o i tpos) .Add e pos) (sAugIx fo fi .Add fe) :=
  ps_imp (ps_augS (to := EQ X.KW X.mg E fo) (ti := EQ X.KW X.mg E fi) (te := EQ X.KW X.mg E fe) ho hi get_list he ip_add set_list ha) fun De σ H h => (SKd.step h).imp fun ov H1 ⟨od, q1⟩ => (SKd.step q1).imp fun iv H2 ⟨id, q2⟩ => by
    obtain ⟨ρ, F, env, hp, x, rv, he, hs, e, fl, env', hp', e2, fin⟩ := SKd.rdb q2
    obtain ⟨r1, r2⟩ := rep2 rv
    split at e
    · rename_i ds k hl
      split at e
      · rename_i h0
        obtain ⟨a, ws, rfl, hq, rr⟩ := listOf_at hs r2 hl
        obtain ⟨u, hu, ru⟩ := rr.get e
        refine ⟨a, ws, k, u, rfl, r1, h0, hq, hu, ?_⟩
        have q3 : SKd X.KW X.mg E [x, .int k, od] [u, iv, .ref a] (sE fe fun y env hp => match ipD .Add x y with
          | some z => match setD od (.int k) z hp with
            | some (n, ds) => some (.nx, env, hp.set n (.lst ds))
            | none => none
          | none => none) De σ H2 := ⟨ρ, F, env, hp, fl, env', hp', ⟨u, _, rfl, ru, ⟨iv, _, rfl, r1, ⟨_, _, rfl, r2, rfl⟩⟩⟩, he, hs, e2, fin⟩
        refine (SKd.step q3).imp fun yv H3 ⟨y, q4⟩ => ?_
        obtain ⟨ρ, F, env, hp, fl, env', hp', rd, he, hs, e, fin⟩ := q4
        obtain ⟨yv', t, et, ry, rest⟩ := rd
        cases et
        obtain ⟨rx, ri, ro⟩ := rep3 rest
        cases qi : ipD .Add x y with
        | none => simp only [qi] at e; cases e
        | some z =>
          simp only [qi] at e
          cases qs : setD od (.int k) z hp with
          | none => rw [qs] at e; cases e
          | some p =>
            obtain ⟨n, ds⟩ := p
            rw [qs] at e
            cases e
            obtain ⟨i1, i2, rfl, rfl, rfl⟩ := ipD_add qi
            refine ⟨_, _, rx, ry, ?_⟩
            unfold setD at qs
            split at qs
            · rename_i n' zs k' hc ek
              cases ek
              obtain ⟨a', ws', ea, hρ, hcl, hw, rr⟩ := cellL_at hs ro hc
              cases ea
              cases qj : ixN zs.length k with
              | none => rw [qj] at qs; cases qs
              | some j =>
                rw [qj] at qs
                cases qs
                refine ⟨a, ws', k, j, rfl, ri, hw, by rw [← rr.len]; exact qj, ?_⟩
                obtain ⟨s', x'⟩ := hs.put hρ hcl rfl (.lst (ws'.set j (.int (i1 + i2)))) (.lst (zs.set j (.int (i1 + i2)))) ⟨_, upd_same, rr.set (d := .int (i1 + i2)) rfl j⟩
                exact fin _ _ _ x' s' σ (he.mono x'.same x'.pre)
            · cases qs
      · cases e
    · cases e
end
end HI

namespace HI
open PySem L2 PyProof.Rows
/-! ### a, b, c = x, y, z with three plain local names -/
theorem ps_par3 {X : Cx} {pos : Pos} {i j l : Nat} {x y z : Str} {a b c : Expr} {ta : TA} {px py pz pt : Pos} {kt k2 pt2} (hc : X.calm = true) (hN : X.N.Nodup) (hi : X.N[i]? = some x) (hj : X.N[j]? = some y) (hl : X.N[l]? = some z) (hij : i ≠ j) (hil : i ≠ l) (hjl : j ≠ l)
    (hx : X.env.scope.names.lookup x = some .local) (hy : X.env.scope.names.lookup y = some .local) (hz : X.env.scope.names.lookup z = some .local) (ha : PA X [a, b, c] ta)
    (hw : swappedStores [.Tuple [.Name x px, .Name y py, .Name z pz] kt pt] (.Tuple [a, b, c] k2 pt2) X.env = pure (some [x, y, z]))
    (hs : swapsWithSole [.Tuple [.Name x px, .Name y py, .Name z pz] kt pt] (.Tuple [a, b, c] k2 pt2) pos.line X.env = pure false := by rfl) :
    PS X (.Assign [.Tuple [.Name x px, .Name y py, .Name z pz] kt pt] (.Tuple [a, b, c] k2 pt2) pos) (fun D σ H => ta σ H fun vs H1 => ∃ v w u, vs = [v, w, u] ∧ D.nx (((σ.set i (some v)).set j (some w)).set l (some u)) H1) := by
  refine ⟨fun pins s σ H D I h => ?_⟩
  rw [exec_Assign_arm]
  refine wpAny_bind (wpAny_standAt ?_)
  rw [hs]
  refine wpAny_bind (wpAny_pure ?_)
  rw [if_neg (by decide)]
  refine wpAny_bind (Tuple_ (thn (ha.run _ pins s σ H _ I h) fun us s1 ⟨vs, H1, I1, r1, q1⟩ => ?_))
  obtain ⟨v, w, u, e1, q1⟩ := q1
  subst e1
  obtain ⟨u1, u2, u3, rfl, rv, rw', ru⟩ : ∃ u1 u2 u3, us = [u1, u2, u3] ∧ RelV v u1 ∧ RelV w u2 ∧ RelV u u3 := by
    cases r1 with
    | cons p q =>
      cases q with
      | cons p' q' =>
        cases q' with
        | cons p'' q'' =>
          cases q''
          exact ⟨_, _, _, rfl, p, p', p''⟩
  refine wpAny_newObj_type ?_ (by show 3 ≤ sizeLine; decide)
  have I2 : Inv X pins σ H1 { s1 with heap := s1.heap.push { cls := .type "tuple", data := .seq [u1, u2, u3].toArray } } := I1.kept (t' := s1.toks) fun b o e => Heap.get?_push_of_some _ e
  rw [hw]
  refine wpAny_bind (wpAny_pure ?_)
  show wpAny (model X.prog X.w) X.A (do rule "assign.swapped-stores"; let items ← unpackItems (.ref s1.heap.objs.size) 3 none; assignInOrder [fun v => bindName X.env z v, fun v => bindName X.env y v, fun v => bindName X.env x v] items.reverse; pure Flow.next) _ _ _
  refine wpAny_bind (wpAny_rule (wpAny_bind (unpackItems_tuple (items := #[u1, u2, u3]) (I.ok.hd hc) (IsTup.new s1.heap _) fun h' hx' => ?_)))
  have I3 := I2.kept (h' := h') (t' := s1.toks) fun b o e => hx' b o (Nat.ne_of_lt (Heap.lt_size e)) e
  show wpAny _ _ (assignInOrder [fun v => bindName X.env z v, fun v => bindName X.env y v, fun v => bindName X.env x v] [u3, u2, u1] >>= fun _ => pure Flow.next) _ _ _
  refine wpAny_bind (assignInOrder_cons (wpAny_bindName (store_ok I3 hN hl (.inl hz) ru (fun s2 I4 => ?_) (.inr hz))))
  refine assignInOrder_cons (wpAny_bindName (store_ok I4 hN hj (.inl hy) rw' (fun s2 I5 => ?_) (.inr hy)))
  refine assignInOrder_cons (wpAny_bindName (store_ok I5 hN hi (.inl hx) rv (fun s3 I6 => assignInOrder_nil (wpAny_pure ?_)) (.inr hx)))
  rw [show ((σ.set l (some u)).set j (some w)).set i (some v) = ((σ.set i (some v)).set j (some w)).set l (some u) by
    rw [List.set_comm (some u) (some w) (Ne.symm hjl), List.set_comm (some u) (some v) (Ne.symm hil), List.set_comm (some w) (some v) (Ne.symm hij)]] at I6
  exact ⟨_, H1, I6, q1⟩
def sPar3 (i j l : Nat) (fA : AF) : SF := sE fA fun ds env hp => match ds with
  | [x, y, z] => some (.nx, ((env.set i (some x)).set j (some y)).set l (some z), hp)
  | _ => none
section
variable {X : Cx} {E : XK} {a b c e : Expr} {es : List Expr} {fa fb fc fe : EF} {fA : AF} {pos : Pos}
theorem reps3 {K : KW} {ρ : List Addr} {F : Hp} {d d' d'' : D} {vs : List V} (h : Reps K ρ F [d, d', d''] vs) : ∃ v w u, vs = [v, w, u] ∧ Rep K ρ F d v ∧ Rep K ρ F d' w ∧ Rep K ρ F d'' u := by
  obtain ⟨v, r, rfl, q, h⟩ := h
  obtain ⟨w, u, rfl, q', q''⟩ := reps2 h
  exact ⟨v, w, u, rfl, q, q', q''⟩
theorem ds_par3 {i j l : Nat} {x y z : Str} {px py pz pt : Pos} {kt k2 pt2} (hc : X.calm = true) (hN : X.N.Nodup) (hi : X.N[i]? = some x) (hj : X.N[j]? = some y) (hl : X.N[l]? = some z) (hij : i ≠ j) (hil : i ≠ l) (hjl : j ≠ l)
    (hx : X.env.scope.names.lookup x = some .local) (hy : X.env.scope.names.lookup y = some .local) (hz : X.env.scope.names.lookup z = some .local) (ha : DA X E [a, b, c] fA)
    (hw : swappedStores [.Tuple [.Name x px, .Name y py, .Name z pz] kt pt] (.Tuple [a, b, c] k2 pt2) X.env = pure (some [x, y, z]) := by rfl)
    (hs : swapsWithSole [.Tuple [.Name x px, .Name y py, .Name z pz] kt pt] (.Tuple [a, b, c] k2 pt2) pos.line X.env = pure false := by rfl) :
    DS X E (.Assign [.Tuple [.Name x px, .Name y py, .Name z pz] kt pt] (.Tuple [a, b, c] k2 pt2) pos) (sPar3 i j l fA) :=
  ps_imp (ps_par3 (ta := AQ X.KW X.mg E fA) hc hN hi hj hl hij hil hjl hx hy hz ha hw hs) fun De σ H h => (SKd.stepA h).imp fun ws H1 ⟨ds, q⟩ => by
    obtain ⟨ρ, F, env, hp, fl, env', hp', rd, he, hs, e, fin⟩ := q
    split at e
    · cases e
      obtain ⟨v, w, u, rfl, r1, r2, r3⟩ := reps3 rd
      exact ⟨v, w, u, rfl, fin ρ F H1 (Ext.refl _ _ _) hs _ (((he.set r1 i).set r2 j).set r3 l)⟩
    · cases e
/-! ### in, not in; names in short, defs by name -/
abbrev inY : D → D → Hp8 → Option Bool := fun x y hp => (inD x y hp).map fun k => if false then !k else k
abbrev inN : D → D → Hp8 → Option Bool := fun x y hp => (inD x y hp).map fun k => if true then !k else k
theorem dv (i : Nat) {x : Str} (hN : X.N[i]? = some x := by rfl) (hv : Vis X.env.scope x := by first | exact Or.inl rfl | exact Or.inr (Or.inl rfl) | exact Or.inr (Or.inr rfl)) (hd : (x == ("__debug__" : Str)) = false := by decide)
    (hcd : (x == ("__classdict__" : Str)) = false := by decide) : DE X E (.Name x pos) (sVar i) := de_var hN hv hd hcd
structure Def8 (P : Program) (w : World) (K : PySem.W.Frag) (mg : Str → Option Value) (base : Heap) (k : Nat) (x : Str) (ps : List Str) (G : List D → Hp8 → Option (Res D × Hp8)) : Prop where
  ex : ∃ f fd, Fn8 P w K mg base k f fd ps G ∧ mg x = some (.ref f) ∧ PySem.W.keepIn K (.ref f) = true ∧ Binds K fd ps []
theorem de_fn {k : Nat} {x : Str} {ps : List Str} {G : List D → Hp8 → Option (Res D × Hp8)} {p : Pos} (F : Def8 X.prog X.w X.K X.mg X.base k x ps G) (hr : Room k X.A) (hx : Passes (L2.CX X.prog X.w) X E) (ha : DA X E (e :: es) fA) (hg : Gl X x := by rfl)
    (hdb : (x == ("__debug__" : Str)) = false := by decide) (he : starEach (e :: es) X.env = (false, eval e X.env) :: starEach es X.env := by rfl) (hpl : (backTo pos (starEach es X.env)).any (·.1) = false := by rfl) :
    DE X E (.Call (.Name x p) (e :: es) [] pos) (sCallD G fA) := by
  obtain ⟨f, fd, h1, h2, h3, h4⟩ := F.ex
  exact de_call h1 hr hg h2 h3 h4 hx ha hdb he hpl
theorem de_fn0 {k : Nat} {x : Str} {ps : List Str} {G : List D → Hp8 → Option (Res D × Hp8)} {p : Pos} (F : Def8 X.prog X.w X.K X.mg X.base k x ps G) (hr : Room k X.A) (hx : Passes (L2.CX X.prog X.w) X E) (hg : Gl X x := by rfl)
    (hdb : (x == ("__debug__" : Str)) = false := by decide) : DE X E (.Call (.Name x p) [] [] pos) (sCallD G sNil) := by
  obtain ⟨f, fd, h1, h2, h3, h4⟩ := F.ex
  exact de_call0 h1 hr hg h2 h3 h4 hx hdb
/-- the built-in names that the program leaves as they are -/
structure NoB (mg : Str → Option Value) : Prop where
  len : mg "len" = none
  max : mg "max" = none
  min : mg "min" = none
  list : mg "list" = none
  tuple : mg "tuple" = none
  all : mg "all" = none
  any : mg "any" = none
  isinstance : mg "isinstance" = none
  int : mg "int" = none
  bool : mg "bool" = none
  str : mg "str" = none
  range : mg "range" = none
  enumerate : mg "enumerate" = none
  zip : mg "zip" = none
  sum : mg "sum" = none
  sorted : mg "sorted" = none
  abs : mg "abs" = none
  dict : mg "dict" = none
theorem boot_int' : bootBuiltins "int" = some (.type "int") := by decide +kernel
theorem boot_bool' : bootBuiltins "bool" = some (.type "bool") := by decide +kernel
theorem boot_str' : bootBuiltins "str" = some (.type "str") := by decide +kernel
/-! ### a module's constants -/
theorem de_gint {x : Str} {i : Int} {t : Tok} (hm : X.mg x = some (.int i t)) (hg : Gl X x := by rfl) (hd : (x == ("__debug__" : Str)) = false := by decide) : DE X E (.Name x pos) (pur (.int i)) := de_const (pe_glob (v := .int i) hg hm ⟨_, rfl⟩ hd) fun _ _ => rfl
theorem de_gstr {x : Str} {z : Str} {t : Tok} (hm : X.mg x = some (.str z t)) (hg : Gl X x := by rfl) (hd : (x == ("__debug__" : Str)) = false := by decide) : DE X E (.Name x pos) (pur (.str z)) := de_const (pe_glob (v := .str z) hg hm ⟨_, rfl⟩ hd) fun _ _ => rfl
/-- a tuple of texts of the top -/
structure GTup (K : PySem.W.Frag) (mg : Str → Option Value) (x : Str) (zs : List Str) : Prop where
  ex : ∃ a, mg x = some (.ref a) ∧ SqT K (fun _ => none) a (zs.map V.str)
theorem reps_strs {K : KW} {ρ : List Addr} {F : Hp} : ∀ zs : List Str, Reps K ρ F (zs.map D.str) (zs.map V.str)
  | [] => rfl
  | z :: zs => ⟨.str z, _, rfl, rfl, reps_strs zs⟩
theorem de_gtup {x : Str} {zs : List Str} (T : GTup X.K X.mg x zs) (hz : pl (zs.map .str) = false := by rfl) (hg : Gl X x := by rfl) (hd : (x == ("__debug__" : Str)) = false := by decide) : DE X E (.Name x pos) (pur (.tup (zs.map .str))) := by
  obtain ⟨a, h1, h2⟩ := T.ex
  exact de_const (pe_glob (v := .ref a) hg h1 rfl hd) fun ρ F => ⟨a, zs.map V.str, rfl, Same.tupS (fun _ _ z => by cases z) h2, reps_strs zs, fun z => by rw [hz] at z; cases z⟩
end
end HI

namespace HI
open PySem L2 PyProof.Rows
def fuel8 : Nat := 1000000000000
/-! ### a def that is given no cell -/
def pureOf (g : List D → Hp8 → Option (Res D × Hp8)) : List D → Option (Res D) := fun ds => if closeds ds then match g ds [] with
    | some (r0, hp0) => unrefR hp0 r0
    | none => none else none
def pureG (g : List D → Hp8 → Option (Res D × Hp8)) : List D → Hp8 → Option (Res D × Hp8) := lift0 (pureOf g)
theorem pureG_of {g : List D → Hp8 → Option (Res D × Hp8)} {ds : List D} {r0 r : Res D} {hp0 hp : Hp8} (hc : closeds ds = true) (h : g ds [] = some (r0, hp0)) (hu : unrefR hp0 r0 = some r) : pureG g ds hp = some (r, hp) := by
  simp [pureG, lift0, pureOf, hc, h, hu]
mutual
theorem Rep.unref2 {K : KW} {ρ ρ0 : List Addr} {F F2 : Hp} {hp : Hp8} (sm : Same F F2) (hc : ∀ (n : Nat) (ds : List D) (a : Addr), hp[n]? = some (.lst ds) → ρ[n]? = some a → ∃ vs, F2 a = some (.lst vs) ∧ Reps K ρ F ds vs) (hc2 : ∀ (n : Nat) (ks vs : List D) (a : Addr), hp[n]? = some (.dn ks vs) → ρ[n]? = some a → ∃ kas ws, F2 a = some (dnO K.2 a kas ws) ∧ nkDs ks = some (kas.map (·.1)) ∧ Reps K ρ F ks (kas.map fun x => V.ref x.2) ∧ Reps K ρ F vs ws) : ∀ (d e : D) (v : V), HI.unref hp d = some e → Rep K ρ F d v → Rep K ρ0 F2 e v
  | .non, e, v, h, r => by cases h; exact r
  | .bl _, e, v, h, r => by cases h; exact r
  | .int _, e, v, h, r => by cases h; exact r
  | .str _, e, v, h, r => by cases h; exact r
  | .scr ns, e, v, h, r => by
    cases h
    exact Rep.shift (ρ := ρ) _ _ rfl (Rep.mono sm (List.prefix_refl _) _ _ r)
  | .tup ds, e, v, h, r => by
    obtain ⟨a, vs, ev, q, r, pr⟩ := r
    cases q' : unrefs hp ds with
    | none => simp [HI.unref, q'] at h
    | some es =>
      simp [HI.unref, q'] at h
      subst h
      exact ⟨a, vs, ev, Same.tupS sm q, Reps.unref2 sm hc hc2 ds es vs q' r, fun z => (pr (pl_unrefs q' z)).mono sm⟩
  | .lst ds, e, v, h, r => by
    simp only [HI.unref] at h
    split at h
    · rename_i c
      cases h
      exact Rep.shift (ρ := ρ) _ _ c (Rep.mono sm (List.prefix_refl _) _ _ r)
    · cases h
  | .ref n, e, v, h, r => by
    obtain ⟨a, ev, q⟩ := r
    simp only [HI.unref] at h
    split at h
    · rename_i ds hd
      split at h
      · rename_i c
        cases h
        obtain ⟨vs, hv, rv⟩ := hc n _ a hd q
        exact ⟨a, vs, ev, hv, Reps.shift (ρ := ρ) _ _ c (Reps.mono sm (List.prefix_refl _) _ _ rv)⟩
      · cases h
    · rename_i ks vs hd
      split at h
      · rename_i c
        cases h
        rw [Bool.and_eq_true] at c
        obtain ⟨kas, ws, hv, h1, h2, h3⟩ := hc2 n _ _ a hd q
        exact ⟨a, kas, ws, ev, hv, h1, Reps.shift (ρ := ρ) _ _ c.1 (Reps.mono sm (List.prefix_refl _) _ _ h2), Reps.shift (ρ := ρ) _ _ c.2 (Reps.mono sm (List.prefix_refl _) _ _ h3)⟩
      · cases h
    · cases h
  | .dn ks vs, e, v, h, r => by
    simp only [HI.unref] at h
    split at h
    · rename_i c
      cases h
      exact Rep.shift (ρ := ρ) _ _ c (Rep.mono sm (List.prefix_refl _) _ _ r)
    · cases h
theorem Reps.unref2 {K : KW} {ρ ρ0 : List Addr} {F F2 : Hp} {hp : Hp8} (sm : Same F F2) (hc : ∀ (n : Nat) (ds : List D) (a : Addr), hp[n]? = some (.lst ds) → ρ[n]? = some a → ∃ vs, F2 a = some (.lst vs) ∧ Reps K ρ F ds vs) (hc2 : ∀ (n : Nat) (ks vs : List D) (a : Addr), hp[n]? = some (.dn ks vs) → ρ[n]? = some a → ∃ kas ws, F2 a = some (dnO K.2 a kas ws) ∧ nkDs ks = some (kas.map (·.1)) ∧ Reps K ρ F ks (kas.map fun x => V.ref x.2) ∧ Reps K ρ F vs ws) : ∀ (ds es : List D) (vs : List V), HI.unrefs hp ds = some es → Reps K ρ F ds vs → Reps K ρ0 F2 es vs
  | [], es, vs, h, r => by cases h; exact r
  | d :: ds, es, vs, h, r => by
    obtain ⟨v, w, ev, r1, r2⟩ := r
    simp only [HI.unrefs] at h
    split at h
    · rename_i e' es' h1 h2
      cases h
      exact ⟨v, w, ev, Rep.unref2 sm hc hc2 d e' v h1 r1, Reps.unref2 sm hc hc2 ds es' w h2 r2⟩
    · cases h
end
/-- a def that is given (script, town, ..): the town is the one cell -/
def townG (g : List D → Hp8 → Option (Res D × Hp8)) : List D → Hp8 → Option (Res D × Hp8) := fun ds hp => match ds with
  | s :: .ref n :: rest => match hp[n]? with
    | some (.lst ts) => if closed s && closeds rest && closeds ts then match g (s :: .ref 0 :: rest) [.lst ts] with
        | some (r0, .lst ts' :: hp0) => if closeds ts' then match unrefR (.dead :: hp0) r0 with
          | some r => some (r, hp.set n (.lst ts'))
          | none => none else none
        | _ => none else none
    | _ => none
  | _ => none
section
variable {P : Program} {w : World} {K : PySem.W.Frag} {mg : Str → Option Value} {base : Heap} {f : Addr} {fd : FuncData} {ps : List Str} {k : Nat} {g : List D → Hp8 → Option (Res D × Hp8)}
theorem Fn8.pureG (F : Fn8 P w K mg base k f fd ps g) : Fn8 P w K mg base k f fd ps (pureG g) :=
  Fn8.pure F fun ds r e => by
    unfold pureOf at e
    split at e
    · rename_i hc
      split at e
      · rename_i r0 hp0 h
        exact ⟨hc, r0, hp0, h, e⟩
      · cases e
    · cases e
theorem closeds_cons {d : D} {ds : List D} : closeds (d :: ds) = (closed d && closeds ds) := rfl
theorem Fn8.townG (Fo : Fn8 P w K mg base k f fd ps g) : Fn8 P w K mg base k f fd ps (townG g) :=
  FnOk.imp Fo fun vs H Q E ⟨ρ, F, hp, ds, r, hp', rd, hs, e, fin⟩ => by
    unfold HI.townG at e
    split at e
    · rename_i sD n rest
      split at e
      · rename_i ts hcell
        split at e
        · rename_i hc
          rw [Bool.and_eq_true, Bool.and_eq_true] at hc
          split at e
          · rename_i r0 ts' hp0 h0
            split at e
            · rename_i hc'
              split at e
              · rename_i r1 hu
                cases e
                obtain ⟨v1, t1, rfl, rs, rd⟩ := rd
                obtain ⟨v2, t2, rfl, ⟨a, rfl, ha⟩, rr⟩ := rd
                obtain ⟨ws, hw, rw⟩ := hs.cell n _ a hcell ha
                have haρ : a ∈ ρ := List.mem_of_getElem? ha
                have hFa := hs.out n _ a hcell ha rfl
                refine ⟨[a], F, [.lst ts], sD :: .ref 0 :: rest, r0, .lst ts' :: hp0, ⟨v1, _, rfl, Rep.shift _ _ hc.1.1 rs, ⟨.ref a, t2, rfl, ⟨a, rfl, rfl⟩, Reps.shift _ _ hc.1.2 rr⟩⟩, ⟨hs.sub, by simp, rfl, fun m c b h1 h2 h3 => ?_, fun b hb => ?_, fun m c b h1 h2 => ?_⟩, h0, fun ρ' F' H' x s' => ?_⟩
                · cases m with
                  | zero => simp at h2; subst h2; exact hFa
                  | succ m => simp at h1
                · simp at hb; subst hb; rw [hw]; exact fun z => by cases z
                · cases m with
                  | zero =>
                    simp at h1 h2
                    subst h1 h2
                    exact ⟨ws, hw, Reps.shift _ _ hc.2 rw⟩
                  | succ m => simp at h1
                -- back in the caller
                have ha' : ρ'[0]? = some a := pre_get x.pre rfl
                obtain ⟨ws', hw', rw'⟩ := s'.cell 0 _ a rfl ha'
                have hF'a := s'.out 0 _ a rfl ha' rfl
                have inr : ∀ b, b ∈ ρ' → b = a ∨ H b = none := fun b hb => (x.fresh b hb).elim (fun z => .inl (by simpa using z)) .inr
                have nr : ∀ b, b ∈ ρ → b ≠ a → b ∉ ρ' := fun b hb hne z => (inr b z).elim hne (hs.live b hb)
                let F2 : Hp := fun b => if b = a then none else frzAll ρ' F' H' b
                have sm' : Same F' F2 := fun b u eb => by
                  have hba : b ≠ a := fun z => by rw [z, hF'a] at eb; cases eb
                  show (if b = a then none else frzAll ρ' F' H' b) = some u
                  rw [if_neg hba]
                  exact frzAll_same s' b u eb
                have sm : Same F F2 := x.same.trans sm'
                have keep : ∀ b o, H b = some o → F b = none → b ≠ a → F2 b = none ∧ H' b = some o := fun b o ho hf hba => by
                  obtain ⟨n', ho'⟩ := x.keep b o ho hf (by simpa using hba)
                  have nb : b ∉ ρ' := fun z => (inr b z).elim hba fun q => by rw [ho] at q; cases q
                  refine ⟨?_, ho'⟩
                  show (if b = a then none else frzAll ρ' F' H' b) = none
                  rw [if_neg hba]
                  simp [frzAll, nb, n']
                have ext : Ext ρ ρ F H F2 H' := ⟨List.prefix_refl _, sm, fun b o ho hf hr => keep b o ho hf fun z => hr (z ▸ haρ), fun b hb => .inl hb⟩
                have hn : n < hp.length := (List.getElem?_eq_some_iff.mp hcell).1
                have sim : Sim (K, w) ρ F2 H' (hp.set n (.lst ts')) := by
                  refine ⟨fun b u eb => ?_, hs.nd, by simp [hs.len], fun m c b h1 h2 h3 => ?_, fun b hb => ?_, fun m c b h1 h2 => ?_⟩
                  · have eb : (if b = a then none else frzAll ρ' F' H' b) = some u := eb
                    split at eb
                    · cases eb
                    · unfold frzAll at eb
                      split at eb
                      · split at eb
                        · rename_i vs hv
                          rw [hv]
                          exact eb
                        · rename_i vs hv
                          rw [hv]
                          exact eb
                        · exact s'.sub _ _ eb
                      · exact s'.sub _ _ eb
                  · by_cases hm : m = n
                    · subst hm
                      rw [ha] at h2
                      cases h2
                      show (if a = a then none else _) = none
                      rw [if_pos rfl]
                    · rw [List.getElem?_set_ne (Ne.symm hm)] at h1
                      have hb : b ∈ ρ := List.mem_of_getElem? h2
                      have hba : b ≠ a := by
                        rintro rfl
                        obtain ⟨h31, h32⟩ := List.getElem?_eq_some_iff.mp h2
                        obtain ⟨h41, h42⟩ := List.getElem?_eq_some_iff.mp ha
                        exact hm ((List.getElem_inj hs.nd).mp (h32.trans h42.symm))
                      cases q : H b with
                      | none => exact absurd q (hs.live b hb)
                      | some o => exact (keep b o q (hs.out m c b h1 h2 h3) hba).1
                  · by_cases hba : b = a
                    · subst hba
                      rw [hw']
                      exact fun z => by cases z
                    · cases q : H b with
                      | none => exact absurd q (hs.live b hb)
                      | some o =>
                        cases qf : F b with
                        | none =>
                          rw [(keep b o q qf hba).2]
                          exact fun z => by cases z
                        | some u =>
                          rw [s'.sub _ _ (x.same _ _ qf)]
                          exact fun z => by cases z
                  · by_cases hm : m = n
                    · subst hm
                      rw [ha] at h2
                      cases h2
                      rw [List.getElem?_set_self hn] at h1
                      cases h1
                      exact ⟨ws', hw', Reps.shift (ρ := ρ') _ _ hc' (Reps.mono sm' (List.prefix_refl _) _ _ rw')⟩
                    · rw [List.getElem?_set_ne (Ne.symm hm)] at h1
                      have hb : b ∈ ρ := List.mem_of_getElem? h2
                      have hba : b ≠ a := by
                        rintro rfl
                        obtain ⟨h31, h32⟩ := List.getElem?_eq_some_iff.mp h2
                        obtain ⟨h41, h42⟩ := List.getElem?_eq_some_iff.mp ha
                        exact hm ((List.getElem_inj hs.nd).mp (h32.trans h42.symm))
                      have eqH : c.live = true → H' b = H b := fun hl => by
                        cases q : H b with
                        | none => exact absurd q (hs.live b hb)
                        | some o => exact (keep b o q (hs.out m c b h1 h2 hl) hba).2
                      cases c with
                      | dead => trivial
                      | lst l => exact (hs.cell m _ b h1 h2).mono sm (List.prefix_refl _) (eqH rfl)
                      | dic l => exact (hs.cell m _ b h1 h2).mono sm (List.prefix_refl _) (eqH rfl)
                      | dn _ _ => exact (hs.cell m _ b h1 h2).mono sm (List.prefix_refl _) (eqH rfl)
                have f2 := fin ρ F2 H' ext sim
                cases r0 with
                | exc c => cases hu; exact f2
                | ok d =>
                  intro v rv
                  cases qd : unref (.dead :: hp0) d with
                  | none => simp [unrefR, qd] at hu
                  | some d1 =>
                    simp [unrefR, qd] at hu
                    subst hu
                    have nba : ∀ (m : Nat) (b : Addr), ρ'[m + 1]? = some b → b ≠ a := fun m b h2 => by
                      rintro rfl
                      obtain ⟨h31, h32⟩ := List.getElem?_eq_some_iff.mp h2
                      obtain ⟨h41, h42⟩ := List.getElem?_eq_some_iff.mp ha'
                      exact absurd ((List.getElem_inj s'.nd).mp (h32.trans h42.symm)) (by omega)
                    refine f2 v (Rep.unref2 sm' (fun m ds b h1 h2 => ?_) (fun m ks vs b h1 h2 => ?_) d d1 v qd rv)
                    · cases m with
                      | zero => cases h1
                      | succ m =>
                        obtain ⟨vs, hv, rvs⟩ := s'.cell (m + 1) (.lst ds) b h1 h2
                        refine ⟨vs, ?_, rvs⟩
                        have hba := nba m b h2
                        show (if b = a then none else frzAll ρ' F' H' b) = _
                        rw [if_neg hba]
                        simp [frzAll, List.mem_of_getElem? h2, hv]
                    · cases m with
                      | zero => cases h1
                      | succ m =>
                        obtain ⟨kas, ws, hv, q1, q2, q3⟩ := s'.cell (m + 1) (.dn ks vs) b h1 h2
                        refine ⟨kas, ws, ?_, q1, q2, q3⟩
                        have hba := nba m b h2
                        show (if b = a then none else frzAll ρ' F' H' b) = _
                        rw [if_neg hba]
                        simp [frzAll, List.mem_of_getElem? h2, hv, dnO]
              · cases e
            · cases e
          · cases e
        · cases e
      · cases e
    · cases e
end
end HI

namespace HI
open PySem L2 PyProof.Rows
/-! ### the end -/
structure GInt (mg : Str → Option Value) (x : Str) (i : Int) : Prop where
  ex : ∃ t, mg x = some (.int i t)
structure GStr (mg : Str → Option Value) (x z : Str) : Prop where
  ex : ∃ t, mg x = some (.str z t)
section
variable {X : Cx} {E : XK} {pos : Pos}
theorem de_gi {x : Str} {i : Int} (h : GInt X.mg x i) (hg : Gl X x := by rfl) (hd : (x == ("__debug__" : Str)) = false := by decide) : DE X E (.Name x pos) (pur (.int i)) := by
  obtain ⟨t, e⟩ := h.ex
  exact de_gint e hg hd
theorem de_gs {x z : Str} (h : GStr X.mg x z) (hg : Gl X x := by rfl) (hd : (x == ("__debug__" : Str)) = false := by decide) : DE X E (.Name x pos) (pur (.str z)) := by
  obtain ⟨t, e⟩ := h.ex
  exact de_gstr e hg hd
end
theorem gtup3 {K : PySem.W.Frag} {mg : Str → Option Value} {x a b c : Str} {p : Addr} {ta tb tc : Tok} {od : Option Addr} {n : Nat} {sl : Array (Option Value)} (h : mg x = some (.ref p)) (l : K.lookup p = some ⟨.type "tuple", od, .seq #[.str a ta, .str b tb, .str c tc] n, sl⟩) : GTup K mg x [a, b, c] :=
  ⟨p, h, .inr ⟨_, _, n, l, rfl, rfl, by show 3 ≤ sizeLine; decide, .cons ⟨ta, rfl⟩ (.cons ⟨tb, rfl⟩ (.cons ⟨tc, rfl⟩ .nil))⟩⟩
theorem gtup4 {K : PySem.W.Frag} {mg : Str → Option Value} {x a b c d : Str} {p : Addr} {ta tb tc td : Tok} {od : Option Addr} {n : Nat} {sl : Array (Option Value)} (h : mg x = some (.ref p)) (l : K.lookup p = some ⟨.type "tuple", od, .seq #[.str a ta, .str b tb, .str c tc, .str d td] n, sl⟩) : GTup K mg x [a, b, c, d] :=
  ⟨p, h, .inr ⟨_, _, n, l, rfl, rfl, by show 4 ≤ sizeLine; decide, .cons ⟨ta, rfl⟩ (.cons ⟨tb, rfl⟩ (.cons ⟨tc, rfl⟩ (.cons ⟨td, rfl⟩ .nil)))⟩⟩
def spLaw (K : PySem.W.Frag) : Sp := fun vs H Q _ => ∃ (a : Addr) (ns : List Int), vs = [.ref a] ∧ SqL K H a (ns.map V.int) ∧ ns.length ≤ 63 ∧ ∀ H', Q (.bl true) H'
theorem law_fn {P : Program} {w : World} {K : PySem.W.Frag} {mg : Str → Option Value} {base : Heap} {k : Nat} {f : Addr} {fd : FuncData} {ps : List Str} {g : List D → Hp8 → Option (Res D × Hp8)} (F : Fn8 P w K mg base k f fd ps g)
    (h : ∀ ns : List Int, ns.length ≤ 63 → ∃ hp, g [.scr ns] [] = some (.ok (.bl true), hp)) : FnOk P w K mg base (L2.CX P w) k f fd ps (spLaw K) :=
  FnOk.imp F fun vs H Q E ⟨a, ns, ev, hS, hl, hq⟩ => by
    subst ev
    obtain ⟨hp, e⟩ := h ns hl
    exact ⟨[], H, [], [.scr ns], .ok (.bl true), hp, ⟨_, _, rfl, ⟨a, rfl, hS⟩, rfl⟩, ⟨Same.refl _, by simp, rfl, fun n c a h => by simp at h, fun a ha => by simp at ha, fun n c a h => by simp at h⟩, e, fun ρ' F' H' x s v r => by rw [show v = _ from r]; exact hq H'⟩
theorem walk8 {l : PySem.W.OpenLaw} {q : Program} {loose : List Str} {XP : (Str → Option Value) → Heap → Prop} {YP : World → Heap → Prop} {d : DefRec} {K : Params → PySem.W.Frag} {k : Nat} (hk : k ≤ 100) (hn : l.most = some 63) (hdf : d.params.defaults = [])
    (hY : ∀ (w : World) (h : Heap), YP w h → (K w.params).In h)
    (F : ∀ (w : World) (mg : Str → Option Value) (fa : Addr) (h : Heap), (K w.params).In h → h.Ns mainGlobals mg → mg d.name = some (.ref fa) →
      ∃ fd : FuncData, (∀ (s : Shared) (u : Value), BindsTo s fd ⟨[u], []⟩ [("script", u)]) ∧ ∀ base : Heap, (K w.params).In base → base.Ns mainGlobals mg → FnOk l.prog w (K w.params) mg base (L2.CX l.prog w) k fa fd ["script"] (spLaw (K w.params))) :
    PySem.W.WalkO q loose XP YP l.row.toRowW d [] (fun f vs => PySem.call f vs) :=
  L2.walk_of (n := 63) (k := k) (x := "script") (CX := fun w => L2.CX l.prog w) (sp := fun w => spLaw (K w.params)) hn (by decide) hdf (Room.mono (k := 100) ⟨rfl, by decide, by decide⟩ hk) hY F (fun _ _ a ns hl _ hS => ⟨a, ns, rfl, hS, hl, fun _ => rfl⟩) fun _ _ _ _ _ z => by
    obtain ⟨_, _, _, _, _, _, _, _, _, _, _, _, z⟩ := z
    exact z
/-- a def as it stands behind the top, with its promise over every base -/
theorem def_mk {P : Program} {w : World} {K : PySem.W.Frag} {mg : Str → Option Value} {base : Heap} {k : Nat} {x : Str} {f : Addr} {fd : FuncData} {ps : List Str} {G : List D → Hp8 → Option (Res D × Hp8)} (F : Fn8 P w K mg base k f fd ps G) (hm : mg x = some (.ref f)) (hk : PySem.W.keepIn K (.ref f) = true) (hb : Binds K fd ps []) : Def8 P w K mg base k x ps G := ⟨f, fd, F, hm, hk, hb⟩
end HI

namespace HI
open PySem L2 PyProof.Rows
section
variable {α β : Type} {fa fb fc fe : EF} {ft fu : TF} {f g : SF} {env : Env8} {hp : Hp8} {fA : AF} {d : D}
/-! what follows a step, once the step's outcome is known -/
def bndK {α β : Type} (r : Option (Res α × Hp8)) (k : α → GF β) (env : Env8) : Option (Res β × Hp8) := match r with
  | some (.ok d, hp1) => k d env hp1
  | some (.exc c, hp1) => some (.exc c, hp1)
  | none => none
@[simp] theorem bndK_ok {d : α} {k : α → GF β} : bndK (some (.ok d, hp)) k env = k d env hp := rfl
@[simp] theorem bndK_exc {c : Str} {k : α → GF β} : bndK (some (.exc c, hp)) k env = some (.exc c, hp) := rfl
@[simp] theorem bndK_none {k : α → GF β} : bndK none k env = none := rfl
@[simp] theorem e_bnd {fa : GF α} {k : α → GF β} : bnd fa k env hp = bndK (fa env hp) k env := rfl
@[simp] theorem e_pur {a : α} : pur a env hp = some (.ok a, hp) := rfl
def rdK {α : Type} (r : Option α) (hp : Hp8) : Option (Res α × Hp8) := match r with
  | some a => some (.ok a, hp)
  | none => none
@[simp] theorem rdK_some {a : α} : rdK (some a) hp = some (.ok a, hp) := rfl
@[simp] theorem rdK_none : rdK (α := α) none hp = none := rfl
@[simp] theorem e_rd {h : Hp8 → Option α} : rd h env hp = rdK (h hp) hp := rfl
def varK (r : Option (Option D)) (hp : Hp8) : Option (Res D × Hp8) := match r with
  | some (some d) => some (.ok d, hp)
  | _ => none
@[simp] theorem varK_some : varK (some (some d)) hp = some (.ok d, hp) := rfl
@[simp] theorem e_sVar {i : Nat} : sVar i env hp = varK env[i]? hp := rfl
@[simp] theorem e_sOp {h : D → D → EF} : sOp h fa fb env hp = bndK (fa env hp) (fun x => bnd fb fun y => h x y) env := rfl
@[simp] theorem e_sRd2 {h : D → D → Hp8 → Option D} {x y : D} : sRd2 h x y env hp = rdK (h x y hp) hp := rfl
@[simp] theorem e_sCmp {h : D → D → Hp8 → Option Bool} {x y : D} : sCmp h x y env hp = rdK ((h x y hp).map D.bl) hp := rfl
@[simp] theorem e_sAdd : sAdd fa fb env hp = sOp (sRd2 addD) fa fb env hp := rfl
@[simp] theorem e_sSub : sSub fa fb env hp = sOp (sRd2 subD) fa fb env hp := rfl
@[simp] theorem e_sMod : sMod fa fb env hp = sOp (sRd2 modD) fa fb env hp := rfl
@[simp] theorem e_sFdiv : sFdiv fa fb env hp = sOp (sRd2 fdivD) fa fb env hp := rfl
@[simp] theorem e_sPow : sPow fa fb env hp = sOp (sRd2 powD) fa fb env hp := rfl
@[simp] theorem e_sMul : sMul fa fb env hp = sOp (sRd2 mulD) fa fb env hp := rfl
@[simp] theorem e_sIx : sIx fa fb env hp = sOp (sRd2 ixD) fa fb env hp := rfl
def negD : D → Option D
  | .int i => some (.int (-i))
  | _ => none
@[simp] theorem negD_i {i : Int} : negD (.int i) = some (.int (-i)) := rfl
@[simp] theorem e_sNeg : sNeg fa env hp = bndK (fa env hp) (fun x => rd fun _ => negD x) env := by
  simp only [sNeg, negD] <;> rfl
def blD : D → Option Bool
  | .bl b => some b
  | _ => none
@[simp] theorem blD_b {b : Bool} : blD (.bl b) = some b := rfl
@[simp] theorem e_sTst : sTst fa env hp = bndK (fa env hp) (fun x => rd fun _ => blD x) env := by
  simp only [sTst, blD] <;> rfl
@[simp] theorem e_sChain {h h' : D → D → Hp8 → Option Bool} : sChain h h' fa fb fc env hp = bndK (fa env hp) (fun x => bnd fb fun y => bnd (rd (h x y)) fun k => if k then bnd fc fun z => sCmp h' y z else pur (.bl false)) env := rfl
@[simp] theorem e_tfNot : tfNot ft env hp = bndK (ft env hp) (fun b => pur (!b)) env := rfl
@[simp] theorem e_tfAnd : tfAnd ft fu env hp = bndK (ft env hp) (fun b => if b then fu else pur false) env := rfl
@[simp] theorem e_tfOr : tfOr ft fu env hp = bndK (ft env hp) (fun b => if b then pur true else fu) env := rfl
@[simp] theorem e_sAnd : sAnd fa fb env hp = bndK (sTst fa env hp) (fun b => if b then fb else pur (.bl false)) env := rfl
@[simp] theorem e_sOr : sOr fa fb env hp = bndK (sTst fa env hp) (fun b => if b then pur (.bl true) else fb) env := rfl
@[simp] theorem e_sNot : sNot fa env hp = bndK (sTst fa env hp) (fun b => pur (.bl (!b))) env := rfl
@[simp] theorem e_sIf : sIf ft fa fb env hp = bndK (ft env hp) (fun b => if b then fa else fb) env := rfl
@[simp] theorem e_sNil : sNil env hp = some (.ok [], hp) := rfl
@[simp] theorem e_sCons {fr : AF} : sCons fa fr env hp = bndK (fa env hp) (fun x => bnd fr fun xs => pur (x :: xs)) env := rfl
@[simp] theorem e_sTup : sTup fA env hp = bndK (fA env hp) (fun xs => rd fun _ => if xs.length ≤ 1000 then some (.tup xs) else none) env := rfl
@[simp] theorem e_sLst : sLst fA env hp = bndK (fA env hp) (fun xs => rd fun _ => if xs.length ≤ 1000 then some (.lst xs) else none) env := rfl
@[simp] theorem e_sLstC : sLstC fA env hp = bndK (fA env hp) (fun xs => if xs.length ≤ 1000 then mkCell (.lst xs) else fun _ _ => none) env := rfl
@[simp] theorem e_mkCell {c : Cell} : mkCell c env hp = some (.ok (.ref hp.length), hp ++ [c]) := rfl
def partD : D → Option (Option Int)
  | .int i => some (some i)
  | _ => none
@[simp] theorem partD_i {i : Int} : partD (.int i) = some (some i) := rfl
@[simp] theorem e_sPart : sPart fa env hp = bndK (fa env hp) (fun x => rd fun _ => partD x) env := by
  simp only [sPart, partD] <;> rfl
@[simp] theorem e_sSl {fl fh : GF (Option Int)} : sSl fa fl fh env hp = bndK (fa env hp) (fun x => bnd fl fun lo => bnd fh fun hi => rd (slD x lo hi)) env := rfl
@[simp] theorem e_sCall {h : List D → EF} : sCall h fA env hp = bndK (fA env hp) h env := rfl
@[simp] theorem e_g1 {h : D → Hp8 → Option D} {d : D} : g1 h [d] env hp = rdK (h d hp) hp := rfl
@[simp] theorem e_g2 {h : D → D → Hp8 → Option D} {d e : D} : g2 h [d, e] env hp = rdK (h d e hp) hp := rfl
@[simp] theorem e_sLen : sLen fA env hp = sCall (g1 lenD) fA env hp := rfl
@[simp] theorem e_sMax2 : sMax2 fA env hp = sCall (g2 maxD) fA env hp := rfl
@[simp] theorem e_sMin2 : sMin2 fA env hp = sCall (g2 minD) fA env hp := rfl
@[simp] theorem e_sList : sList fA env hp = sCall (g1 listD) fA env hp := rfl
@[simp] theorem e_sTuple : sTuple fA env hp = sCall (g1 tupleD) fA env hp := rfl
@[simp] theorem e_sAll : sAll fA env hp = sCall (g1 allD) fA env hp := rfl
@[simp] theorem e_sAny : sAny fA env hp = sCall (g1 anyD) fA env hp := rfl
def isiD (T : String) (x : D) (hp : Hp8) : Option D := match tyD hp x with
  | some t => (kitB t T).map .bl
  | none => none
theorem isiD_of {T t : String} {x : D} (h : tyD hp x = some t) : isiD T x hp = (kitB t T).map .bl := by simp [isiD, h]
@[simp] theorem e_sIsi {T : String} : sIsi T fa env hp = bndK (fa env hp) (fun x => rd (isiD T x)) env := rfl
@[simp] theorem e_sCallD {G : List D → Hp8 → Option (Res D × Hp8)} : sCallD G fA env hp = bndK (fA env hp) (fun ds _ hp => G ds hp) env := rfl
@[simp] theorem e_sSkip : sSkip env hp = some (.nx, env, hp) := rfl
def seqK (r : Option (Fl × Env8 × Hp8)) (g : SF) : Option (Fl × Env8 × Hp8) := match r with
  | some (.nx, env1, hp1) => g env1 hp1
  | r => r
@[simp] theorem seqK_nx : seqK (some (.nx, env, hp)) g = g env hp := rfl
@[simp] theorem seqK_rt : seqK (some (.rt d, env, hp)) g = some (.rt d, env, hp) := rfl
@[simp] theorem seqK_ex {c : Str} : seqK (some (.ex c, env, hp)) g = some (.ex c, env, hp) := rfl
@[simp] theorem seqK_bk : seqK (some (.bk, env, hp)) g = some (.bk, env, hp) := rfl
@[simp] theorem seqK_ct : seqK (some (.ct, env, hp)) g = some (.ct, env, hp) := rfl
@[simp] theorem seqK_none : seqK none g = none := rfl
@[simp] theorem e_sSeq : sSeq f g env hp = seqK (f env hp) g := rfl
def eK {α : Type} (r : Option (Res α × Hp8)) (k : α → SF) (env : Env8) : Option (Fl × Env8 × Hp8) := match r with
  | some (.ok d, hp1) => k d env hp1
  | some (.exc c, hp1) => some (.ex c, env, hp1)
  | none => none
@[simp] theorem eK_ok {a : α} {k : α → SF} : eK (some (.ok a, hp)) k env = k a env hp := rfl
@[simp] theorem eK_exc {c : Str} {k : α → SF} : eK (some (.exc c, hp)) k env = some (.ex c, env, hp) := rfl
@[simp] theorem eK_none {k : α → SF} : eK none k env = none := rfl
@[simp] theorem e_sE {fe : GF α} {k : α → SF} : sE fe k env hp = eK (fe env hp) k env := rfl
@[simp] theorem e_sExpr : sExpr fe env hp = eK (fe env hp) (fun _ => sSkip) env := rfl
@[simp] theorem e_sRet : sRet fe env hp = eK (fe env hp) (fun d env hp => some (.rt d, env, hp)) env := rfl
@[simp] theorem e_sIfS : sIfS ft f g env hp = eK (ft env hp) (fun b => if b then f else g) env := rfl
@[simp] theorem e_gNm {i : Nat} : gNm i d env hp = some (env.set i (some d), hp) := rfl
@[simp] theorem e_gsNil : gsNil [] env hp = some (env, hp) := rfl
def gsK (r : Option (Env8 × Hp8)) (k : Env8 → Hp8 → Option (Env8 × Hp8)) : Option (Env8 × Hp8) := match r with
    | some (env1, hp1) => k env1 hp1
    | none => none
@[simp] theorem gsK_some {k : Env8 → Hp8 → Option (Env8 × Hp8)} : gsK (some (env, hp)) k = k env hp := rfl
@[simp] theorem e_gsCons {g : G8} {r : Gs8} {ds : List D} : gsCons g r (d :: ds) env hp = gsK (g d env hp) (r ds) := rfl
@[simp] theorem e_gTp {n : Nat} {r : Gs8} {ds : List D} : gTp n r (.tup ds) env hp = if ds.length = n then r ds env hp else none := rfl
def putK (r : Option (Env8 × Hp8)) : Option (Fl × Env8 × Hp8) := match r with
  | some (env', hp') => some (.nx, env', hp')
  | none => none
@[simp] theorem putK_some : putK (some (env, hp)) = some (.nx, env, hp) := rfl
@[simp] theorem putK_none : putK none = none := rfl
@[simp] theorem e_sPut {g : G8} : sPut g d env hp = putK (g d env hp) := rfl
@[simp] theorem e_sAsg {g : G8} : sAsg fe g env hp = eK (fe env hp) (sPut g) env := rfl
def par2 (i j : Nat) : List D → SF := fun ds env hp => match ds with
  | [x, y] => some (.nx, (env.set i (some x)).set j (some y), hp)
  | _ => none
@[simp] theorem par2_e {i j : Nat} {x y : D} : par2 i j [x, y] env hp = some (.nx, (env.set i (some x)).set j (some y), hp) := rfl
@[simp] theorem e_sPar2 {i j : Nat} : sPar2 i j fA env hp = eK (fA env hp) (par2 i j) env := rfl
def par3 (i j l : Nat) : List D → SF := fun ds env hp => match ds with
  | [x, y, z] => some (.nx, ((env.set i (some x)).set j (some y)).set l (some z), hp)
  | _ => none
@[simp] theorem par3_e {i j l : Nat} {x y z : D} : par3 i j l [x, y, z] env hp = some (.nx, ((env.set i (some x)).set j (some y)).set l (some z), hp) := rfl
@[simp] theorem e_sPar3 {i j l : Nat} : sPar3 i j l fA env hp = eK (fA env hp) (par3 i j l) env := rfl
def augK (i : Nat) (op : Operator) (fe : EF) (r : Option (Option D)) (env : Env8) (hp : Hp8) : Option (Fl × Env8 × Hp8) := match r with
  | some (some x) => (sE fe fun y env hp => match ipD op x y with
    | some z => some (.nx, env.set i (some z), hp)
    | none => none) env hp
  | _ => none
@[simp] theorem augK_some {i : Nat} {op : Operator} {x : D} : augK i op fe (some (some x)) env hp = eK (fe env hp) (fun y env hp => match ipD op x y with
    | some z => some (.nx, env.set i (some z), hp)
    | none => none) env := rfl
@[simp] theorem e_sAug {i : Nat} {op : Operator} : sAug i op fe env hp = augK i op fe env[i]? env hp := rfl
@[simp] theorem e_ip {i j : Int} : ipD .Add (.int i) (.int j) = some (.int (i + j)) := rfl
@[simp] theorem e_sIce {i : Nat} : sIce i env hp = match env[i]? with
  | some (some (.ref n)) => match hp[n]? with
    | some (.lst ds) => some (.nx, env.set i (some (.lst ds)), hp.set n .dead)
    | some (.dn ks vs) => some (.nx, env.set i (some (.dn ks vs)), hp.set n .dead)
    | _ => none
  | _ => none := rfl
@[simp] theorem e_sIt : sIt fa env hp = bndK (fa env hp) (fun x => rd fun _ => itD x) env := rfl
def rng1 : List D → Option (List D) := fun ds => match ds with
  | [.int j] => if okRng j then some (rngD 0 j.toNat) else none
  | _ => none
@[simp] theorem rng1_e {j : Int} : rng1 [.int j] = if okRng j then some (rngD 0 j.toNat) else none := of_eq_true (eq_true rfl)
@[simp] theorem e_sRng1 : sRng1 fA env hp = bndK (fA env hp) (fun ds => rd fun _ => rng1 ds) env := of_eq_true (eq_true rfl)
def rng2 : List D → Option (List D) := fun ds => match ds with
  | [.int i, .int j] => if okRng i && okRng j then some (rngD i (j - i).toNat) else none
  | _ => none
@[simp] theorem rng2_e {i j : Int} : rng2 [.int i, .int j] = if okRng i && okRng j then some (rngD i (j - i).toNat) else none := of_eq_true (eq_true rfl)
@[simp] theorem e_sRng2 : sRng2 fA env hp = bndK (fA env hp) (fun ds => rd fun _ => rng2 ds) env := of_eq_true (eq_true rfl)
def enm1 : List D → Option (List D) := fun ds => match ds with
  | [.lst xs] => some (enumL xs)
  | _ => none
@[simp] theorem enm1_e {xs : List D} : enm1 [.lst xs] = some (enumL xs) := rfl
@[simp] theorem e_sEnum : sEnum fA env hp = bndK (fA env hp) (fun ds => rd fun _ => enm1 ds) env := rfl
def zip2 : List D → Option (List D) := fun ds => match ds with
  | [.lst xs, .lst ys] => if (xs.zip ys).all (fun p => !pl [p.1, p.2]) then some (zipL xs ys) else none
  | _ => none
@[simp] theorem zip2_e {xs ys : List D} : zip2 [.lst xs, .lst ys] = if (xs.zip ys).all (fun p => !pl [p.1, p.2]) then some (zipL xs ys) else none := rfl
@[simp] theorem e_sZip : sZip fA env hp = bndK (fA env hp) (fun ds => rd fun _ => zip2 ds) env := rfl
@[simp] theorem e_sFor {fi : GF (List D)} {g : G8} {fb : SF} : sFor fi g fb env hp = eK (fi env hp) (loopL g fb) env := rfl
@[simp] theorem e_sRaise {c : Str} : sRaise c env hp = some (.ex c, env, hp) := rfl
@[simp] theorem e_sLc {fi : GF (List D)} {c : CT} {own : List Nat} : sLc fi c ft fe own env hp = bndK (sLcR fi c ft fe own env hp) (fun ds => pur (.lst ds)) env := rfl
@[simp] theorem e_sLcC {fi : GF (List D)} {c : CT} {own : List Nat} : sLcC fi c ft fe own env hp = bndK (sLcR fi c ft fe own env hp) (fun ds => mkCell (.lst ds)) env := rfl
@[simp] theorem e_sLcR {fi : GF (List D)} {c : CT} {own : List Nat} : sLcR fi c ft fe own env hp = bndK (fi env hp) (fun items env hp => (loopC c ft fe (wipe8 env own) items [] hp).map fun p => (.ok p.1, p.2)) env := rfl
@[simp] theorem e_tfYes : tfYes env hp = some (.ok true, hp) := rfl
@[simp] theorem e_wipe8n : wipe8 env [] = env := rfl
@[simp] theorem e_wipe8 {v : Nat} {vs : List Nat} : wipe8 env (v :: vs) = (wipe8 env vs).set v none := rfl
@[simp] theorem e_nm {i : Nat} : CT.set (.nm i) d env = some (env.set i (some d)) := rfl
@[simp] theorem e_tp {is : List Nat} {ds : List D} : CT.set (.tp is) (.tup ds) env = if ds.length = is.length then setAll is ds env else none := rfl
@[simp] theorem e_setAlln : setAll [] [] env = some env := rfl
@[simp] theorem e_setAll {i : Nat} {is : List Nat} {ds : List D} : setAll (i :: is) (d :: ds) env = setAll is ds (env.set i (some d)) := rfl
@[simp] theorem e_loopLn {g : G8} {fb : SF} : loopL g fb [] env hp = some (.nx, env, hp) := rfl
@[simp] theorem e_loopCn {c : CT} {acc : List D} : loopC c ft fe env [] acc hp = some (acc, hp) := rfl
def app1 (x : D) (ds : List D) (hp : Hp8) : Option (Nat × List D × D) := match ds with
  | [y] => appD x y hp
  | _ => none
@[simp] theorem app1_e {x y : D} : app1 x [y] hp = appD x y hp := rfl
@[simp] theorem e_sAppend {fo : EF} : sAppend fo fa env hp = bndK (fo env hp) (fun x => bnd (rd fun hp => cellL hp x) fun _ => bnd (sCons fa sNil) fun ds => wr (app1 x ds)) env := rfl
def ext1 (x : D) (ds : List D) (hp : Hp8) : Option (Nat × List D × D) := match ds with
  | [y] => extD x y hp
  | _ => none
@[simp] theorem ext1_e {x y : D} : ext1 x [y] hp = extD x y hp := rfl
@[simp] theorem e_sExtend {fo : EF} : sExtend fo fa env hp = bndK (fo env hp) (fun x => bnd (rd fun hp => cellL hp x) fun _ => bnd (sCons fa sNil) fun ds => wr (ext1 x ds)) env := rfl
def wrK (r : Option (Nat × List D × D)) (hp : Hp8) : Option (Res D × Hp8) := match r with
  | some (n, ds, d) => some (.ok d, hp.set n (.lst ds))
  | none => none
@[simp] theorem wrK_some {n : Nat} {ds : List D} : wrK (some (n, ds, d)) hp = some (.ok d, hp.set n (.lst ds)) := rfl
@[simp] theorem e_wr {h : Hp8 → Option (Nat × List D × D)} : wr h env hp = wrK (h hp) hp := rfl
def celK (c : Option Cell) (n : Nat) : Option (Nat × List D) := match c with
    | some (.lst ds) => some (n, ds)
    | _ => none
@[simp] theorem celK_l {ds : List D} {n : Nat} : celK (some (.lst ds)) n = some (n, ds) := rfl
@[simp] theorem e_cellL {n : Nat} : cellL hp (.ref n) = celK hp[n]? n := rfl
def appK (r : Option (Nat × List D)) (y : D) : Option (Nat × List D × D) := match r with
  | some (n, ds) => if ds.length < 1000000 then some (n, ds ++ [y], .non) else none
  | none => none
@[simp] theorem appK_some {n : Nat} {ds : List D} {y : D} : appK (some (n, ds)) y = if ds.length < 1000000 then some (n, ds ++ [y], .non) else none := rfl
@[simp] theorem e_appD {x y : D} : appD x y hp = appK (cellL hp x) y := rfl
def extK (r : Option (Nat × List D)) (q : Option (List D)) : Option (Nat × List D × D) := match r, q with
  | some (n, ds), some es => if ds.length + es.length ≤ 1000000 then some (n, ds ++ es, .non) else none
  | _, _ => none
@[simp] theorem extK_some {n : Nat} {ds es : List D} : extK (some (n, ds)) (some es) = if ds.length + es.length ≤ 1000000 then some (n, ds ++ es, .non) else none := rfl
@[simp] theorem e_extD {x y : D} : extD x y hp = extK (cellL hp x) (lstM hp y) := rfl
def stK (r : Option (Nat × List D)) (k : Int) (y : D) : Option (Nat × List D) := match r with
  | some (n, ds) => (ixN ds.length k).map fun j => (n, ds.set j y)
  | none => none
@[simp] theorem stK_some {n : Nat} {ds : List D} {k : Int} {y : D} : stK (some (n, ds)) k y = (ixN ds.length k).map fun j => (n, ds.set j y) := rfl
@[simp] theorem e_setD {x y : D} {k : Int} : setD x (.int k) y hp = stK (cellL hp x) k y := by
  unfold setD stK
  cases h : cellL hp x with
  | none => rfl
  | some p => rfl
def ixK (r : Option (Nat × List D)) (env : Env8) (hp : Hp8) : Option (Env8 × Hp8) := match r with
      | some (n, ds) => some (env, hp.set n (.lst ds))
      | none => none
@[simp] theorem ixK_some {n : Nat} {ds : List D} : ixK (some (n, ds)) env hp = some (env, hp.set n (.lst ds)) := rfl
def gixK2 (d o : D) (env : Env8) (r : Option (Res D × Hp8)) : Option (Env8 × Hp8) := match r with
    | some (.ok i, hp2) => ixK (setD o i d hp2) env hp2
    | _ => none
@[simp] theorem gixK2_ok {o i : D} : gixK2 d o env (some (.ok i, hp)) = ixK (setD o i d hp) env hp := rfl
def gixK (fi : EF) (d : D) (env : Env8) (r : Option (Res D × Hp8)) : Option (Env8 × Hp8) := match r with
  | some (.ok o, hp1) => gixK2 d o env (fi env hp1)
  | _ => none
@[simp] theorem gixK_ok {fi : EF} {o : D} : gixK fi d env (some (.ok o, hp)) = gixK2 d o env (fi env hp) := rfl
@[simp] theorem e_gIx {fo fi : EF} : gIx fo fi d env hp = gixK fi d env (fo env hp) := by
  unfold gIx gixK gixK2 ixK
  rfl
def agK (op : Operator) (o i x : D) : D → SF := fun y env hp => match ipD op x y with
  | some z => putK (ixK (setD o i z hp) env hp)
  | none => none
@[simp] theorem agK_e {o i : D} {a b : Int} : agK .Add o i (.int a) (.int b) env hp = putK (ixK (setD o i (.int (a + b)) hp) env hp) := rfl
def getK (r : Option (List D)) (i : D) : Option D := match r, i with
    | some ds, .int k => if 0 ≤ k then ds[k.toNat]? else none
    | _, _ => none
@[simp] theorem getK_e {ds : List D} {k : Int} : getK (some ds) (.int k) = if 0 ≤ k then ds[k.toNat]? else none := rfl
@[simp] theorem e_sAugIx {fo fi : EF} {op : Operator} : sAugIx fo fi op fe env hp = eK (fo env hp) (fun o => sE fi fun i => sE (rd fun hp => getK (listOf hp o) i) fun x => sE fe (agK op o i x)) env := by
  have e : (fun (o i x y : D) (env : Env8) (hp : Hp8) => match ipD op x y with
    | some z => match setD o i z hp with
      | some (n, ds) => some (Fl.nx, env, hp.set n (Cell.lst ds))
      | none => none
    | none => none) = fun o i x => agK op o i x := by
    funext o i x y env hp
    unfold agK putK ixK
    cases ipD op x y with
    | none => rfl
    | some z =>
      simp only
      cases setD o i z hp <;> rfl
  have e2 : sAugIx fo fi op fe = sE fo fun o => sE fi fun i => sE (rd fun hp => getK (listOf hp o) i) fun x => sE fe (agK op o i x) := by
    unfold sAugIx
    congr 1
    funext o
    congr 1
    funext i
    show sE (rd fun hp => getK (listOf hp o) i) _ = _
    congr 1
    funext x
    congr 1
    exact congrFun (congrFun (congrFun e o) i) x
  rw [e2]
  rfl
/-! while, for: one turn -/
def whK (ft : TF) (fb : SF) (n : Nat) (r : Option (Fl × Env8 × Hp8)) : Option (Fl × Env8 × Hp8) := match r with
      | some (.nx, env2, hp2) => sWhile ft fb n env2 hp2
      | some (.ct, env2, hp2) => sWhile ft fb n env2 hp2
      | some (.bk, env2, hp2) => some (.nx, env2, hp2)
      | r => r
@[simp] theorem whK_nx {n : Nat} : whK ft f n (some (.nx, env, hp)) = sWhile ft f n env hp := rfl
@[simp] theorem whK_rt {n : Nat} : whK ft f n (some (.rt d, env, hp)) = some (.rt d, env, hp) := rfl
@[simp] theorem whK_ex {n : Nat} {c : Str} : whK ft f n (some (.ex c, env, hp)) = some (.ex c, env, hp) := rfl
theorem e_while {n : Nat} : sWhile ft f (n + 1) env hp = eK (ft env hp) (fun b => if b then (fun env hp => whK ft f n (f env hp)) else sSkip) env := rfl
def lpK (g : G8) (fb : SF) (ds : List D) (r : Option (Fl × Env8 × Hp8)) : Option (Fl × Env8 × Hp8) := match r with
      | some (.nx, e2, h2) => loopL g fb ds e2 h2
      | some (.ct, e2, h2) => loopL g fb ds e2 h2
      | some (.bk, e2, h2) => some (.nx, e2, h2)
      | r => r
section
variable {gg : G8} {ds : List D}
@[simp] theorem lpK_nx : lpK gg f ds (some (.nx, env, hp)) = loopL gg f ds env hp := rfl
@[simp] theorem lpK_ct : lpK gg f ds (some (.ct, env, hp)) = loopL gg f ds env hp := rfl
@[simp] theorem lpK_rt : lpK gg f ds (some (.rt d, env, hp)) = some (.rt d, env, hp) := rfl
@[simp] theorem lpK_ex {c : Str} : lpK gg f ds (some (.ex c, env, hp)) = some (.ex c, env, hp) := rfl
@[simp] theorem lpK_bk : lpK gg f ds (some (.bk, env, hp)) = some (.nx, env, hp) := rfl
theorem e_loopL {env1 : Env8} {hp1 : Hp8} (h : gg d env hp = some (env1, hp1)) : loopL gg f (d :: ds) env hp = lpK gg f ds (f env1 hp1) := by
  simp only [loopL, h, lpK] <;> rfl
end
theorem e_loopC {c : CT} {acc ds : List D} {env0 env1 : Env8} {hp1 hp2 : Hp8} {y : D} (h : c.set d env0 = some env1) (ht : ft env1 hp = some (.ok true, hp1)) (he : fe env1 hp1 = some (.ok y, hp2)) (ha : acc.length < 1000000) :
    loopC c ft fe env0 (d :: ds) acc hp = loopC c ft fe env0 ds (acc ++ [y]) hp2 := by
  simp [loopC, h, ht, he, ha]
theorem e_loopCf {c : CT} {acc ds : List D} {env0 env1 : Env8} {hp1 : Hp8} (h : c.set d env0 = some env1) (ht : ft env1 hp = some (.ok false, hp1)) :
    loopC c ft fe env0 (d :: ds) acc hp = loopC c ft fe env0 ds acc hp1 := by
  simp [loopC, h, ht]
def runK (r : Option (Fl × Env8 × Hp8)) : Option (Res D × Hp8) := match r with
    | some (.nx, _, hp') => some (.ok .non, hp')
    | some (.rt d, _, hp') => some (.ok d, hp')
    | some (.ex c, _, hp') => some (.exc c, hp')
    | _ => none
@[simp] theorem runK_nx : runK (some (.nx, env, hp)) = some (.ok .non, hp) := rfl
@[simp] theorem runK_rt : runK (some (.rt d, env, hp)) = some (.ok d, hp) := rfl
@[simp] theorem runK_ex {c : Str} : runK (some (.ex c, env, hp)) = some (.exc c, hp) := rfl
theorem e_runF {n m : Nat} {ds : List D} (h : ds.length = m) : runF n m f ds hp = runK (f (ds.map some ++ List.replicate (n - m) none) hp) := by
  unfold runF
  rw [if_pos h]
  rfl
@[simp] theorem ix20 : ixN 2 0 = some 0 := rfl
@[simp] theorem ix21 : ixN 2 1 = some 1 := rfl
/-! the data's functions -/
@[simp] theorem e_seqT {ds : List D} : seqOf hp (.tup ds) = some ds := rfl
@[simp] theorem e_seqL {ds : List D} : seqOf hp (.lst ds) = some ds := rfl
@[simp] theorem e_seqS {ns : List Int} : seqOf hp (.scr ns) = some (ns.map .int) := rfl
def clK (c : Option Cell) : Option (List D) := match c with
    | some (.lst ds) => some ds
    | _ => none
@[simp] theorem clK_l {ds : List D} : clK (some (.lst ds)) = some ds := rfl
@[simp] theorem e_seqR {n : Nat} : seqOf hp (.ref n) = clK hp[n]? := rfl
@[simp] theorem e_lofL {ds : List D} : listOf hp (.lst ds) = some ds := rfl
@[simp] theorem e_lofS {ns : List Int} : listOf hp (.scr ns) = some (ns.map .int) := rfl
@[simp] theorem e_lofR {n : Nat} : listOf hp (.ref n) = clK hp[n]? := rfl
@[simp] theorem e_lstML {ds : List D} : lstM hp (.lst ds) = some ds := rfl
@[simp] theorem e_lstMR {n : Nat} : lstM hp (.ref n) = clK hp[n]? := rfl
@[simp] theorem e_addI {i j : Int} : addD (.int i) (.int j) hp = some (.int (i + j)) := rfl
@[simp] theorem e_addT {a b : List D} : addD (.tup a) (.tup b) hp = if a.length + b.length ≤ sizeLine ∧ pl (a ++ b) = false then some (.tup (a ++ b)) else none := rfl
@[simp] theorem e_addL {a b : List D} : addD (.lst a) (.lst b) hp = if a.length + b.length ≤ sizeLine then some (.lst (a ++ b)) else none := rfl
@[simp] theorem e_subI {i j : Int} : subD (.int i) (.int j) hp = some (.int (i - j)) := rfl
@[simp] theorem e_modI {i j : Int} : modD (.int i) (.int j) hp = if 0 < j then some (.int (i % j)) else none := rfl
@[simp] theorem e_fdivI {i j : Int} : fdivD (.int i) (.int j) hp = if 0 < j ∧ j < 1073741824 then some (.int (i / j)) else none := of_eq_true (eq_true rfl)
@[simp] theorem e_powI {i j : Int} : powD (.int i) (.int j) hp = if 0 ≤ j ∧ j ≤ 1000 ∧ i.natAbs < 2 ^ 64 then some (.int (i ^ j.toNat)) else none := of_eq_true (eq_true rfl)
@[simp] theorem e_mulI {i j : Int} : mulD (.int i) (.int j) hp = if mulOk i j then some (.int (i * j)) else none := of_eq_true (eq_true rfl)
@[simp] theorem e_mulL {a : List D} {j : Int} : mulD (.lst a) (.int j) hp = if j.natAbs < 9223372036854775808 ∧ a.length * j.toNat ≤ sizeLine then some (.lst (List.replicate j.toNat a).flatten) else none := of_eq_true (eq_true rfl)
@[simp] theorem e_eqI {i j : Int} : eqD (.int i) (.int j) hp = some (i == j) := rfl
@[simp] theorem e_eqS {i j : Str} : eqD (.str i) (.str j) hp = some (i == j) := rfl
@[simp] theorem e_neI {i j : Int} : neD (.int i) (.int j) hp = some (!(i == j)) := rfl
@[simp] theorem e_neS {i j : Str} : neD (.str i) (.str j) hp = some (!(i == j)) := rfl
@[simp] theorem e_eqB {i j : Bool} : eqD (.bl i) (.bl j) hp = some (i == j) := rfl
@[simp] theorem e_neB {i j : Bool} : neD (.bl i) (.bl j) hp = some (!(i == j)) := rfl
@[simp] theorem e_ltI {i j : Int} : ltD (.int i) (.int j) hp = some (decide (i < j)) := rfl
@[simp] theorem e_leI {i j : Int} : leD (.int i) (.int j) hp = some (decide (i ≤ j)) := rfl
@[simp] theorem e_gtI {i j : Int} : gtD (.int i) (.int j) hp = some (decide (j < i)) := rfl
@[simp] theorem e_geI {i j : Int} : geD (.int i) (.int j) hp = some (decide (j ≤ i)) := rfl
@[simp] theorem e_isN : isD d .non hp = some (isNon d) := rfl
@[simp] theorem e_isB {b : Bool} : isD d (.bl b) hp = some (isBl b d) := rfl
@[simp] theorem e_isNN : isNotD d .non hp = some (!isNon d) := rfl
@[simp] theorem e_isNB {b : Bool} : isNotD d (.bl b) hp = some (!isBl b d) := rfl
@[simp] theorem e_isBlB {b c : Bool} : isBl b (.bl c) = (c == b) := rfl
@[simp] theorem e_isNonN : isNon .non = true := rfl
@[simp] theorem e_isNonI {i : Int} : isNon (.int i) = false := rfl
@[simp] theorem e_isNonT {ds : List D} : isNon (.tup ds) = false := rfl
@[simp] theorem e_isNonL {ds : List D} : isNon (.lst ds) = false := rfl
@[simp] theorem e_isNonS {z : Str} : isNon (.str z) = false := rfl
@[simp] theorem e_lenT {ds : List D} : lenD (.tup ds) hp = some (.int ds.length) := rfl
@[simp] theorem e_lenL {ds : List D} : lenD (.lst ds) hp = some (.int ds.length) := rfl
@[simp] theorem e_lenS {ns : List Int} : lenD (.scr ns) hp = some (.int ns.length) := by simp [lenD]
@[simp] theorem e_lenR {n : Nat} : lenD (.ref n) hp = (clK hp[n]?).map fun (ds : List D) => D.int ds.length := rfl
@[simp] theorem e_ixT {ds : List D} {k : Int} : ixD (.tup ds) (.int k) hp = atI ds k := rfl
@[simp] theorem e_ixL {ds : List D} {k : Int} : ixD (.lst ds) (.int k) hp = atI ds k := rfl
@[simp] theorem e_ixS {ns : List Int} {k : Int} : ixD (.scr ns) (.int k) hp = atI (ns.map .int) k := rfl
@[simp] theorem e_ixR {n : Nat} {k : Int} : ixD (.ref n) (.int k) hp = (clK hp[n]?).bind fun ds => atI ds k := by
  show (match clK hp[n]? with | some ds => atI ds k | none => none) = _
  cases clK hp[n]? <;> rfl
@[simp] theorem e_maxI {i j : Int} : maxD (.int i) (.int j) hp = some (.int (if j > i then j else i)) := rfl
@[simp] theorem e_minI {i j : Int} : minD (.int i) (.int j) hp = some (.int (if j < i then j else i)) := rfl
@[simp] theorem e_listT {ds : List D} : listD (.tup ds) hp = some (.lst ds) := rfl
@[simp] theorem e_listL {ds : List D} : listD (.lst ds) hp = some (.lst ds) := rfl
@[simp] theorem e_tupleT {ds : List D} : tupleD (.tup ds) hp = some (.tup ds) := rfl
@[simp] theorem e_tupleL {ds : List D} : tupleD (.lst ds) hp = some (.tup ds) := rfl
@[simp] theorem e_slT {ds : List D} {lo hi : Option Int} : slD (.tup ds) lo hi hp = some (.tup (cutD ds lo hi)) := rfl
@[simp] theorem e_slL {ds : List D} {lo hi : Option Int} : slD (.lst ds) lo hi hp = some (.lst (cutD ds lo hi)) := rfl
@[simp] theorem e_itL {ds : List D} : itD (.lst ds) = some ds := rfl
@[simp] theorem e_itT {ds : List D} : itD (.tup ds) = some ds := rfl
@[simp] theorem e_tyN {T : String} : isiD T .non hp = (kitB "NoneType" T).map .bl := rfl
@[simp] theorem e_tyB {T : String} {b : Bool} : isiD T (.bl b) hp = (kitB "bool" T).map .bl := rfl
@[simp] theorem e_tyI {T : String} {b : Int} : isiD T (.int b) hp = (kitB "int" T).map .bl := rfl
@[simp] theorem e_tyS {T : String} {b : Str} : isiD T (.str b) hp = (kitB "str" T).map .bl := rfl
@[simp] theorem e_tyT {T : String} {b : List D} : isiD T (.tup b) hp = (kitB "tuple" T).map .bl := rfl
@[simp] theorem e_tyL {T : String} {b : List D} : isiD T (.lst b) hp = (kitB "list" T).map .bl := rfl
@[simp] theorem k_ii : kitB "int" "int" = some true := by decide +kernel
@[simp] theorem k_ib : kitB "int" "bool" = some false := by decide +kernel
@[simp] theorem k_bi : kitB "bool" "int" = some true := by decide +kernel
@[simp] theorem k_bb : kitB "bool" "bool" = some true := by decide +kernel
@[simp] theorem k_tt : kitB "tuple" "tuple" = some true := by decide +kernel
@[simp] theorem k_ll : kitB "list" "list" = some true := by decide +kernel
@[simp] theorem k_ss : kitB "str" "str" = some true := by decide +kernel
@[simp] theorem k_ni : kitB "NoneType" "int" = some false := by decide +kernel
@[simp] theorem k_nb : kitB "NoneType" "bool" = some false := by decide +kernel
@[simp] theorem k_nt : kitB "NoneType" "tuple" = some false := by decide +kernel
@[simp] theorem k_nl : kitB "NoneType" "list" = some false := by decide +kernel
@[simp] theorem k_ns : kitB "NoneType" "str" = some false := by decide +kernel
@[simp] theorem k_it : kitB "int" "tuple" = some false := by decide +kernel
@[simp] theorem k_il : kitB "int" "list" = some false := by decide +kernel
@[simp] theorem k_is' : kitB "int" "str" = some false := by decide +kernel
@[simp] theorem k_bt : kitB "bool" "tuple" = some false := by decide +kernel
@[simp] theorem k_bl' : kitB "bool" "list" = some false := by decide +kernel
@[simp] theorem k_bs : kitB "bool" "str" = some false := by decide +kernel
@[simp] theorem k_ti : kitB "tuple" "int" = some false := by decide +kernel
@[simp] theorem k_tb : kitB "tuple" "bool" = some false := by decide +kernel
@[simp] theorem k_tl : kitB "tuple" "list" = some false := by decide +kernel
@[simp] theorem k_ts : kitB "tuple" "str" = some false := by decide +kernel
@[simp] theorem k_li : kitB "list" "int" = some false := by decide +kernel
@[simp] theorem k_lb : kitB "list" "bool" = some false := by decide +kernel
@[simp] theorem k_lt : kitB "list" "tuple" = some false := by decide +kernel
@[simp] theorem k_ls : kitB "list" "str" = some false := by decide +kernel
@[simp] theorem k_si : kitB "str" "int" = some false := by decide +kernel
@[simp] theorem k_sb : kitB "str" "bool" = some false := by decide +kernel
@[simp] theorem k_st : kitB "str" "tuple" = some false := by decide +kernel
@[simp] theorem k_sl : kitB "str" "list" = some false := by decide +kernel
end
@[simp] theorem cl_non : closed .non = true := rfl
@[simp] theorem cl_bl {b : Bool} : closed (.bl b) = true := rfl
@[simp] theorem cl_int {b : Int} : closed (.int b) = true := rfl
@[simp] theorem cl_str {b : Str} : closed (.str b) = true := rfl
@[simp] theorem cl_scr {b : List Int} : closed (.scr b) = true := rfl
@[simp] theorem cl_tup {b : List D} : closed (.tup b) = closeds b := rfl
@[simp] theorem cl_lst {b : List D} : closed (.lst b) = closeds b := rfl
@[simp] theorem cls_nil : closeds [] = true := rfl
@[simp] theorem cls_cons {d : D} {ds : List D} : closeds (d :: ds) = (closed d && closeds ds) := rfl
theorem closeds_append : ∀ {a b : List D}, closeds (a ++ b) = (closeds a && closeds b)
  | [], b => by simp
  | d :: a, b => by simp [closeds_append (a := a), Bool.and_assoc]
theorem closeds_all : ∀ {a : List D}, closeds a = a.all closed
  | [] => rfl
  | d :: a => by simp [closeds_all (a := a)]
theorem closeds_strs : ∀ {a : List Str}, closeds (a.map .str) = true
  | [] => rfl
  | d :: a => by simp [closeds_strs (a := a)]
@[simp] theorem ur_non {hp : Hp8} : unref hp .non = some .non := rfl
@[simp] theorem ur_bl {hp : Hp8} {b : Bool} : unref hp (.bl b) = some (.bl b) := rfl
@[simp] theorem ur_int {hp : Hp8} {b : Int} : unref hp (.int b) = some (.int b) := rfl
@[simp] theorem ur_str {hp : Hp8} {b : Str} : unref hp (.str b) = some (.str b) := rfl
@[simp] theorem ur_tup {hp : Hp8} {b : List D} : unref hp (.tup b) = (unrefs hp b).map .tup := rfl
@[simp] theorem ur_lst {hp : Hp8} {b : List D} : unref hp (.lst b) = if closeds b then some (.lst b) else none := rfl
@[simp] theorem ur_ref {hp : Hp8} {n : Nat} : unref hp (.ref n) = match hp[n]? with
    | some (.lst ds) => if closeds ds then some (.lst ds) else none
    | some (.dn ks vs) => if closeds ks && closeds vs then some (.dn ks vs) else none
    | _ => none := rfl
@[simp] theorem ur_dn {hp : Hp8} {ks vs : List D} : unref hp (.dn ks vs) = if closeds ks && closeds vs then some (.dn ks vs) else none := rfl
@[simp] theorem urs_nil {hp : Hp8} : unrefs hp [] = some [] := rfl
@[simp] theorem urs_cons {hp : Hp8} {d : D} {ds : List D} : unrefs hp (d :: ds) = match unref hp d, unrefs hp ds with
    | some e, some es => some (e :: es)
    | _, _ => none := rfl
@[simp] theorem urR_ok {hp : Hp8} {d : D} : unrefR hp (.ok d) = (unref hp d).map .ok := rfl
@[simp] theorem urR_exc {hp : Hp8} {c : Str} : unrefR hp (.exc c) = some (.exc c) := rfl
/-! indices that are written -/
@[simp] theorem atI_0 {α : Type} {x : α} {xs : List α} : atI (x :: xs) 0 = some x := atI_nat (j := 0) rfl
@[simp] theorem atI_1 {α : Type} {x y : α} {xs : List α} : atI (x :: y :: xs) 1 = some y := atI_nat (j := 1) rfl
@[simp] theorem atI_2 {α : Type} {x y z : α} {xs : List α} : atI (x :: y :: z :: xs) 2 = some z := atI_nat (j := 2) rfl
@[simp] theorem atI_3 {α : Type} {x y z u : α} {xs : List α} : atI (x :: y :: z :: u :: xs) 3 = some u := atI_nat (j := 3) rfl
/-! a call of a def that is given no cell -/
theorem pureG_ok {g : List D → Hp8 → Option (Res D × Hp8)} {ds : List D} {d e : D} {hp0 hp : Hp8} (hc : closeds ds = true) (h : g ds [] = some (.ok d, hp0)) (hu : unref hp0 d = some e) : pureG g ds hp = some (.ok e, hp) := by
  refine pureG_of hc h ?_
  simp [unrefR, hu]
theorem pureG_exc {g : List D → Hp8 → Option (Res D × Hp8)} {ds : List D} {c : Str} {hp0 hp : Hp8} (hc : closeds ds = true) (h : g ds [] = some (.exc c, hp0)) : pureG g ds hp = some (.exc c, hp) := pureG_of hc h rfl
end HI

namespace HI
open PySem L2 PyProof.Rows
/-! ### == of plain data -/
mutual
/-- data without bools, cells, at most n deep -/
def plain : Nat → D → Bool
  | _, .non => true
  | _, .int _ => true
  | _, .str z => PyData.strOk z
  | n + 1, .tup ds => plains n ds
  | n + 1, .lst ds => plains n ds
  | _, _ => false
def plains : Nat → List D → Bool
  | _, [] => true
  | n, d :: ds => plain n d && plains n ds
end
mutual
theorem plain_toP : ∀ (n : Nat) (d : D), plain n d = true → ∃ p, toP0 d = some p ∧ p.canLay0 = true ∧ p.depth ≤ n
  | n, .non, _ => ⟨_, rfl, rfl, Nat.zero_le _⟩
  | n, .int i, _ => ⟨_, rfl, rfl, Nat.zero_le _⟩
  | n, .str z, h => ⟨_, rfl, by cases n <;> exact h, Nat.zero_le _⟩
  | 0, .tup ds, h => by cases h
  | 0, .lst ds, h => by cases h
  | n + 1, .tup ds, h => by
    obtain ⟨ps, e, h1, h2⟩ := plains_toP n ds h
    exact ⟨.tuple ps, by simp [toP0, e], h1, by simp only [PyData.depth]; omega⟩
  | n + 1, .lst ds, h => by
    obtain ⟨ps, e, h1, h2⟩ := plains_toP n ds h
    exact ⟨.list ps, by simp [toP0, e], h1, by simp only [PyData.depth]; omega⟩
  | 0, .bl b, h => by cases h
  | n + 1, .bl b, h => by cases h
  | 0, .scr b, h => by cases h
  | n + 1, .scr b, h => by cases h
  | 0, .ref b, h => by cases h
  | n + 1, .ref b, h => by cases h
theorem plains_toP : ∀ (n : Nat) (ds : List D), plains n ds = true → ∃ ps, toPs0 ds = some ps ∧ PyData.canLayAll0 ps = true ∧ PyData.depthAll ps ≤ n
  | n, [], _ => ⟨[], rfl, rfl, Nat.zero_le _⟩
  | n, d :: ds, h => by
    have h' : plain n d = true ∧ plains n ds = true := by simpa [plains] using h
    obtain ⟨p, e, h1, h2⟩ := plain_toP n d h'.1
    obtain ⟨ps, es, h3, h4⟩ := plains_toP n ds h'.2
    exact ⟨p :: ps, by simp [toPs0, e, es], by simp [PyData.canLayAll0, h1, h3], by simp only [PyData.depthAll]; omega⟩
end
mutual
theorem eqv_plain : ∀ (n m : Nat) (d e : D) (p q : PyData), plain n d = true → plain m e = true → toP0 d = some p → toP0 e = some q → (p.eqv q = true ↔ d = e)
  | n, m, .non, e, p, q, h1, h2, e1, e2 => by
    cases e1
    cases e with
    | non => cases e2; simp [PyData.eqv]
    | int i => cases e2; simp [PyData.eqv]
    | str i => cases e2; simp [PyData.eqv]
    | tup ds =>
      cases h : toPs0 ds with
      | none => simp [toP0, h] at e2
      | some ps => simp [toP0, h] at e2; subst e2; simp [PyData.eqv]
    | lst ds =>
      cases h : toPs0 ds with
      | none => simp [toP0, h] at e2
      | some ps => simp [toP0, h] at e2; subst e2; simp [PyData.eqv]
    | bl b => cases m <;> cases h2
    | scr b => cases m <;> cases h2
    | ref b => cases m <;> cases h2
    | dn _ _ => cases m <;> cases h2
  | n, m, .int i, e, p, q, h1, h2, e1, e2 => by
    cases e1
    cases e with
    | non => cases e2; simp [PyData.eqv]
    | int i => cases e2; simp [PyData.eqv]
    | str i => cases e2; simp [PyData.eqv]
    | tup ds =>
      cases h : toPs0 ds with
      | none => simp [toP0, h] at e2
      | some ps => simp [toP0, h] at e2; subst e2; simp [PyData.eqv]
    | lst ds =>
      cases h : toPs0 ds with
      | none => simp [toP0, h] at e2
      | some ps => simp [toP0, h] at e2; subst e2; simp [PyData.eqv]
    | bl b => cases m <;> cases h2
    | scr b => cases m <;> cases h2
    | ref b => cases m <;> cases h2
    | dn _ _ => cases m <;> cases h2
  | n, m, .str i, e, p, q, h1, h2, e1, e2 => by
    cases e1
    cases e with
    | non => cases e2; simp [PyData.eqv]
    | int i => cases e2; simp [PyData.eqv]
    | str i => cases e2; simp [PyData.eqv]
    | tup ds =>
      cases h : toPs0 ds with
      | none => simp [toP0, h] at e2
      | some ps => simp [toP0, h] at e2; subst e2; simp [PyData.eqv]
    | lst ds =>
      cases h : toPs0 ds with
      | none => simp [toP0, h] at e2
      | some ps => simp [toP0, h] at e2; subst e2; simp [PyData.eqv]
    | bl b => cases m <;> cases h2
    | scr b => cases m <;> cases h2
    | ref b => cases m <;> cases h2
    | dn _ _ => cases m <;> cases h2
  | n, m, .tup ds, e, p, q, h1, h2, e1, e2 => by
    cases h : toPs0 ds with
    | none => simp [toP0, h] at e1
    | some ps =>
      simp [toP0, h] at e1
      subst e1
      cases n with
      | zero => cases h1
      | succ n =>
        cases e with
        | non => cases e2; simp [PyData.eqv]
        | int i => cases e2; simp [PyData.eqv]
        | str i => cases e2; simp [PyData.eqv]
        | tup es =>
          cases h' : toPs0 es with
          | none => simp [toP0, h'] at e2
          | some qs =>
            simp [toP0, h'] at e2
            subst e2
            cases m with
            | zero => cases h2
            | succ m =>
              have := eqvs_plain n m ds es ps qs h1 h2 h h'
              simp only [PyData.eqv, D.tup.injEq]
              exact this
        | lst es =>
          cases h' : toPs0 es with
          | none => simp [toP0, h'] at e2
          | some qs => simp [toP0, h'] at e2; subst e2; simp [PyData.eqv]
        | bl b => cases m <;> cases h2
        | scr b => cases m <;> cases h2
        | ref b => cases m <;> cases h2
        | dn _ _ => cases m <;> cases h2
  | n, m, .lst ds, e, p, q, h1, h2, e1, e2 => by
    cases h : toPs0 ds with
    | none => simp [toP0, h] at e1
    | some ps =>
      simp [toP0, h] at e1
      subst e1
      cases n with
      | zero => cases h1
      | succ n =>
        cases e with
        | non => cases e2; simp [PyData.eqv]
        | int i => cases e2; simp [PyData.eqv]
        | str i => cases e2; simp [PyData.eqv]
        | lst es =>
          cases h' : toPs0 es with
          | none => simp [toP0, h'] at e2
          | some qs =>
            simp [toP0, h'] at e2
            subst e2
            cases m with
            | zero => cases h2
            | succ m =>
              have := eqvs_plain n m ds es ps qs h1 h2 h h'
              simp only [PyData.eqv, D.lst.injEq]
              exact this
        | tup es =>
          cases h' : toPs0 es with
          | none => simp [toP0, h'] at e2
          | some qs => simp [toP0, h'] at e2; subst e2; simp [PyData.eqv]
        | bl b => cases m <;> cases h2
        | scr b => cases m <;> cases h2
        | ref b => cases m <;> cases h2
        | dn _ _ => cases m <;> cases h2
  | n, m, .bl b, e, p, q, h1, h2, e1, e2 => by cases n <;> cases h1
  | n, m, .scr b, e, p, q, h1, h2, e1, e2 => by cases n <;> cases h1
  | n, m, .ref b, e, p, q, h1, h2, e1, e2 => by cases n <;> cases h1
theorem eqvs_plain : ∀ (n m : Nat) (ds es : List D) (ps qs : List PyData), plains n ds = true → plains m es = true → toPs0 ds = some ps → toPs0 es = some qs → (PyData.eqvAll ps qs = true ↔ ds = es)
  | n, m, [], [], ps, qs, h1, h2, e1, e2 => by cases e1; cases e2; simp [PyData.eqvAll]
  | n, m, [], e :: es, ps, qs, h1, h2, e1, e2 => by
    cases e1
    simp only [toPs0] at e2
    split at e2
    · cases e2; simp [PyData.eqvAll]
    · cases e2
  | n, m, d :: ds, [], ps, qs, h1, h2, e1, e2 => by
    cases e2
    simp only [toPs0] at e1
    split at e1
    · cases e1; simp [PyData.eqvAll]
    · cases e1
  | n, m, d :: ds, e :: es, ps, qs, h1, h2, e1, e2 => by
    simp only [toPs0] at e1 e2
    split at e1
    · rename_i p ps' a1 a2
      cases e1
      split at e2
      · rename_i q qs' b1 b2
        cases e2
        have k1 : plain n d = true ∧ plains n ds = true := by simpa [plains] using h1
        have k2 : plain m e = true ∧ plains m es = true := by simpa [plains] using h2
        have r1 := eqv_plain n m d e p q k1.1 k2.1 a1 b1
        have r2 := eqvs_plain n m ds es ps' qs' k1.2 k2.2 a2 b2
        simp only [PyData.eqvAll, Bool.and_eq_true, r1, r2, List.cons.injEq]
      · cases e2
    · cases e1
end
theorem toP_0 {hp : Hp8} {d : D} {p : PyData} (h : toP0 d = some p) : toP hp d = some p := by
  cases d <;> first | exact h | cases h
theorem eqD_of {hp : Hp8} {d e : D} (hd : plain 60 d = true) (he : plain 60 e = true) : ∃ b, eqD d e hp = some b ∧ (b = true ↔ d = e) := by
  obtain ⟨p, e1, c1, d1⟩ := plain_toP 60 d hd
  obtain ⟨q, e2, c2, d2⟩ := plain_toP 60 e he
  have key := eqv_plain 60 60 d e p q hd he e1 e2
  have s1 : SeqAt.shaped p = true := by unfold SeqAt.shaped; rw [c1, decide_eq_true (by omega)]; rfl
  have s2 : SeqAt.shaped q = true := by unfold SeqAt.shaped; rw [c2, decide_eq_true (by omega)]; rfl
  unfold eqD
  split
  · exact ⟨_, rfl, by simp⟩
  · exact ⟨_, rfl, by simp⟩
  · rw [toP_0 e1, toP_0 e2]
    exact ⟨_, by simp [s1, s2], key⟩
theorem eqD_same {hp : Hp8} {d : D} (hd : plain 60 d = true) : eqD d d hp = some true := by
  obtain ⟨b, e, k⟩ := eqD_of (hp := hp) hd hd
  rw [e, k.mpr rfl]
theorem neD_same {hp : Hp8} {d : D} (hd : plain 60 d = true) : neD d d hp = some false := by simp [neD, eqD_same hd]
theorem eqD_diff {hp : Hp8} {d e : D} (hd : plain 60 d = true) (he : plain 60 e = true) (hne : d ≠ e) : eqD d e hp = some false := by
  obtain ⟨b, h, k⟩ := eqD_of (hp := hp) hd he
  cases b with
  | false => exact h
  | true => exact absurd (k.mp rfl) hne
/-- an empty list -/
theorem depth_ints : ∀ ns : List Int, PyData.depthAll (ns.map .int) = 0
  | [] => rfl
  | n :: ns => by simp [PyData.depthAll, PyData.depth, depth_ints ns]
theorem lay_ints : ∀ ns : List Int, PyData.canLayAll0 (ns.map .int) = true
  | [] => rfl
  | n :: ns => by simp [PyData.canLayAll0, PyData.canLay0, lay_ints ns]
@[simp] theorem eq_scr_nil {ns : List Int} {hp : Hp8} : eqD (.scr ns) (.lst []) hp = some ns.isEmpty := by
  have s1 : SeqAt.shaped (.list (ns.map .int)) = true := by
    unfold SeqAt.shaped
    rw [show (PyData.list (ns.map .int)).canLay0 = true from lay_ints ns, decide_eq_true (by simp only [PyData.depth, depth_ints]; omega)]
    rfl
  have s2 : SeqAt.shaped (.list []) = true := by decide
  have e : eqD (.scr ns) (.lst []) hp = some (PyData.eqv (.list (ns.map .int)) (.list [])) := by
    show (if SeqAt.shaped (.list (ns.map .int)) && SeqAt.shaped (.list []) then some _ else none) = _
    rw [s1, s2]
    rfl
  rw [e]
  cases ns <;> rfl
end HI

namespace HI
open PySem L2 PyProof.Rows
open AutoSeq1 (wpAny_loadPart')
/-! ### enumerate(tuple) -/
abbrev tupIt (l : Addr) : Obj := { cls := .type "tuple_iterator", data := .fields #[.ref l, .int 0 0] }
abbrev enumOb (it : Addr) : Obj := { cls := .type "enumerate", data := .fields #[.none, .bool false, .ref it, rawInt 0, .none, .none] }
theorem enum_newT (t : Addr) (items : Array Value) (n : Nat) (dd : Option Addr) (sl : Array (Option Value)) :
    Meets (Builtin.«enumerate.__new__» ⟨[.type "enumerate", .ref t], []⟩) (fun _ R s => s.heap.get? t = some { cls := .type "tuple", dict := dd, data := .seq items n, slots := sl } ∧
      R (.ok (.ret (.ref (s.heap.push (tupIt t)).objs.size))) { s with heap := (s.heap.push (tupIt t)).push (enumOb s.heap.objs.size) }) :=
  .of_wp fun prog w A R s h => by
    obtain ⟨hp, g, d, tk, os⟩ := s
    obtain ⟨hl, h⟩ := h
    have hsub := sub_enumerate
    have hT : Heap.IsTuple (Shared.heap ⟨hp, g, d, tk, os⟩) t items := ⟨_, hl, rfl, n, rfl⟩
    wp_walk using wpAny_loadPart' hl
    refine wpAny_stack_any fun stk => wpAny_pure ?_
    split
    · rename_i cc _ _ _ _ _
      cases (cc == Value.type "enumerate") <;> (wp_walk using wpAny_loadPart' hl, wpAny_pyIter_tuple hT; exact ⟨_, rfl, h⟩)
    · wp_walk using wpAny_loadPart' hl, wpAny_pyIter_tuple hT
      exact ⟨_, rfl, h⟩
theorem call_enumT {prog : Program} {w : World} {A : Around} {E : Value → Shared → Prop} {s : Shared} {t : Addr} {items : Array Value} {Q : Value → Shared → Prop} (hT : s.heap.IsTuple t items)
    (h : ∀ h', IsEnum h' (s.heap.objs.size + 1) s.heap.objs.size 0 .none → h'.IsTupleIter s.heap.objs.size t 0 → (∀ b o, s.heap.get? b = some o → h'.get? b = some o) → Q (.ref (s.heap.objs.size + 1)) { s with heap := h' }) :
    wpAny (model prog w) A (call (.type "enumerate") [.ref t]) Q E s := by
  obtain ⟨⟨c, dct, dt, sl⟩, hl, hc, n, hd⟩ := hT
  replace hc : c = .type "tuple" := hc
  replace hd : dt = .seq items n := hd
  subst hc hd
  have z1 : (s.heap.push (tupIt t)).objs.size = s.heap.objs.size + 1 := Heap.size_push ..
  have he : IsEnum ((s.heap.push (tupIt t)).push (enumOb s.heap.objs.size)) (s.heap.objs.size + 1) s.heap.objs.size 0 .none := by
    have g := Heap.get?_push_size (s.heap.push (tupIt t)) (o := enumOb s.heap.objs.size) rfl
    rw [z1] at g
    exact g
  refine callType_new F.called_enumerate (by decide) (F.typeCall_enumerate_1 _) (F.newCall_enumerate_1 _) (fun ob => F.args_object_init_2 ob _) F.entry_enumerate_new (enum_newT t items n dct sl) ⟨hl, ?_⟩
  show _ ∧ _
  rw [z1]
  exact ⟨⟨_, he, rfl⟩, h _ he ⟨_, Heap.get?_push_of_some _ (Heap.get?_push_size _ rfl), rfl, rfl⟩ fun b o x => Heap.get?_push_of_some _ (Heap.get?_push_of_some _ x)⟩
def Iet (K : PySem.W.Frag) (a : Addr) : It :=
  ⟨fun i H => ∃ (xs : List V) (x : V), SqT K H a xs ∧ xs[i]? = some x, fun i H v H' => ∃ T x, v = .ref T ∧ H T = none ∧ H' = upd H T (.tup [.int (i : Nat), x]) ∧ ∀ xs, SqT K H a xs → xs[i]? = some x, fun i H => ∃ xs : List V, SqT K H a xs ∧ xs.length = i⟩
theorem turn_enumT {P : Program} {w : World} {K : PySem.W.Frag} {elts : List Expr} {kk : Nat} {tpos : Pos} (a e it : Addr) :
    Turn P w K (.Tuple elts kk tpos) (Iet K a) [e, it] e (fun i h => (∃ old, IsEnum h e it ((i : Nat) : Int) old) ∧ h.IsTupleIter it a i ∧ e ≠ it) where
  mem := List.mem_cons_self ..
  obj := fun i h st b hb => by
    obtain ⟨⟨old, he⟩, ⟨o, ho, hc, hd⟩, _⟩ := st
    rcases List.mem_cons.mp hb with z | z
    · subst z
      exact ⟨_, he, fun v q => nomatch q⟩
    · have z := List.mem_singleton.mp z
      subst z
      exact ⟨o, ho, fun v q => by rw [hd] at q; cases q⟩
  keep := fun i h h' st k => by
    obtain ⟨⟨old, he⟩, ⟨o, ho, hc, hd⟩, hne⟩ := st
    exact ⟨⟨old, k e (by simp) _ he⟩, ⟨o, k it (by simp) o ho, hc, hd⟩, hne⟩
  item := by
    intro X hP hw hK hc i pins s σ H E I hf st hg
    subst hP hw hK
    obtain ⟨⟨old, he⟩, hit, hne⟩ := st
    obtain ⟨xs, x, hq, hx⟩ := hg
    obtain ⟨its, rv, p, hz⟩ := I.tuple hq
    obtain ⟨u, hu, ru⟩ := rv.get hx
    have p' : s.heap.IsTuple a its.toArray := p
    have lte : e < s.heap.objs.size := Heap.lt_size he
    have lti : it < s.heap.objs.size := by obtain ⟨_, q, _⟩ := hit; exact Heap.lt_size q
    have hai : a ≠ it := fun z => by
      obtain ⟨o1, q1, c1, _⟩ := p'
      obtain ⟨o2, q2, c2, _⟩ := hit
      rw [z, q2] at q1
      cases q1
      rw [c2] at c1
      exact absurd c1 (by decide)
    have hea : e ≠ a := fun z => by
      obtain ⟨o1, q1, c1, _⟩ := p'
      have he' : s.heap.get? e = some _ := he
      rw [← z, he'] at q1
      cases q1
      exact absurd (show Value.type "enumerate" = Value.type "tuple" from c1) (by decide)
    have hlt : i < its.toArray.size := by
      rw [List.size_toArray]
      exact (List.getElem?_eq_some_iff.mp hu).1
    refine wpAny_pyNext_enum_itemD (Draws.tuple (show X.A.in1.handled = none from I.ok.hd hc) it a hai its.toArray) he ⟨hit, p'⟩ hlt hne (by simp [hne, hea]) fun y h' tk hy ho st' hT hsz hk => ?_
    have ey : y = u := by
      have : its.toArray[i]? = some u := by simpa using hu
      rw [hy] at this
      exact Option.some.inj this
    subst ey
    refine ⟨_, rfl, wpAny_letOwnedTupleGo_enum (s := { s with heap := h', toks := tk + 1 }) ho fun h2 he2 sb => ?_⟩
    have hT2 : h2.get? s.heap.objs.size = some { cls := .type "tuple", data := .seq #[.int i tk, y] } := (sb.2 _ (Nat.ne_of_gt lte)).trans hT
    have new : ObjOk X.prog X.w (upd H s.heap.objs.size (.tup [.int (i : Nat), x])) h2 s.heap.objs.size (.tup [.int (i : Nat), x]) :=
      ⟨Nat.le_trans (show 2 ≤ 3 by decide) (by decide), [.int i tk, y], .cons ⟨_, rfl⟩ (.cons ru .nil), _, hT2, rfl, _, rfl⟩
    have I1 : Inv X pins σ (upd H s.heap.objs.size (.tup [.int (i : Nat), x])) { s with heap := h2, toks := tk + 1 } :=
      I.turnedNew (ch := [e, it]) (fun b ob hb q => by
        have b1 : b ≠ e := fun z => hb (by simp [z])
        have b2 : b ≠ it := fun z => hb (by simp [z])
        exact (sb.2 b b1).trans (hk b ob b1 b2 q)) hf (Nat.le_refl _) new
    refine ⟨.ref s.heap.objs.size, _, I1, rfl, ⟨_, x, rfl, I.hok.fresh (Nat.le_refl _), rfl, fun ys hy => by rw [I.tuple_inj hy hq]; exact hx⟩, ⟨⟨y, ?_⟩, ?_, hne⟩, fun b hb => ?_⟩
    · rw [show ((i + 1 : Nat) : Int) = (i : Int) + 1 by omega]
      exact he2
    · obtain ⟨o, q1, q2, q3⟩ := st'.1
      exact ⟨o, (sb.2 it (Ne.symm hne)).trans q1, q2, q3⟩
    · have lb : b < s.heap.objs.size := by
        rcases List.mem_cons.mp hb with z | z
        · rw [z]; exact lte
        · rw [List.mem_singleton.mp z]; exact lti
      rw [upd_ne (Nat.ne_of_lt lb)]
      exact (hf b hb).1
  done := by
    intro X hP hw hK hc i pins s σ H E I hf st hg
    subst hP hw hK
    obtain ⟨⟨old, he⟩, hit, hne⟩ := st
    obtain ⟨xs, hq, hx⟩ := hg
    obtain ⟨its, rv, p, hz⟩ := I.tuple hq
    have p' : s.heap.IsTuple a its.toArray := p
    obtain ⟨f0, f1, f2, f3, f4, f5⟩ := hf it (by simp)
    have hai : a ≠ it := fun z => by
      obtain ⟨o1, q1, c1, _⟩ := p'
      obtain ⟨o2, q2, c2, _⟩ := hit
      rw [z, q2] at q1
      cases q1
      rw [c2] at c1
      exact absurd c1 (by decide)
    have hn : i = its.toArray.size := by rw [List.size_toArray, ← rv.length, hx]
    subst hn
    exact wpAny_pyNext_enum_endD (Draws.tuple (show X.A.in1.handled = none from I.ok.hd hc) it a hai its.toArray) he ⟨hit, p'⟩ fun h' eb => ⟨rfl, I.turned (t' := s.toks) (fun b o hb q => eb b o hb q) f0 f1 f3 f4 f5⟩
  self := fun A i s Q E st h => wpAny_pyIter_enum st.1.choose_spec h
def iEnumA (K : PySem.W.Frag) (ta : TA) : TI := fun σ H R => ta σ H fun vs H1 => ∃ a xs, vs = [.ref a] ∧ ((SqL K H1 a xs ∧ R (Ite K a) H1) ∨ (SqT K H1 a xs ∧ R (Iet K a) H1))
theorem pi_enumA {X : Cx} {e : Expr} {ta : TA} {p pos tpos : Pos} {elts : List Expr} {kk : Nat} (hg : Gl X "enumerate") (hm : X.mg "enumerate" = none) (ha : PA X [e] ta) (hs : starEach [e] X.env = [(false, eval e X.env)] := by rfl) :
    PI X (.Tuple elts kk tpos) (.Call (.Name "enumerate" p) [e] [] pos) (iEnumA X.K ta) := by
  refine ⟨fun pins s σ H R I h => Call_ (ld_blt I hg hm boot_enumerate (PyProof.Rows.callWith_type1 (thn (ha.run pos pins s σ H _ I h) fun us s1 ⟨vs, H1, I1, r1, q1⟩ => ?_) hs rfl))⟩
  obtain ⟨a, xs, ex, q⟩ := q1
  subst ex
  obtain ⟨u, eu, r⟩ := vals1 r1
  subst eu
  cases r
  have hle : ∀ b ∈ [s1.heap.objs.size + 1, s1.heap.objs.size], FpOk X pins H1 b := fun b hb => by
    have hb : s1.heap.objs.size ≤ b := by
      rcases List.mem_cons.mp hb with z | z
      · rw [z]; exact Nat.le_add_right _ _
      · rw [List.mem_singleton.mp z]; exact Nat.le_refl _
    exact I1.fpOk hb (I1.hok.fresh hb)
  rcases q with ⟨hq, q⟩ | ⟨hq, q⟩
  · obtain ⟨its, rv, p', hz⟩ := I1.list hq
    exact call_enumerate_list p'.isList fun h' he hit hsz hk => wpAny_pyIter_enum he ⟨s1.heap.objs.size + 1, _, _, _, H1, rfl, I1.kept (t' := s1.toks) hk, turn_enum a (s1.heap.objs.size + 1) s1.heap.objs.size, ⟨⟨.none, he⟩, hit, Nat.succ_ne_self _⟩, hle, q⟩
  · obtain ⟨its, rv, p', hz⟩ := I1.tuple hq
    exact call_enumT (show s1.heap.IsTuple a its.toArray from p') fun h' he hit hk => wpAny_pyIter_enum he ⟨s1.heap.objs.size + 1, _, _, _, H1, rfl, I1.kept (t' := s1.toks) hk, turn_enumT a (s1.heap.objs.size + 1) s1.heap.objs.size, ⟨⟨.none, he⟩, hit, Nat.succ_ne_self _⟩, hle, q⟩
theorem walk_enumT {K : PySem.W.Frag} {a : Addr} {xs : List V} : Walk (Iet K a) xs.length (fun H => SqT K H a xs) (YPair (fun i => some (.int (i : Nat))) (fun i => xs[i]?)) := by
  refine ⟨fun i _ hi q => ⟨xs, xs[i], q, by simp [hi]⟩, fun _ q => ⟨xs, q, rfl⟩, fun i H v H' _ q y => ?_⟩
  obtain ⟨T, x, e1, e2, e3, e4⟩ := y
  exact ⟨T, .int (i : Nat), x, e1, e2, e3, rfl, e4 xs q⟩
section
variable {X : Cx} {E : XK} {tg iter a b c e : Expr} {fa fb fe : EF} {fA : AF} {pos : Pos}
theorem enum_items {K : KW} {ρ : List Addr} {F : Hp} {xs : List D} {us : List V} (rr : Reps K ρ F xs us) : ∀ (i : Nat) (x y : V), i < (enumL xs).length → (some (V.int (i : Nat)) : Option V) = some x → us[i]? = some y → ∃ d d', (enumL xs)[i]? = some (.tup [d, d']) ∧ pl [d, d'] = false ∧ Rep K ρ F d x ∧ Rep K ρ F d' y := fun i x y hi h1 h2 => by
  cases h1
  obtain ⟨d, hd, r⟩ := rr.get' h2
  have hi' : i < xs.length := by simpa [enumL] using hi
  have hd' : xs.getD i .non = d := by rw [List.getD_eq_getElem?_getD, hd]; rfl
  refine ⟨.int (i : Nat), d, ?_, rfl, rfl, r⟩
  simp only [enumL, List.getElem?_map, List.getElem?_range hi', Option.map_some, hd']
def enmA : List D → Option (List D) := fun ds => match ds with
  | [.lst xs] => some (enumL xs)
  | [.tup xs] => some (enumL xs)
  | _ => none
def sEnumA (fA : AF) : GF (List D) := bnd fA fun ds => rd fun _ => enmA ds
theorem di_enumA {p tpos : Pos} {elts : List Expr} {kk : Nat} (hg : Gl X "enumerate") (hm : X.mg "enumerate" = none) (ha : DA X E [e] fA) (hs : starEach [e] X.env = [(false, eval e X.env)] := by rfl) :
    DI X E (.Tuple elts kk tpos) (.Call (.Name "enumerate" p) [e] [] pos) (sEnumA fA) :=
  pi_imp (pi_enumA (ta := AQ X.KW X.mg E fA) hg hm ha hs) fun σ H R q => (EK.stepA q).imp fun ws H1 ⟨ds, hl, q1⟩ => by
    obtain ⟨ρ, F, hp, items, rv, hs, e, fin⟩ := EK.read (nil_app q1)
    unfold enmA at e
    split at e
    · rename_i xs
      cases e
      obtain ⟨v, rfl, p, us, rfl, hq, rr⟩ := reps1 rv
      exact ⟨p, us, rfl, .inl ⟨SqL.of (hs.sub _ _ hq), fin ρ F H1 (Ext.refl _ _ _) hs _ (walks_pair (by rw [show (enumL xs).length = us.length by simp [enumL, rr.len]]; exact walk_enum) (fun ρ' F' H' hp' _ sm s => SqL.of (s.sub _ _ (sm _ _ hq))) (enum_items rr))⟩⟩
    · rename_i xs
      cases e
      obtain ⟨v, rfl, p, us, rfl, hq, rr, _⟩ := reps1 rv
      exact ⟨p, us, rfl, .inr ⟨Same.tupS hs.sub hq, fin ρ F H1 (Ext.refl _ _ _) hs _ (walks_pair (by rw [show (enumL xs).length = us.length by simp [enumL, rr.len]]; exact walk_enumT) (fun ρ' F' H' hp' _ sm s => Same.tupS s.sub (Same.tupS sm hq)) (enum_items rr))⟩⟩
    · cases e
@[simp] theorem enmA_l {xs : List D} : enmA [.lst xs] = some (enumL xs) := rfl
@[simp] theorem enmA_t {xs : List D} : enmA [.tup xs] = some (enumL xs) := rfl
@[simp] theorem e_sEnumA {env : Env8} {hp : Hp8} : sEnumA fA env hp = bndK (fA env hp) (fun ds => rd fun _ => enmA ds) env := rfl
end
end HI

namespace HI
open PySem L2 PyProof.Rows
open AutoSeq1 (wpAny_loadPart')
/-! ### tuple * int -/
theorem tupMul0 (l : Addr) (items : Array Value) (n : Nat) (dd : Option Addr) (sl : Array (Option Value)) (u : Tok) (c1 : (items.isEmpty || (0 : Int) == 1) = false) :
    Meets (Builtin.«tuple.__mul__» ⟨[.ref l, .int 0 u], []⟩) (fun _ R s => s.heap.get? l = some { cls := .type "tuple", dict := dd, data := .seq items n, slots := sl } ∧
      R (.ok (.ret (Value.ref s.heap.objs.size))) { s with heap := s.heap.push { cls := Value.type "tuple", data := Data.seq #[] }, toks := s.toks }) :=
  .of_wp fun prog w A R s h => by
    obtain ⟨hp, g, d, tk, os⟩ := s
    obtain ⟨hl, h⟩ := h
    have f1 := AutoSeq1.idx_int
    wp_walk using wpAny_loadPart' hl
    repeat (first
      | (refine wpAny_ite_false (decide_eq_false (by rw [c1]; exact Bool.false_ne_true)) ?_; wp_walk using wpAny_loadPart' hl)
      | (refine wpAny_ite_true (by simp) ?_; wp_walk using wpAny_loadPart' hl))
    exact ⟨_, rfl, h⟩
theorem tupMul1 (l : Addr) (items : Array Value) (n : Nat) (dd : Option Addr) (sl : Array (Option Value)) (u : Tok) :
    Meets (Builtin.«tuple.__mul__» ⟨[.ref l, .int 1 u], []⟩) (fun _ R s => s.heap.get? l = some { cls := .type "tuple", dict := dd, data := .seq items n, slots := sl } ∧ R (.ok (.ret (Value.ref l))) s) :=
  .of_wp fun prog w A R s h => by
    obtain ⟨hp, g, d, tk, os⟩ := s
    obtain ⟨hl, h⟩ := h
    have f1 := AutoSeq1.idx_int
    wp_walk using wpAny_loadPart' hl
    repeat (first
      | (refine wpAny_ite_true (by simp) ?_; wp_walk using wpAny_loadPart' hl))
    exact ⟨_, rfl, h⟩
section
variable {X : Cx} {E : XK} {a b c : Expr} {fa fb fc : EF} {pos : Pos}
/-- the walk to tuple.__mul__ -/
theorem rep_road {pins : List (Addr × Obj)} {s : Shared} {σ : L2.St} {H : Hp} {l : Addr} {xs : List V} {k : Int} {t : Tok} {Q : Value → Shared → Prop} (I : Inv X pins σ H s) (hT : SqT X.K H l xs)
    (m : ∀ (its : List Value) (n : Nat) (dd : Option Addr) (sl : Array (Option Value)), Vals xs its → s.heap.get? l = some { cls := .type "tuple", dict := dd, data := .seq its.toArray n, slots := sl } →
      ∃ P, Meets (Builtin.«tuple.__mul__» ⟨[.ref l, .int k t], []⟩) P ∧ ∀ (A : Around) (R : Result → Shared → Prop), (∀ v s', Q v s' → R (.ok (.ret v)) s') → P A R s) : wpAny (model X.prog X.w) X.A (binaryOp .Mult (.ref l) (.int k t)) Q X.xe s := by
  obtain ⟨its, r, ⟨⟨cls, dd, data, sl⟩, ho, hc, n, hd⟩, hs⟩ := I.tuple hT
  simp only at hc hd
  subst hc hd
  obtain ⟨P, mm, hP⟩ := m its n dd sl r ho
  exact wpAny_binaryOp_repeat_ref (T := "tuple") (U := "int") (by decide) ⟨_, ho, rfl⟩ (fun s' => typeIs_int s' k t) noFill_tuple_mul F.fills_int_mul F.slot_int_rmul repeat_tuple F.slot_int_index.lookup
    (call_meets F.slot_int_rmul (typeIs_int s k t) F.entry_int_rmul (F.args_int_rmul_2 _ _) (int_rmul_tuple k t l its.toArray n dd sl)
      ⟨ho, rfl, ⟨_, ho, rfl⟩, call_meets F.slot_tuple_mul ⟨_, ho, rfl⟩ F.entry_tuple_mul (F.args_tuple_mul_2 _ _) mm (hP _ _ fun v s' q => q)⟩)
def rRepS (K : PySem.W.Frag) : R2 := fun x y H Q => ∃ l k xs, x = .ref l ∧ y = .int k ∧ SqT K H l xs ∧ xs ≠ [] ∧ 0 ≤ k ∧ k ≤ 1000 ∧ xs.length ≤ 1000 ∧
  (k = 0 → ∀ (p : Addr) (o : Obj), H p = none → o.dict = none → Q (.ref p) (upd H p (.frz o (.tup [])))) ∧ (k = 1 → Q (.ref l) H) ∧ (2 ≤ k → ∀ p, H p = none → Q (.ref p) (upd H p (.tup (List.replicate k.toNat xs).flatten)))
theorem op_repS : OpR X (binaryOp .Mult) (rRepS X.K) := by
  intro pins s σ H x y v u Q I rx ry h
  obtain ⟨l, k, xs, ex, ey, hT, hne, h1, h2, hz, q0, q1, q2⟩ := h
  by_cases hk : 2 ≤ k
  · exact op_repT pins s σ H x y v u Q I rx ry ⟨l, k, xs, ex, ey, hT, hne, hk, h2, hz, q2 hk⟩
  · subst ex ey
    cases rx
    obtain ⟨t, et⟩ := ry
    subst et
    rcases (show k = 0 ∨ k = 1 by omega) with e | e
    · subst e
      refine rep_road I hT fun its n dd sl r ho => ⟨_, tupMul0 l its.toArray n dd sl t ?_, fun A R hR => ⟨ho, hR _ _ ?_⟩⟩
      · cases its with
        | nil =>
          cases r
          exact absurd rfl hne
        | cons _ _ => rfl
      · have lt := laidT (t := s.toks) (xs := []) (us := []) I (Nat.zero_le _) .nil
        exact ⟨.ref s.heap.objs.size, _, lt.2, rfl, q0 rfl _ _ lt.1 rfl⟩
    · subst e
      exact rep_road I hT fun its n dd sl r ho => ⟨_, tupMul1 l its.toArray n dd sl t, fun A R hR => ⟨ho, hR _ _ ⟨.ref l, H, I, rfl, q1 rfl⟩⟩⟩
def mulT (x y : D) (_ : Hp8) : Option D := match x, y with
  | .tup a, .int k => if 0 ≤ k ∧ k ≤ 1000 ∧ a.length ≤ 1000 ∧ a ≠ [] ∧ pl a = false then some (.tup (List.replicate k.toNat a).flatten) else none
  | _, _ => none
def sMulT : EF → EF → EF := sOp (sRd2 mulT)
theorem pl_app {a b : List D} : pl (a ++ b) = (pl a && pl b) := by simp [pl]
theorem pl_rep {a : List D} (h : pl a = false) : ∀ {n : Nat}, 0 < n → pl (List.replicate n a).flatten = false
  | 0, h => absurd h (Nat.lt_irrefl _)
  | n + 1, _ => by rw [List.replicate_succ, List.flatten_cons, pl_app, h]; rfl
theorem ok_mulT : OkOp X E (sRd2 mulT) (rRepS X.K) := fun x y v w σ H Q h => by
  obtain ⟨ρ, F, hp, d, rv, hs, e, fin⟩ := EK.read h
  obtain ⟨r1, r2⟩ := rep2 rv
  unfold mulT at e
  split at e
  · rename_i as k
    split at e
    · rename_i hl
      cases e
      obtain ⟨h1, h2, h3, h4, h5⟩ := hl
      obtain ⟨p, ws, rfl, q1, rr1⟩ := tup_at hs r2
      have l1 := rr1.len
      refine ⟨p, k, ws, rfl, r1, q1, fun z => h4 (List.eq_nil_of_length_eq_zero (by rw [l1, z]; rfl)), h1, h2, by omega, fun z p o hn ho => ?_, fun z => ?_, fun z n hn => ?_⟩
      · subst z
        obtain ⟨s', x', rr⟩ := new_tupP (xs := []) (ws := []) hs rfl hn ho
        exact fin _ _ _ x' s' _ rr
      · subst z
        have : (List.replicate (1 : Int).toNat as).flatten = as := by simp
        rw [this] at fin
        exact fin ρ F H (Ext.refl _ _ _) hs _ r2
      · obtain ⟨s', x', rr⟩ := new_tup hs (rr1.rep k.toNat) hn (pl_rep h5 (by omega))
        exact fin _ _ _ x' s' _ rr
    · cases e
  · cases e
theorem de_mulT (ha : DE X E a fa) (hb : DE X E b fb) : DE X E (.BinOp a .Mult b pos) (sMulT fa fb) := de_op op_repS ok_mulT ha hb
@[simp] theorem e_sMulT {env : Env8} {hp : Hp8} : sMulT fa fb env hp = sOp (sRd2 mulT) fa fb env hp := rfl
@[simp] theorem e_mulT {x : List D} {k : Int} {hp : Hp8} : mulT (.tup x) (.int k) hp = if 0 ≤ k ∧ k ≤ 1000 ∧ x.length ≤ 1000 ∧ x ≠ [] ∧ pl x = false then some (.tup (List.replicate k.toNat x).flatten) else none := rfl
end
end HI

namespace HI
open PySem L2 PyProof.Rows
/-! ### dict cells: keys are ints and texts -/
def keyD : D → Option Key
  | .int i => some (.inl i)
  | .str z => some (.inr z)
  | _ => none
theorem keyD_v {K : KW} {ρ : List Addr} {F : Hp} {d : D} {v : V} {k : Key} (e : keyD d = some k) (r : Rep K ρ F d v) : v = kV k := by
  cases d <;> cases e <;> exact r
def valD (kvs : List (Key × D)) (k : Key) : Option D := (kvs.find? fun kv => decide (kv.1 = k)).map (·.2)
def putD (kvs : List (Key × D)) (k : Key) (d : D) : List (Key × D) := if kvs.any (fun kv => decide (kv.1 = k)) then kvs.map (fun kv => if kv.1 = k then (kv.1, d) else kv) else kvs ++ [(k, d)]
def dicOf (hp : Hp8) : D → Option (Nat × List (Key × D))
  | .ref n => match hp[n]? with
    | some (.dic kvs) => some (n, kvs)
    | _ => none
  | _ => none
/-- the same keys, the values stand for the data -/
def KvR (K : KW) (ρ : List Addr) (F : Hp) (kvs : List (Key × D)) (ws : List (Key × V)) : Prop := ws.map (·.1) = kvs.map (·.1) ∧ Reps K ρ F (kvs.map (·.2)) (ws.map (·.2))
section
variable {K : KW} {ρ : List Addr} {F H : Hp} {hp : Hp8}
theorem dicOf_at {d : D} {v : V} {n : Nat} {kvs : List (Key × D)} (hs : Sim K ρ F H hp) (r : Rep K ρ F d v) (e : dicOf hp d = some (n, kvs)) : ∃ a ws, v = .ref a ∧ ρ[n]? = some a ∧ hp[n]? = some (.dic kvs) ∧ H a = some (.dK ws) ∧ KvR K ρ F kvs ws := by
  cases d with
  | ref m =>
    simp only [dicOf] at e
    split at e
    · rename_i ds hc
      cases e
      obtain ⟨a, ev, q⟩ := r
      obtain ⟨ws, q1, q2, q3⟩ := hs.cell n _ a hc q
      exact ⟨a, ws, ev, q, hc, q1, q2, q3⟩
    · cases e
  | _ => cases e
theorem KvR.nil_iff {ws : List (Key × V)} (h : KvR K ρ F [] ws) : ws = [] := by
  cases ws with
  | nil => rfl
  | cons _ _ => cases h.1
theorem KvR.cons {k : Key} {d : D} {kvs : List (Key × D)} {ws : List (Key × V)} (h : KvR K ρ F ((k, d) :: kvs) ws) : ∃ v r, ws = (k, v) :: r ∧ Rep K ρ F d v ∧ KvR K ρ F kvs r := by
  cases ws with
  | nil => cases h.1
  | cons p r =>
    obtain ⟨k', v⟩ := p
    have h1 : k' = k ∧ r.map (·.1) = kvs.map (·.1) := by simpa using h.1
    obtain ⟨rfl, h1⟩ := h1
    obtain ⟨v', r', e, q1, q2⟩ := h.2
    cases e
    exact ⟨v, r, rfl, q1, h1, q2⟩
theorem KvR.mk {k : Key} {d : D} {v : V} {kvs : List (Key × D)} {ws : List (Key × V)} (q : Rep K ρ F d v) (h : KvR K ρ F kvs ws) : KvR K ρ F ((k, d) :: kvs) ((k, v) :: ws) := ⟨by simp [h.1], _, _, rfl, q, h.2⟩
theorem KvR.val : ∀ {kvs : List (Key × D)} {ws : List (Key × V)} {k : Key}, KvR K ρ F kvs ws → match valD kvs k with | some d => ∃ v, valV ws k = some v ∧ Rep K ρ F d v | none => valV ws k = none
  | [], ws, k, h => by
    rw [h.nil_iff]
    rfl
  | (k', d) :: kvs, ws, k, h => by
    obtain ⟨v, r, e, q, h'⟩ := h.cons
    subst e
    by_cases hk : k' = k
    · subst hk
      have e1 : valD ((k', d) :: kvs) k' = some d := by simp [valD]
      rw [e1]
      exact ⟨v, valV_pos rfl, q⟩
    · have e1 : valD ((k', d) :: kvs) k = valD kvs k := by simp [valD, hk]
      rw [e1, valV_neg hk]
      exact KvR.val h'
theorem KvR.any : ∀ {kvs : List (Key × D)} {ws : List (Key × V)} {k : Key}, KvR K ρ F kvs ws → (ws.any fun kv => decide (kv.1 = k)) = kvs.any fun kv => decide (kv.1 = k)
  | [], ws, k, h => by rw [h.nil_iff]; rfl
  | (k', d) :: kvs, ws, k, h => by
    obtain ⟨v, r, e, q, h'⟩ := h.cons
    subst e
    simp only [List.any_cons, KvR.any h']
theorem KvR.repl : ∀ {kvs : List (Key × D)} {ws : List (Key × V)} {k : Key} {d : D} {v : V}, KvR K ρ F kvs ws → Rep K ρ F d v → KvR K ρ F (kvs.map fun kv => if kv.1 = k then (kv.1, d) else kv) (ws.map fun kv => if kv.1 = k then (kv.1, v) else kv)
  | [], ws, k, d, v, h, r => by rw [h.nil_iff]; exact ⟨rfl, rfl⟩
  | (k', d') :: kvs, ws, k, d, v, h, r => by
    obtain ⟨v', t, e, q, h'⟩ := h.cons
    subst e
    simp only [List.map_cons]
    by_cases hk : k' = k
    · rw [if_pos hk, if_pos hk]
      exact KvR.mk r (KvR.repl h' r)
    · rw [if_neg hk, if_neg hk]
      exact KvR.mk q (KvR.repl h' r)
theorem KvR.app : ∀ {kvs es : List (Key × D)} {ws us : List (Key × V)}, KvR K ρ F kvs ws → KvR K ρ F es us → KvR K ρ F (kvs ++ es) (ws ++ us)
  | [], es, ws, us, h, r => by rw [h.nil_iff]; exact r
  | (k', d') :: kvs, es, ws, us, h, r => by
    obtain ⟨v', t, e, q, h'⟩ := h.cons
    subst e
    exact KvR.mk q (KvR.app h' r)
theorem KvR.put {kvs : List (Key × D)} {ws : List (Key × V)} {k : Key} {d : D} {v : V} (h : KvR K ρ F kvs ws) (r : Rep K ρ F d v) : KvR K ρ F (putD kvs k d) (L2.putK ws k v) := by
  unfold putD L2.putK
  rw [h.any]
  split
  · exact KvR.repl h r
  · exact KvR.app h (KvR.mk r ⟨rfl, rfl⟩)
theorem KvR.len {kvs : List (Key × D)} {ws : List (Key × V)} (h : KvR K ρ F kvs ws) : ws.length = kvs.length := by
  have := congrArg List.length h.1
  simpa using this
theorem putD_len {kvs : List (Key × D)} {k : Key} {d : D} : (putD kvs k d).length ≤ kvs.length + 1 := by
  unfold putD
  split <;> simp
end
end HI

namespace HI
open PySem L2 PyProof.Rows
section
variable {X : Cx} {E : XK} {a b c o i e : Expr} {fa fb fc fo fi fe : EF} {fA : AF} {pos : Pos}
/-! dict(t) of a tuple of pairs -/
theorem prs_of {pins : List (Addr × Obj)} {σ : L2.St} {H : Hp} {s : Shared} (I : Inv X pins σ H s) : ∀ {ps : List Addr} {kvs : List (Key × V)}, Paired (fun p kv => SqT X.K H p [kV kv.1, kv.2]) ps kvs →
    ∃ (vs : List (Key × Value)) (pv : List (Value × Value)), KV kvs vs ∧ vs.length = ps.length ∧ pv.length = ps.length ∧ ∀ j, j < ps.length → ∃ (p : Addr) (k : Key) (u v : Value), ps[j]? = some p ∧ vs[j]? = some (k, v) ∧ pv[j]? = some (u, v) ∧ IsTup s.heap p #[u, v] ∧ keyIs k u = true
  | _, _, .nil => ⟨[], [], .nil, rfl, rfl, fun j h => absurd h (Nat.not_lt_zero _)⟩
  | _, _, .cons (a := p) (b := kv) h t => by
    obtain ⟨vs, pv, r, l1, l2, f⟩ := prs_of I t
    obtain ⟨its, rv, ht, _⟩ := I.tuple h
    obtain ⟨u, y, ei, ru, ry⟩ := vals2 rv
    subst ei
    refine ⟨(kv.1, y) :: vs, (u, y) :: pv, .cons ⟨rfl, ry⟩ r, by simp [l1], by simp [l2], fun j hj => ?_⟩
    cases j with
    | zero => exact ⟨p, kv.1, u, y, rfl, rfl, rfl, ht, kV_is (P := X.prog) (w := X.w) ru⟩
    | succ j =>
      obtain ⟨p', k', u', v', e1, e2, e3, e4, e5⟩ := f j (by simpa using hj)
      exact ⟨p', k', u', v', by simpa using e1, by simpa using e2, by simpa using e3, e4, e5⟩
theorem call_dictT (hcalm : X.calm = true) : CallR X (.type "dict") (fun xs H Q => ∃ (a : Addr) (ob : Obj) (ps : List Addr) (kvs : List (Key × V)), xs = [.ref a] ∧ H a = some (.frz ob (.tup (ps.map V.ref))) ∧ ob.dict = none ∧ Paired (fun p kv => SqT X.K H p [kV kv.1, kv.2]) ps kvs ∧
    ∀ p, H p = none → Q (.ref p) (upd H p (.dK (mergeK [] kvs)))) := by
  intro pins s σ H xs us Q I r q
  obtain ⟨a, ob, ps, kvs, ex, ha, hod, hp, q⟩ := q
  subst ex
  obtain ⟨u, eu, rx⟩ := vals1 r
  subst eu
  cases rx
  obtain ⟨g, hz, its, rv, ob', g', hcl, n, hd⟩ := I.hok a _ ha
  rw [g] at g'
  cases g'
  have ei := refs_at rv
  subst ei
  rw [List.length_map] at hz
  obtain ⟨vs, pv, rel, l1, l2, f⟩ := prs_of I hp
  have hpi : PairItems s.heap (ps.map Value.ref).toArray (fun j => ps.getD j 0) pv := by
    refine ⟨by simp [l2], fun j k v e => ?_⟩
    have hj : j < ps.length := by rw [← l2]; exact (List.getElem?_eq_some_iff.mp e).1
    obtain ⟨p', k', u', v', e1, e2, e3, e4, e5⟩ := f j hj
    rw [e] at e3
    cases e3
    have eg : ps.getD j 0 = p' := by rw [List.getD_eq_getElem?_getD, e1]; rfl
    show _ = some (Value.ref (ps.getD j 0)) ∧ PairAt s.heap (ps.getD j 0) k v
    rw [eg]
    exact ⟨by simp [e1], .inl e4⟩
  have hph : PairsHave (mixKind X.prog X.w) pv.length (PairRel pv) vs := by
    refine ⟨by rw [l1, l2], fun j key v e => ?_⟩
    have hj : j < ps.length := by rw [← l2]; exact (List.getElem?_eq_some_iff.mp e).1
    obtain ⟨p', k', u', v', e1, e2, e3, e4, e5⟩ := f j hj
    have e : pv[j]? = some (key, v) := e
    rw [e] at e3
    cases e3
    exact ⟨k', e2, e5⟩
  refine PySem.call_dict_pairs (knd := mixKind X.prog X.w) (kvs := vs) (PairArg.tuple a (ps.map Value.ref).toArray (fun j => ps.getD j 0) pv) (I.ok.hd hcalm) ⟨⟨ob, n, g, hcl, hod, hd⟩, hpi⟩ hph (by rw [l2]; exact hz) fun h' tk hd' k => ?_
  have hm : (s.heap.objs.size == sysModules) = false := beq_eq_false_iff_ne.mpr (Nat.ne_of_gt I.big)
  have hlen : (mergeK [] kvs).length ≤ sizeLine := by
    have := length_mergeK kvs []
    have h2 : kvs.length = vs.length := rel.length
    rw [List.length_nil] at this
    omega
  have ok : ObjOk X.prog X.w (upd H s.heap.objs.size (.dK (mergeK [] kvs))) h' s.heap.objs.size (.dK (mergeK [] kvs)) := ⟨hlen, hm, merged [] vs, KV.merge rel .nil, hd'⟩
  exact ⟨.ref s.heap.objs.size, _, I.laid (t' := tk) (fun b u e => k b u (fun z => nomatch z) e) (Nat.le_refl _) ok, rfl, q _ (I.hok.fresh (Nat.le_refl _))⟩
def pairD : D → Option (Key × D)
  | .tup [.int i, .int j] => some (.inl i, .int j)
  | _ => none
def pairsD : List D → Option (List (Key × D))
  | [] => some []
  | d :: ds => match pairD d, pairsD ds with
    | some p, some r => some (p :: r)
    | _, _ => none
def mergeD (kvs more : List (Key × D)) : List (Key × D) := more.foldl (fun acc kv => putD acc kv.1 kv.2) kvs
theorem pairsD_pl : ∀ {ds : List D} {r : List (Key × D)}, pairsD ds = some r → pl ds = true
  | [], _, _ => rfl
  | d :: ds, r, h => by
    simp only [pairsD] at h
    split at h
    · rename_i p r' h1 h2
      have : isP d = true := by
        unfold pairD at h1
        split at h1
        · rfl
        · cases h1
      simp only [pl, List.all_cons, this, Bool.true_and]
      exact pairsD_pl h2
    · cases h
theorem KvR.merge {K : KW} {ρ : List Addr} {F : Hp} : ∀ {more : List (Key × D)} {ms : List (Key × V)} {kvs : List (Key × D)} {ws : List (Key × V)}, KvR K ρ F more ms → KvR K ρ F kvs ws → KvR K ρ F (mergeD kvs more) (mergeK ws ms)
  | [], ms, kvs, ws, h, h' => by rw [h.nil_iff]; exact h'
  | (k, d) :: more, ms, kvs, ws, h, h' => by
    obtain ⟨v, r, e, q, h2⟩ := h.cons
    subst e
    exact KvR.merge (more := more) (ms := r) h2 (h'.put q)
theorem pairsD_at {K : KW} {ρ : List Addr} {F H : Hp} {hp : Hp8} (hs : Sim K ρ F H hp) : ∀ {ds : List D} {vs : List V} {r : List (Key × D)}, pairsD ds = some r → Reps K ρ F ds vs →
    ∃ (ps : List Addr) (kvs : List (Key × V)), vs = ps.map V.ref ∧ Paired (fun p kv => SqT K.1 H p [kV kv.1, kv.2]) ps kvs ∧ KvR K ρ F r kvs
  | [], vs, r, h, rr => by
    cases h
    rw [show vs = [] from rr]
    exact ⟨[], [], rfl, .nil, rfl, rfl⟩
  | d :: ds, vs, r, h, rr => by
    simp only [pairsD] at h
    split at h
    · rename_i p r' h1 h2
      cases h
      obtain ⟨v, t, ev, q1, q2⟩ := rr
      subst ev
      obtain ⟨ps, kvs, e1, e2, e3⟩ := pairsD_at hs h2 q2
      subst e1
      unfold pairD at h1
      split at h1
      · rename_i i j
        cases h1
        obtain ⟨a, ws, rfl, hq, rr⟩ := tup_at hs q1
        obtain ⟨x, y, rfl, r1, r2⟩ := reps2 rr
        have r1 : x = .int i := r1
        have r2 : y = .int j := r2
        subst r1 r2
        exact ⟨a :: ps, (.inl i, .int j) :: kvs, rfl, .cons hq e2, KvR.mk rfl e3⟩
      · cases h1
    · cases h
def gDictT (ds : List D) : EF := match ds with
  | [.tup es] => match pairsD es with
    | some r => mkCell (.dic (mergeD [] r))
    | none => fun _ _ => none
  | _ => fun _ _ => none
theorem boot_dict' : bootBuiltins "dict" = some (.type "dict") := by decide +kernel
def sDictT (fA : AF) : EF := sCall gDictT fA
theorem ok_dictT : OkCall X E gDictT (fun xs H Q => ∃ (a : Addr) (ob : Obj) (ps : List Addr) (kvs : List (Key × V)), xs = [.ref a] ∧ H a = some (.frz ob (.tup (ps.map V.ref))) ∧ ob.dict = none ∧ Paired (fun p kv => SqT X.K H p [kV kv.1, kv.2]) ps kvs ∧
    ∀ p, H p = none → Q (.ref p) (upd H p (.dK (mergeK [] kvs)))) := fun ds vs σ H Q q => by
  unfold gDictT at q
  split at q
  · rename_i es
    split at q
    · rename_i r hr
      obtain ⟨ρ, F, hp, rv, hs, fin⟩ := EK.cell q
      obtain ⟨v, rfl, a, ws, rfl, hq, rr, hpl⟩ := reps1 rv
      obtain ⟨ob, hF, hod⟩ := hpl (pairsD_pl hr)
      obtain ⟨ps, kvs, e1, e2, e3⟩ := pairsD_at hs hr rr
      subst e1
      refine ⟨a, ob, ps, kvs, rfl, hs.sub _ _ hF, hod, e2, fun p hn => fin p _ hn ?_⟩
      have e4 : KvR X.KW ρ F (mergeD [] r) (mergeK [] kvs) := KvR.merge e3 ⟨rfl, rfl⟩
      exact ⟨mergeK [] kvs, upd_same, e4.1, Reps.mono (Same.refl _) (List.prefix_append _ _) _ _ e4.2⟩
    · exact (EK.none q).elim
  · exact (EK.none q).elim
end
end HI

namespace HI
open PySem L2 PyProof.Rows
section
variable {X : Cx} {E : XK} {a b c o i e : Expr} {fa fb fc fo fi fe : EF} {fA : AF} {pos : Pos}
theorem de_dictT {p : Pos} (hc : X.calm = true) (hg : Gl X "dict") (hm : X.mg "dict" = none) (ha : DA X E [a] fA) (he : starEach [a] X.env = (false, eval a X.env) :: starEach [] X.env := by rfl) : DE X E (.Call (.Name "dict" p) [a] [] pos) (sDictT fA) :=
  de_callT (call_dictT hc) ok_dictT hg hm boot_dict' ha (he := he)
/-! k in d, k not in d -/
def inDic (neg : Bool) (x y : D) (hp : Hp8) : Option Bool := match dicOf hp y, keyD x with
  | some (_, kvs), some k => some (if neg then !(valD kvs k).isSome else (valD kvs k).isSome)
  | _, _ => none
theorem dget_of {K : KW} {ρ : List Addr} {F H : Hp} {a : Addr} {kvs : List (Key × D)} {ws : List (Key × V)} {k : Key} (hw : H a = some (.dK ws)) (kv : KvR K ρ F kvs ws) : ∃ ov, DGet H a (kV k) ov ∧ ov.isSome = (valD kvs k).isSome := by
  refine ⟨valV ws k, DGet.k hw, ?_⟩
  have := kv.val (k := k)
  cases h : valD kvs k with
  | none =>
    rw [h] at this
    rw [show valV ws k = none from this]
    rfl
  | some d =>
    rw [h] at this
    obtain ⟨v, e, _⟩ := this
    rw [e]
    rfl
theorem op_inDic (hu : X.A.units + 1 < cLine) : OpR X (compareOp .In) (fun x y H Q => ∃ a ov, y = V.ref a ∧ DGet H a x ov ∧ Q (.bl ov.isSome) H) := by
  intro pins s σ H x y v u Q I rx ry h
  obtain ⟨a, ov, ey, g, q⟩ := h
  subst ey
  cases ry
  exact d_in hu I g rx fun s' I' => ⟨.bl ov.isSome, H, I', rfl, q⟩
theorem op_notInDic (hu : X.A.units + 1 < cLine) : OpR X (compareOp .NotIn) (fun x y H Q => ∃ a ov, y = V.ref a ∧ DGet H a x ov ∧ Q (.bl (!ov.isSome)) H) := by
  intro pins s σ H x y v u Q I rx ry h
  obtain ⟨a, ov, ey, g, q⟩ := h
  subst ey
  cases ry
  exact d_notIn hu I g rx fun s' I' => ⟨.bl (!ov.isSome), H, I', rfl, q⟩
theorem c_inDic (hu : X.A.units + 100 < cLine) : Cmp X .In (inDic false) := ⟨_, op_inDic (by omega), fun x y v w ρ F H hp bb Q hs r1 r2 h q => by
  unfold inDic at h
  split at h
  · rename_i n kvs k h1 h2
    obtain ⟨a, ws, rfl, _, _, hw, kv⟩ := dicOf_at hs r2 h1
    obtain ⟨ov, g, ei⟩ := dget_of (k := k) hw kv
    cases h
    rw [keyD_v h2 r1]
    exact ⟨a, ov, rfl, g, by rw [ei]; exact q⟩
  · cases h⟩
theorem c_notInDic (hu : X.A.units + 100 < cLine) : Cmp X .NotIn (inDic true) := ⟨_, op_notInDic (by omega), fun x y v w ρ F H hp bb Q hs r1 r2 h q => by
  unfold inDic at h
  split at h
  · rename_i n kvs k h1 h2
    obtain ⟨a, ws, rfl, _, _, hw, kv⟩ := dicOf_at hs r2 h1
    obtain ⟨ov, g, ei⟩ := dget_of (k := k) hw kv
    cases h
    rw [keyD_v h2 r1]
    exact ⟨a, ov, rfl, g, by rw [ei]; exact q⟩
  · cases h⟩
/-! d[k] -/
def getDic (x y : D) (hp : Hp8) : Option D := match dicOf hp x, keyD y with
  | some (_, kvs), some k => valD kvs k
  | _, _ => none
def sDGet : EF → EF → EF := sOp (sRd2 getDic)
theorem de_dget (hu : X.A.units + 100 < cLine) (ho : DE X E o fo) (hi : DE X E i fi) (hs : NoSl i := by exact fun _ _ => rfl) : DE X E (.Subscript o i pos) (sDGet fo fi) :=
  pe_imp (pe_dget (td := EQ X.KW X.mg E fo) (ty := EQ X.KW X.mg E fi) (by omega) ho hi hs) fun σ H Q q => (EK.step q).imp fun v H1 ⟨x, q1⟩ => (EK.step q1).imp fun w H2 ⟨y, q2⟩ => by
    obtain ⟨ρ, F, hp, d, rv, hs, e, fin⟩ := EK.read q2
    obtain ⟨r1, r2⟩ := rep2 rv
    unfold getDic at e
    split at e
    · rename_i n kvs k h1 h2
      obtain ⟨a, ws, rfl, _, _, hw, kv⟩ := dicOf_at hs r2 h1
      have hv := kv.val (k := k)
      rw [e] at hv
      obtain ⟨v', e', rd'⟩ := hv
      rw [keyD_v h2 r1]
      have g := DGet.k (k := k) hw
      rw [e'] at g
      exact ⟨a, v', rfl, g, fin ρ F H2 (Ext.refl _ _ _) hs _ rd'⟩
    · cases e
/-! d[k] = v -/
theorem set_dic (hu : X.A.units + 1 < cLine) : PSet X (fun o i v H Q => ∃ a H', o = V.ref a ∧ DPut H a i v H' ∧ Q H') := by
  intro pins s σ H o i v ov iv u Q I ro ri rv h
  obtain ⟨a, H', eo, g, q⟩ := h
  subst eo
  cases ro
  exact d_setItem hu I g ri rv fun s' I' => ⟨H', I', q⟩
def setDic (x y d : D) (hp : Hp8) : Option (Nat × List (Key × D)) := match dicOf hp x, keyD y with
  | some (n, kvs), some k => if kvs.length < 1000000 then some (n, putD kvs k d) else none
  | _, _ => none
def gDix (fo fi : EF) : G8 := fun d env hp => match fo env hp with
  | some (.ok o, hp1) => match fi env hp1 with
    | some (.ok i, hp2) => match setDic o i d hp2 with
      | some (n, kvs) => some (env, hp2.set n (.dic kvs))
      | none => none
    | _ => none
  | _ => none
theorem dg_dix {o i : Expr} {fo fi : EF} (hu : X.A.units + 100 < cLine) (ho : DE X E o fo) (hi : DE X E i fi)
    (ha : ∀ v, assign (.Subscript o i pos) X.env v = (do
      let ov ← holding [v] (eval o X.env)
      let iv ← holding [v, ov] (eval i X.env)
      standAt pos
      holding [v, ov, iv] (setItem ov iv v)
      release [v, ov, iv] []) := by intro _; rfl) : DG X (.Subscript o i pos) (gDix fo fi) :=
  pg_imp (pg_sub (to := EQ X.KW X.mg E fo) (ti := EQ X.KW X.mg E fi) ho hi (set_dic (by omega)) ha) fun v σ H Q ⟨d, ρ, F, env, hp, env', hp', rd, he, hs, e, fin⟩ => by
    unfold gDix at e
    split at e
    · rename_i od hp1 qo
      split at e
      · rename_i id hp2 qi
        cases q : setDic od id d hp2 with
        | none => rw [q] at e; cases e
        | some p =>
          obtain ⟨n, kvs'⟩ := p
          rw [q] at e
          cases e
          refine ⟨ρ, F, env, hp, .ok od, hp1, rfl, he, hs, qo, fun ρ1 F1 H1 x1 s1 ov rov => ?_⟩
          refine ⟨ρ1, F1, env, hp1, .ok id, hp2, rfl, he.mono x1.same x1.pre, s1, qi, fun ρ2 F2 H2 x2 s2 iv riv => ?_⟩
          have x12 := x1.trans s1 x2
          unfold setDic at q
          split at q
          · rename_i n' kvs k hc hk
            split at q
            · rename_i hl
              cases q
              obtain ⟨a, ws, rfl, hρ, hcl, hw, kv⟩ := dicOf_at s2 (Rep.mono x2.same x2.pre _ _ rov) hc
              rw [keyD_v hk riv]
              have rd2 := Rep.mono x12.same x12.pre _ _ (rep1 rd)
              have kv' := kv.put (k := k) rd2
              refine ⟨a, _, rfl, DPut.k hw (by rw [kv.len]; exact Nat.lt_of_lt_of_le hl (by decide)), ?_⟩
              obtain ⟨s', x'⟩ := s2.put hρ hcl rfl (.dK (L2.putK ws k v)) (.dic (putD kvs k d)) ⟨_, upd_same, kv'.1, kv'.2⟩
              exact fin _ _ _ (x12.trans s2 x') s' σ ((he.mono x12.same x12.pre).mono x'.same x'.pre)
            · cases q
          · cases q
      · cases e
    · cases e
/-! sorted(d) -/
def insI (x : Int) : List Int → List Int
  | [] => [x]
  | y :: ys => if x ≤ y then x :: y :: ys else y :: insI x ys
def srt : List Int → List Int
  | [] => []
  | x :: xs => insI x (srt xs)
theorem insI_perm (x : Int) : ∀ ys : List Int, (insI x ys).Perm (x :: ys)
  | [] => .refl _
  | y :: ys => by
    unfold insI
    split
    · exact .refl _
    · exact ((insI_perm x ys).cons y).trans (.swap x y ys)
theorem srt_perm : ∀ xs : List Int, (srt xs).Perm xs
  | [] => .refl _
  | x :: xs => (insI_perm x (srt xs)).trans ((srt_perm xs).cons x)
theorem insI_srt (x : Int) : ∀ ys : List Int, ys.Pairwise (· ≤ ·) → (insI x ys).Pairwise (· ≤ ·)
  | [], _ => by simp [insI]
  | y :: ys, h => by
    unfold insI
    split
    · rename_i hx
      refine List.pairwise_cons.mpr ⟨fun z hz => ?_, h⟩
      rcases List.mem_cons.mp hz with rfl | hz
      · exact hx
      · exact Int.le_trans hx ((List.pairwise_cons.mp h).1 z hz)
    · rename_i hx
      refine List.pairwise_cons.mpr ⟨fun z hz => ?_, insI_srt x ys (List.pairwise_cons.mp h).2⟩
      rcases List.mem_cons.mp ((insI_perm x ys).mem_iff.mp hz) with rfl | hz
      · omega
      · exact (List.pairwise_cons.mp h).1 z hz
theorem srt_srt : ∀ xs : List Int, (srt xs).Pairwise (· ≤ ·)
  | [] => .nil
  | x :: xs => insI_srt x _ (srt_srt xs)
theorem sorted_uniq : ∀ {xs ys : List Int}, xs.Perm ys → xs.Pairwise (· ≤ ·) → ys.Pairwise (· ≤ ·) → xs = ys
  | [], ys, p, _, _ => (List.Perm.nil_eq p)
  | x :: xs, [], p, _, _ => absurd p.length_eq (by simp)
  | x :: xs, y :: ys, p, h1, h2 => by
    have a1 : x ≤ y := by
      have : y ∈ x :: xs := p.mem_iff.mpr (List.mem_cons_self ..)
      rcases List.mem_cons.mp this with e | e
      · omega
      · exact (List.pairwise_cons.mp h1).1 y e
    have a2 : y ≤ x := by
      have : x ∈ y :: ys := p.mem_iff.mp (List.mem_cons_self ..)
      rcases List.mem_cons.mp this with e | e
      · omega
      · exact (List.pairwise_cons.mp h2).1 x e
    have e : x = y := by omega
    subst e
    rw [sorted_uniq (List.Perm.cons_inv p) (List.pairwise_cons.mp h1).2 (List.pairwise_cons.mp h2).2]
def intKeys : List (Key × D) → Option (List Int)
  | [] => some []
  | (.inl i, _) :: r => (intKeys r).map (i :: ·)
  | _ => none
theorem intKeys_eq : ∀ {kvs : List (Key × D)} {ks : List Int}, intKeys kvs = some ks → kvs.map (·.1) = ks.map Sum.inl
  | [], ks, h => by cases h; rfl
  | (.inl i, d) :: r, ks, h => by
    cases q : intKeys r with
    | none => simp [intKeys, q] at h
    | some ks' =>
      simp [intKeys, q] at h
      subst h
      simp [intKeys_eq q]
  | (.inr i, d) :: r, ks, h => by cases h
def sortD (x : D) (hp : Hp8) : Option D := match dicOf hp x with
  | some (_, kvs) => match intKeys kvs with
    | some ks => if ks.length < 64 then some (.lst ((srt ks).map .int)) else none
    | none => none
  | none => none
def sSortD : AF → EF := sCall (g1 sortD)
theorem boot_sorted' : bootBuiltins "sorted" = some (.builtin "sorted") := by decide +kernel
theorem reps_ints {K : KW} {ρ : List Addr} {F : Hp} : ∀ ns : List Int, Reps K ρ F (ns.map D.int) (ns.map V.int)
  | [] => rfl
  | z :: zs => ⟨.int z, _, rfl, rfl, reps_ints zs⟩
theorem ok_sortD : OkCall X E (g1 sortD) (fun xs H Q => ∃ (a : Addr) (kvs : List (Key × V)) (ks : List Int), xs = [.ref a] ∧ Rd H a (.dK kvs) ∧ kvs.map (·.1) = ks.map Sum.inl ∧ ks.length < 64 ∧
    ∀ (ys : List Int) (p : Addr), ys.Perm ks → ys.Pairwise (· ≤ ·) → H p = none → Q (.ref p) (upd H p (.lst (ys.map V.int)))) := ok_g1 fun d v ρ F H hp o Q hs r e fin => by
  unfold sortD at e
  split at e
  · rename_i n kvs h1
    split at e
    · rename_i ks h2
      split at e
      · rename_i hl
        cases e
        obtain ⟨a, ws, rfl, _, _, hw, kv⟩ := dicOf_at hs r h1
        refine ⟨a, ws, ks, rfl, .inl hw, kv.1.trans (intKeys_eq h2), hl, fun ys p hp hps hn => ?_⟩
        rw [sorted_uniq (hp.trans (srt_perm ks).symm) hps (srt_srt ks)]
        obtain ⟨s', x', r'⟩ := new_lst hs (reps_ints (K := X.KW) (ρ := ρ) (F := F) (srt ks)) hn
        exact fin _ _ _ x' s' _ r'
      · cases e
    · cases e
  · cases e
theorem de_sortD {p : Pos} (hc : X.calm = true) (hg : Gl X "sorted") (hm : X.mg "sorted" = none) (ha : DA X E [a] fA) (he : starEach [a] X.env = (false, eval a X.env) :: starEach [] X.env := by rfl) : DE X E (.Call (.Name "sorted" p) [a] [] pos) (sSortD fA) :=
  de_callB (call_sortedDI hc) ok_sortD hg hm boot_sorted' ha (he := he)
/-! evaluation -/
variable {env : Env8} {hp : Hp8}
@[simp] theorem e_sDictT : sDictT fA env hp = bndK (fA env hp) gDictT env := rfl
def dicK (c : Option Cell) (n : Nat) : Option (Nat × List (Key × D)) := match c with
    | some (.dic kvs) => some (n, kvs)
    | _ => none
@[simp] theorem dicK_d {kvs : List (Key × D)} {n : Nat} : dicK (some (.dic kvs)) n = some (n, kvs) := rfl
@[simp] theorem e_dicOf {n : Nat} : dicOf hp (.ref n) = dicK hp[n]? n := rfl
@[simp] theorem keyD_i {i : Int} : keyD (.int i) = some (.inl i) := rfl
@[simp] theorem keyD_s {z : Str} : keyD (.str z) = some (.inr z) := rfl
theorem inDic_e {neg : Bool} {x y : D} {n : Nat} {kvs : List (Key × D)} {k : Key} (h1 : dicOf hp y = some (n, kvs)) (h2 : keyD x = some k) : inDic neg x y hp = some (if neg then !(valD kvs k).isSome else (valD kvs k).isSome) := by
  simp only [inDic, h1, h2]
theorem getDic_e {x y : D} {n : Nat} {kvs : List (Key × D)} {k : Key} (h1 : dicOf hp x = some (n, kvs)) (h2 : keyD y = some k) : getDic x y hp = valD kvs k := by
  simp only [getDic, h1, h2]
@[simp] theorem e_sDGet : sDGet fa fb env hp = sOp (sRd2 getDic) fa fb env hp := rfl
@[simp] theorem e_sSortD : sSortD fA env hp = sCall (g1 sortD) fA env hp := rfl
theorem sortD_e {x : D} {n : Nat} {kvs : List (Key × D)} {ks : List Int} (h1 : dicOf hp x = some (n, kvs)) (h2 : intKeys kvs = some ks) (h3 : ks.length < 64) : sortD x hp = some (.lst ((srt ks).map .int)) := by
  simp only [sortD, h1, h2, if_pos h3]
theorem gDix_e {d o i : D} {hp1 hp2 : Hp8} {n : Nat} {kvs : List (Key × D)} {k : Key} (h1 : fo env hp = some (.ok o, hp1)) (h2 : fi env hp1 = some (.ok i, hp2)) (h3 : dicOf hp2 o = some (n, kvs)) (h4 : keyD i = some k) (h5 : kvs.length < 1000000) : gDix fo fi d env hp = some (env, hp2.set n (.dic (putD kvs k d))) := by
  simp only [gDix, h1, h2, setDic, h3, h4, if_pos h5]
end
end HI

namespace HI
open PySem L2 PyProof.Rows
section
variable {c : CT} {ft : TF} {fe : EF} {env0 env1 : Env8} {d y : D} {ds acc : List D} {hp hp1 : Hp8}
/-! a comprehension, item by item -/
def lcE (c : CT) (ft : TF) (fe : EF) (env0 : Env8) (ds acc : List D) (r : Option (Res D × Hp8)) : Option (List D × Hp8) := match r with
  | some (.ok y, hp2) => if acc.length < 1000000 then loopC c ft fe env0 ds (acc ++ [y]) hp2 else none
  | _ => none
def lcT (c : CT) (ft : TF) (fe : EF) (env0 env1 : Env8) (ds acc : List D) (r : Option (Res Bool × Hp8)) : Option (List D × Hp8) := match r with
  | some (.ok true, hp1) => lcE c ft fe env0 ds acc (fe env1 hp1)
  | some (.ok false, hp1) => loopC c ft fe env0 ds acc hp1
  | _ => none
def lcS (c : CT) (ft : TF) (fe : EF) (env0 : Env8) (ds acc : List D) (r : Option Env8) (hp : Hp8) : Option (List D × Hp8) := match r with
  | some env1 => lcT c ft fe env0 env1 ds acc (ft env1 hp)
  | none => none
theorem lc_cons : loopC c ft fe env0 (d :: ds) acc hp = lcS c ft fe env0 ds acc (c.set d env0) hp := by
  simp only [loopC, lcS]
  cases c.set d env0 with
  | none => rfl
  | some env1 =>
    simp only [lcT]
    cases ft env1 hp with
    | none => rfl
    | some p =>
      obtain ⟨r, h1⟩ := p
      cases r with
      | exc _ => rfl
      | ok b => cases b <;> simp only [lcE] <;> rfl
theorem lcS_some : lcS c ft fe env0 ds acc (some env1) hp = lcT c ft fe env0 env1 ds acc (ft env1 hp) := rfl
theorem lcT_true : lcT c ft fe env0 env1 ds acc (some (.ok true, hp1)) = lcE c ft fe env0 ds acc (fe env1 hp1) := rfl
theorem lcT_false : lcT c ft fe env0 env1 ds acc (some (.ok false, hp1)) = loopC c ft fe env0 ds acc hp1 := rfl
theorem lcE_ok : lcE c ft fe env0 ds acc (some (.ok y, hp1)) = if acc.length < 1000000 then loopC c ft fe env0 ds (acc ++ [y]) hp1 else none := rfl
end
/-! dicts of few keys -/
theorem valD_nil {k : Key} : valD [] k = none := rfl
theorem valD_cons {k k' : Key} {d : D} {r : List (Key × D)} : valD ((k', d) :: r) k = if k' = k then some d else valD r k := by
  by_cases h : k' = k <;> simp [valD, h]
end HI

namespace HI
open PySem L2 PyProof.Rows
/-! ### dicts whose keys are tuples, nested -/
mutual
def NkV (K : PySem.W.Frag) (H : Hp) : NestedKey → V → Prop
  | .none, v => v = .non
  | .num i, v => v = .int i
  | .text x, v => v = .str x
  | .tup ks, v => ∃ a vs, v = .ref a ∧ SqT K H a vs ∧ NkVs K H ks vs
def NkVs (K : PySem.W.Frag) (H : Hp) : List NestedKey → List V → Prop
  | [], vs => vs = []
  | k :: ks, vs => ∃ v r, vs = v :: r ∧ NkV K H k v ∧ NkVs K H ks r
end
mutual
theorem NkV.of_rep {K : KW} {ρ : List Addr} {F H : Hp} (sm : Same F H) : ∀ (d : D) (v : V) (k : NestedKey), Rep K ρ F d v → nkD d = some k → NkV K.1 H k v
  | .non, v, k, r, e => by cases e; exact r
  | .int _, v, k, r, e => by cases e; exact r
  | .str _, v, k, r, e => by cases e; exact r
  | .tup ds, v, k, r, e => by
    obtain ⟨a, vs, rfl, q, rr, _⟩ := r
    cases h : nkDs ds with
    | none => simp [nkD, h] at e
    | some ks =>
      simp [nkD, h] at e
      subst e
      exact ⟨a, vs, rfl, Same.tupS sm q, NkVs.of_reps sm ds vs ks rr h⟩
  | .bl _, v, k, r, e => by cases e
  | .lst _, v, k, r, e => by cases e
  | .scr _, v, k, r, e => by cases e
  | .ref _, v, k, r, e => by cases e
  | .dn _ _, v, k, r, e => by cases e
theorem NkVs.of_reps {K : KW} {ρ : List Addr} {F H : Hp} (sm : Same F H) : ∀ (ds : List D) (vs : List V) (ks : List NestedKey), Reps K ρ F ds vs → nkDs ds = some ks → NkVs K.1 H ks vs
  | [], vs, ks, r, e => by cases e; exact r
  | d :: ds, vs, ks, r, e => by
    obtain ⟨v, w, rfl, r1, r2⟩ := r
    cases h1 : nkD d with
    | none => simp [nkDs, h1] at e
    | some k =>
      cases h2 : nkDs ds with
      | none => simp [nkDs, h1, h2] at e
      | some ks' =>
        simp [nkDs, h1, h2] at e
        subst e
        exact ⟨v, w, rfl, NkV.of_rep sm d v k r1 h1, NkVs.of_reps sm ds w ks' r2 h2⟩
end
mutual
theorem NkV.is {X : Cx} {pins : List (Addr × Obj)} {σ : L2.St} {H : Hp} {s : Shared} (I : Inv X pins σ H s) : ∀ (k : NestedKey) (v : V) (u : Value), NkV X.K H k v → RelV v u → NestedIs s.heap k u
  | .none, v, u, h, r => by rw [show v = _ from h] at r; cases (show u = _ from r); exact .none
  | .num i, v, u, h, r => by rw [show v = _ from h] at r; obtain ⟨t, rfl⟩ := r; exact .int i t
  | .text x, v, u, h, r => by rw [show v = _ from h] at r; obtain ⟨t, rfl⟩ := r; exact .text x t
  | .tup ks, v, u, h, r => by
    obtain ⟨a, vs, rfl, q, hs⟩ := h
    cases (show u = _ from r)
    obtain ⟨its, rv, ⟨o, h1, h2, n, h3⟩, _⟩ := I.tuple q
    exact .tup h1 h2 h3 (by simpa using NkVs.is I ks vs its hs rv)
theorem NkVs.is {X : Cx} {pins : List (Addr × Obj)} {σ : L2.St} {H : Hp} {s : Shared} (I : Inv X pins σ H s) : ∀ (ks : List NestedKey) (vs : List V) (us : List Value), NkVs X.K H ks vs → Vals vs us → NestedAll s.heap ks us
  | [], vs, us, h, r => by rw [show vs = _ from h] at r; cases r; exact .nil
  | k :: ks, vs, us, h, r => by
    obtain ⟨v, w, rfl, h1, h2⟩ := h
    cases r with
    | cons r1 r2 => exact .cons (NkV.is I k v _ h1 r1) (NkVs.is I ks w _ h2 r2)
end
/-- the entries -/
def dnX (kas : List (NestedKey × Addr)) (us : List Value) : List (NestedKey × Addr × Value) := (kas.zip us).map fun x => (x.1.1, x.1.2, x.2)
theorem dnX_keys : ∀ (kas : List (NestedKey × Addr)) (us : List Value), kas.length = us.length → (dnX kas us).map (·.1) = kas.map (·.1)
  | [], us, _ => by simp [dnX]
  | k :: kas, [], h => by simp at h
  | k :: kas, u :: us, h => by
    have := dnX_keys kas us (by simpa using h)
    simp [dnX] at this ⊢
    exact this
theorem dnX_addr {kas : List (NestedKey × Addr)} {us : List Value} {x : NestedKey × Addr × Value} (h : x ∈ dnX kas us) : (x.1, x.2.1) ∈ kas := by
  obtain ⟨y, hy, rfl⟩ := List.mem_map.1 h
  exact (List.of_mem_zip hy).1
def KasOk (K : PySem.W.Frag) (H : Hp) (kas : List (NestedKey × Addr)) : Prop := ∀ x ∈ kas, NkV K H x.1 (.ref x.2)
section
variable {X : Cx} {pins : List (Addr × Obj)} {σ : L2.St} {H : Hp} {s : Shared} {a : Addr} {kas : List (NestedKey × Addr)} {ws : List V}
/-- a tracked dict, as the library's rules want it -/
theorem dn_at (I : Inv X pins σ H s) (e : H a = some (dnO X.w a kas ws)) (hk : KasOk X.K H kas) :
    (a == sysModules) = false ∧ kas.length = ws.length ∧ kas.length ≤ 1000000 ∧ ∃ us, Vals ws us ∧ s.heap.DictOfH (nestedKind X.prog X.w) a (dnX kas us) := by
  obtain ⟨⟨h1, h2, h3, h4, h4d, us, h5, o, es, ep, h6, h7, h8, h9⟩, _, _⟩ := I.hok a _ e
  have hl : kas.length = us.length := h2.trans h5.length
  refine ⟨h1, h2, h3, us, h5, o, es, ep, h6, h7, h8, ?_, fun x hx => ?_, ?_⟩
  · rw [h9]
    simp only [dnX, List.map_map]
    apply List.map_congr_left
    intro x _
    rfl
  · have := dnX_addr hx
    exact ⟨NkV.is I _ _ _ (hk _ this) rfl, h4d _ this⟩
  · rw [dnX_keys _ _ hl]; exact h4
theorem dnO_ok {P : Program} {w : World} {H' : Hp} {h' : Heap} {us : List Value} (hd : (a == sysModules) = false) (hl : kas.length = ws.length) (hz : kas.length ≤ 1000000) (hdp : ∀ x ∈ kas, x.1.depth ≤ 8) (rv : Vals ws us) (dd : h'.DictOfH (nestedKind P w) a (dnX kas us)) : ObjOk P w H' h' a (dnO w a kas ws) := by
  obtain ⟨o, es, ep, h1, h2, h3, h4, h5, h6⟩ := dd
  have hlu : kas.length = us.length := hl.trans rv.length
  refine ⟨⟨hd, hl, hz, by rw [dnX_keys _ _ hlu] at h6; exact h6, hdp, us, rv, o, es, ep, h1, h2, h3, ?_⟩, ⟨o, h1⟩, fun g1 g2 q k => ?_⟩
  · rw [h4]
    simp only [dnX, List.map_map]
    apply List.map_congr_left
    intro x _
    rfl
  · obtain ⟨a1, a2, a3, a4, a4d, us', a5, o', es', ep', a6, a7, a8, a9⟩ := q
    exact ⟨a1, a2, a3, a4, a4d, us', a5, o', es', ep', k _ a6, a7, a8, a9⟩
end
/-- what stands under a key -/
def valW : List (NestedKey × Addr) → List V → NestedKey → Option V
  | ka :: kas, w :: ws, k => if ka.1 = k then some w else valW kas ws k
  | _, _, _ => none
def valN : List D → List D → NestedKey → Option D
  | d :: ks, v :: vs, k => if nkD d = some k then some v else valN ks vs k
  | _, _, _ => none
theorem atKey_dnX (k : NestedKey) : ∀ (kas : List (NestedKey × Addr)) (ws : List V) (us : List Value), kas.length = ws.length → Vals ws us → RelO (valW kas ws k) ((atKey (dnX kas us) k).map (·.2))
  | [], ws, us, h, r => by
    cases ws with
    | nil => cases r; exact True.intro
    | cons _ _ => simp at h
  | ka :: kas, [], us, h, r => by simp at h
  | ka :: kas, w :: ws, us, h, r => by
    cases r with
    | cons r1 r2 =>
      rename_i u us'
      have ih := atKey_dnX k kas ws us' (by simpa using h) r2
      by_cases hk : ka.1 = k
      · have : atKey (dnX (ka :: kas) (u :: us')) k = some (ka.2, u) := by simp [dnX, atKey, hk]
        rw [this]
        simp only [valW, if_pos hk]
        exact r1
      · have : atKey (dnX (ka :: kas) (u :: us')) k = atKey (dnX kas us') k := by simp [dnX, atKey, hk]
        rw [this]
        simp only [valW, if_neg hk]
        exact ih
theorem nkDs_cons {d : D} {ds : List D} {l : List NestedKey} (h : nkDs (d :: ds) = some l) : ∃ k ks, l = k :: ks ∧ nkD d = some k ∧ nkDs ds = some ks := by
  simp only [nkDs] at h
  split at h
  · rename_i k ks h1 h2
    cases h
    exact ⟨k, ks, rfl, h1, h2⟩
  · cases h
theorem valN_valW {K : KW} {ρ : List Addr} {F : Hp} (k : NestedKey) : ∀ (ks vs : List D) (kas : List (NestedKey × Addr)) (ws : List V), nkDs ks = some (kas.map (·.1)) → Reps K ρ F vs ws →
    match valN ks vs k with | some d => ∃ w, valW kas ws k = some w ∧ Rep K ρ F d w | none => valW kas ws k = none
  | [], vs, kas, ws, h, r => by
    have : kas = [] := by cases kas with | nil => rfl | cons _ _ => cases h
    subst this
    simp [valN, valW]
  | d :: ks, vs, kas, ws, h, r => by
    obtain ⟨q, qs, e, h1, h2⟩ := nkDs_cons h
    cases kas with
    | nil => cases e
    | cons ka kas =>
      simp at e
      obtain ⟨rfl, rfl⟩ := e
      cases vs with
      | nil =>
        rw [show ws = _ from r]
        simp [valN, valW]
      | cons v vs =>
        obtain ⟨w, ws', rfl, r1, r2⟩ := r
        have ih := valN_valW k ks vs kas ws' h2 r2
        by_cases hk : ka.1 = k
        · subst hk
          simp only [valN, valW, h1, if_true]
          exact ⟨w, rfl, r1⟩
        · have : ¬ nkD d = some k := by rw [h1]; simpa using hk
          simp only [valN, valW, if_neg this, if_neg hk]
          exact ih
/-- stores -/
def putW (kas : List (NestedKey × Addr)) (ws : List V) (k : NestedKey) (v : V) : List V := List.zipWith (fun ka w => if ka.1 = k then v else w) kas ws
def putU (kas : List (NestedKey × Addr)) (us : List Value) (k : NestedKey) (v : Value) : List Value := List.zipWith (fun ka w => if ka.1 = k then v else w) kas us
def putN (ks vs : List D) (k : NestedKey) (d : D) : List D := List.zipWith (fun kd w => if nkD kd = some k then d else w) ks vs
theorem Vals.putW {k : NestedKey} {v : V} {u : Value} (r : RelV v u) : ∀ {kas : List (NestedKey × Addr)} {ws : List V} {us : List Value}, Vals ws us → Vals (HI.putW kas ws k v) (HI.putU kas us k u)
  | [], _, _, _ => by simp [HI.putW, HI.putU]; exact .nil
  | _ :: _, _, _, .nil => .nil
  | ka :: kas, _, _, .cons r1 r2 => by
    have ih := Vals.putW (k := k) r (kas := kas) r2
    simp only [HI.putW, HI.putU, List.zipWith_cons_cons]
    refine .cons ?_ ih
    by_cases hk : ka.1 = k
    · rw [if_pos hk, if_pos hk]; exact r
    · rw [if_neg hk, if_neg hk]; exact r1
theorem dnX_put {k : NestedKey} {u : Value} : ∀ (kas : List (NestedKey × Addr)) (us : List Value), (dnX kas us).map (putAt k u) = dnX kas (putU kas us k u)
  | [], us => by simp [dnX]
  | ka :: kas, [] => by simp [dnX, putU]
  | ka :: kas, w :: us => by
    have ih := dnX_put (k := k) (u := u) kas us
    simp only [dnX, putU, List.zip_cons_cons, List.map_cons, List.zipWith_cons_cons] at ih ⊢
    rw [ih]
    congr 1
    by_cases hk : ka.1 = k <;> simp [putAt, hk]
theorem Reps.putN {K : KW} {ρ : List Addr} {F : Hp} {k : NestedKey} {d : D} {v : V} (rd : Rep K ρ F d v) : ∀ {ks vs : List D} {kas : List (NestedKey × Addr)} {ws : List V}, nkDs ks = some (kas.map (·.1)) → Reps K ρ F vs ws → Reps K ρ F (HI.putN ks vs k d) (HI.putW kas ws k v)
  | [], vs, kas, ws, h, r => by
    have : kas = [] := by cases kas with | nil => rfl | cons _ _ => cases h
    subst this
    simp [HI.putN, HI.putW, Reps]
  | kd :: ks, vs, kas, ws, h, r => by
    obtain ⟨q, qs, e, h1, h2⟩ := nkDs_cons h
    cases kas with
    | nil => cases e
    | cons ka kas =>
      simp at e
      obtain ⟨rfl, rfl⟩ := e
      cases vs with
      | nil =>
        rw [show ws = _ from r]
        simp [HI.putN, HI.putW, Reps]
      | cons v0 vs =>
        obtain ⟨w, ws', rfl, r1, r2⟩ := r
        have ih := Reps.putN (k := k) rd h2 r2
        simp only [HI.putN, HI.putW, List.zipWith_cons_cons]
        refine ⟨_, _, rfl, ?_, ih⟩
        by_cases hk : ka.1 = k
        · have : nkD kd = some k := by rw [h1, hk]
          rw [if_pos hk, if_pos this]; exact rd
        · have : ¬ nkD kd = some k := by rw [h1]; simpa using hk
          rw [if_neg hk, if_neg this]; exact r1
theorem nkDs_app : ∀ {xs ys : List D} {a b : List NestedKey}, nkDs xs = some a → nkDs ys = some b → nkDs (xs ++ ys) = some (a ++ b)
  | [], ys, a, b, h1, h2 => by cases h1; exact h2
  | x :: xs, ys, a, b, h1, h2 => by
    obtain ⟨k, ks, rfl, q1, q2⟩ := nkDs_cons h1
    have := nkDs_app q2 h2
    simp [nkDs, q1, this]
theorem nkDs_len : ∀ {xs : List D} {a : List NestedKey}, nkDs xs = some a → xs.length = a.length
  | [], a, h => by cases h; rfl
  | x :: xs, a, h => by
    obtain ⟨k, ks, rfl, q1, q2⟩ := nkDs_cons h
    simp [nkDs_len q2]
/-- a dict, frozen or a cell -/
def dnOf (hp : Hp8) : D → Option (List D × List D)
  | .ref n => match hp[n]? with
    | some (.dn ks vs) => some (ks, vs)
    | _ => none
  | .dn ks vs => some (ks, vs)
  | _ => none
theorem dnOf_at {K : KW} {ρ : List Addr} {F H : Hp} {hp : Hp8} {d : D} {v : V} {ks vs : List D} (hs : Sim K ρ F H hp) (r : Rep K ρ F d v) (e : dnOf hp d = some (ks, vs)) :
    ∃ a kas ws, v = .ref a ∧ H a = some (dnO K.2 a kas ws) ∧ nkDs ks = some (kas.map (·.1)) ∧ KasOk K.1 H kas ∧ Reps K ρ F vs ws ∧ Reps K ρ F ks (kas.map fun x => V.ref x.2) := by
  have key : ∀ {kas : List (NestedKey × Addr)}, nkDs ks = some (kas.map (·.1)) → Reps K ρ F ks (kas.map fun x => V.ref x.2) → KasOk K.1 H kas := fun {kas} h1 h2 => by
    have h3 := NkVs.of_reps hs.sub _ _ _ h2 h1
    clear h1 h2
    induction kas with
    | nil => intro x hx; simp at hx
    | cons ka kas ih =>
      obtain ⟨v', r', e', q1, q2⟩ := h3
      simp at e'
      obtain ⟨rfl, rfl⟩ := e'
      intro x hx
      rcases List.mem_cons.1 hx with rfl | hx
      · exact q1
      · exact ih q2 x hx
  cases d with
  | ref n =>
    simp only [dnOf] at e
    split at e
    · rename_i ks' vs' hc
      cases e
      obtain ⟨a, ev, q⟩ := r
      obtain ⟨kas, ws, q1, q2, q3, q4⟩ := hs.cell n _ a hc q
      exact ⟨a, kas, ws, ev, q1, q2, key q2 q3, q4, q3⟩
    · cases e
  | dn ks' vs' =>
    cases e
    obtain ⟨a, kas, ws, ev, q1, q2, q3, q4⟩ := r
    exact ⟨a, kas, ws, ev, hs.sub _ _ q1, q2, key q2 q3, q4, q3⟩
  | _ => cases e
/-- a key: a tuple of depth at most 8 -/
def nkT : D → Option NestedKey
  | .tup ds => match nkD (.tup ds) with
    | some k => if k.depth ≤ 8 then some k else none
    | none => none
  | _ => none
theorem nkT_at {K : KW} {ρ : List Addr} {F H : Hp} {d : D} {v : V} {k : NestedKey} (sm : Same F H) (r : Rep K ρ F d v) (e : nkT d = some k) : ∃ b, v = .ref b ∧ nkD d = some k ∧ k.depth ≤ 8 ∧ NkV K.1 H k (.ref b) := by
  cases d with
  | tup ds =>
    simp only [nkT] at e
    split at e
    · rename_i k' h
      split at e
      · rename_i hd
        cases e
        have := NkV.of_rep sm _ _ _ r h
        obtain ⟨b, _, rfl, _⟩ := r
        exact ⟨b, rfl, h, hd, this⟩
      · cases e
    · cases e
  | _ => cases e
section
variable {X : Cx} {E : XK} {a b c o i e : Expr} {fa fb fc fo fi fe : EF} {fA : AF} {pos : Pos}
/-! k in d, k not in d -/
def inDn (neg : Bool) (x y : D) (hp : Hp8) : Option Bool := match dnOf hp y, nkT x with
  | some (ks, vs), some k => some (if neg then !(valN ks vs k).isSome else (valN ks vs k).isSome)
  | _, _ => none
def rDn (X : Cx) (f : Option V → V) : V → V → Hp → VK → Prop := fun x y H Q => ∃ a kas ws b k, y = V.ref a ∧ x = V.ref b ∧ H a = some (dnO X.w a kas ws) ∧ KasOk X.K H kas ∧ NkV X.K H k (.ref b) ∧ k.depth ≤ 8 ∧ Q (f (valW kas ws k)) H
theorem op_inDn (hu : X.A.units + 100 < cLine) : OpR X (compareOp .In) (rDn X fun o => .bl o.isSome) := by
  intro pins s σ H x y v u Q I rx ry h
  obtain ⟨a, kas, ws, b, k, rfl, rfl, e, hk, hb, hdp, q⟩ := h
  cases ry
  cases rx
  obtain ⟨hd, hl, hz, us, rv, dd⟩ := dn_at I e hk
  refine wpAny_in_heap (knd := nestedKind X.prog X.w) (by show X.A.units + 1 + 8 < cLine; omega) ⟨NkV.is I k _ _ hb rfl, hdp⟩ hd dd ?_
  have := (atKey_dnX k kas ws us hl rv).isSome_eq
  rw [Option.isSome_map] at this
  rw [← this]
  exact ⟨.bl (valW kas ws k).isSome, H, I.tok _, rfl, q⟩
theorem op_notInDn (hu : X.A.units + 100 < cLine) : OpR X (compareOp .NotIn) (rDn X fun o => .bl (!o.isSome)) := by
  intro pins s σ H x y v u Q I rx ry h
  obtain ⟨a, kas, ws, b, k, rfl, rfl, e, hk, hb, hdp, q⟩ := h
  cases ry
  cases rx
  obtain ⟨hd, hl, hz, us, rv, dd⟩ := dn_at I e hk
  refine wpAny_notIn_heap (knd := nestedKind X.prog X.w) (by show X.A.units + 1 + 8 < cLine; omega) ⟨NkV.is I k _ _ hb rfl, hdp⟩ hd dd ?_
  have := (atKey_dnX k kas ws us hl rv).isSome_eq
  rw [Option.isSome_map] at this
  rw [← this]
  exact ⟨.bl (!(valW kas ws k).isSome), H, I.tok _, rfl, q⟩
theorem valN_some {K : KW} {ρ : List Addr} {F : Hp} {ks vs : List D} {kas : List (NestedKey × Addr)} {ws : List V} {k : NestedKey} (h : nkDs ks = some (kas.map (·.1))) (r : Reps K ρ F vs ws) : (valW kas ws k).isSome = (valN ks vs k).isSome := by
  have := valN_valW k ks vs kas ws h r
  cases q : valN ks vs k with
  | none => rw [q] at this; rw [show _ = _ from this]; rfl
  | some d => rw [q] at this; obtain ⟨w, e, _⟩ := this; rw [e]; rfl
theorem c_inDn (hu : X.A.units + 100 < cLine) : Cmp X .In (inDn false) := ⟨_, op_inDn hu, fun x y v w ρ F H hp bb Q hs r1 r2 h q => by
  unfold inDn at h
  split at h
  · rename_i ks vs k h1 h2
    obtain ⟨a, kas, ws, rfl, e, hk, hka, rv, _⟩ := dnOf_at hs r2 h1
    obtain ⟨b, rfl, _, hd, hb⟩ := nkT_at hs.sub r1 h2
    cases h
    exact ⟨a, kas, ws, b, k, rfl, rfl, e, hka, hb, hd, by show Q (.bl (valW kas ws k).isSome) H; rw [valN_some hk rv]; exact q⟩
  · cases h⟩
theorem c_notInDn (hu : X.A.units + 100 < cLine) : Cmp X .NotIn (inDn true) := ⟨_, op_notInDn hu, fun x y v w ρ F H hp bb Q hs r1 r2 h q => by
  unfold inDn at h
  split at h
  · rename_i ks vs k h1 h2
    obtain ⟨a, kas, ws, rfl, e, hk, hka, rv, _⟩ := dnOf_at hs r2 h1
    obtain ⟨b, rfl, _, hd, hb⟩ := nkT_at hs.sub r1 h2
    cases h
    exact ⟨a, kas, ws, b, k, rfl, rfl, e, hka, hb, hd, by show Q (.bl (!(valW kas ws k).isSome)) H; rw [valN_some hk rv]; exact q⟩
  · cases h⟩
/-! d[k] -/
def getDn (x y : D) (hp : Hp8) : Option D := match dnOf hp x, nkT y with
  | some (ks, vs), some k => valN ks vs k
  | _, _ => none
def sDnGet : EF → EF → EF := sOp (sRd2 getDn)
def tDnGet (X : Cx) (td ty : TE) : TE := fun σ H Q => td σ H fun x H1 => ty σ H1 fun y H2 => ∃ a kas ws b k v, x = V.ref a ∧ y = V.ref b ∧ H2 a = some (dnO X.w a kas ws) ∧ KasOk X.K H2 kas ∧ NkV X.K H2 k (.ref b) ∧ k.depth ≤ 8 ∧ valW kas ws k = some v ∧ Q v H2
theorem pe_dnget {td ty : TE} (hu : X.A.units + 100 < cLine) (ho : PE X o td) (hi : PE X i ty) (hs : NoSl i) : PE X (.Subscript o i pos) (tDnGet X td ty) := by
  refine ⟨fun pins s σ H Q I h => ?_⟩
  refine subD_of PySem.F.slot_dict_getitem.lookup hs (thn (ho.run pins s σ H _ I h) fun u s1 ⟨x, H1, I1, rx, q1⟩ => thn (hi.run pins s1 σ H1 _ I1 q1) fun iv s2 ⟨y, H2, I2, ry, a, kas, ws, b, k, v, ex, ey, e, hk, hb, hdp, hv, q2⟩ => ?_)
  subst ex ey
  obtain rfl : u = Value.ref a := rx
  obtain rfl : iv = Value.ref b := ry
  obtain ⟨hd, hl, hz, us, rv, dd⟩ := dn_at I2 e hk
  refine ⟨dd.typeIs, ?_⟩
  have rel := atKey_dnX k kas ws us hl rv
  rw [hv] at rel
  obtain ⟨w', hw, rw'⟩ := RelO.some_of rel
  obtain ⟨p, hp, hp2⟩ := Option.map_eq_some_iff.mp hw
  refine wpAny_getItem_heap (knd := nestedKind X.prog X.w) (by show X.A.units + 1 + 8 < cLine; omega) ⟨NkV.is I2 k _ _ hb rfl, hdp⟩ dd hp ?_
  rw [hp2]
  exact ⟨v, H2, I2.tok _, rw', q2⟩
theorem de_dnget (hu : X.A.units + 100 < cLine) (ho : DE X E o fo) (hi : DE X E i fi) (hs : NoSl i := by exact fun _ _ => rfl) : DE X E (.Subscript o i pos) (sDnGet fo fi) :=
  pe_imp (pe_dnget (td := EQ X.KW X.mg E fo) (ty := EQ X.KW X.mg E fi) hu ho hi hs) fun σ H Q q => (EK.step q).imp fun v H1 ⟨x, q1⟩ => (EK.step q1).imp fun w H2 ⟨y, q2⟩ => by
    obtain ⟨ρ, F, hp, d, rv, hs, e, fin⟩ := EK.read q2
    obtain ⟨r1, r2⟩ := rep2 rv
    unfold getDn at e
    split at e
    · rename_i ks vs k h1 h2
      obtain ⟨a, kas, ws, rfl, ea, hk, hka, rvs, _⟩ := dnOf_at hs r2 h1
      obtain ⟨b, rfl, _, hd, hb⟩ := nkT_at hs.sub r1 h2
      have := valN_valW k ks vs kas ws hk rvs
      rw [e] at this
      obtain ⟨w', ew, rw'⟩ := this
      exact ⟨a, kas, ws, b, k, w', rfl, rfl, ea, hka, hb, hd, ew, fin ρ F H2 (Ext.refl _ _ _) hs _ rw'⟩
    · cases e
/-! {} -/
theorem dn_empty {P : Program} {w : World} {H : Hp} (h : Heap) (hb : sysModules < h.objs.size) : ObjOk P w H (h.push { cls := .type "dict", data := .dict #[] }) h.objs.size (dnO w h.objs.size [] []) :=
  dnO_ok (us := []) (beq_eq_false_iff_ne.mpr (Ne.symm (Nat.ne_of_lt hb))) rfl (Nat.zero_le _) (fun x hx => by simp at hx) .nil (Heap.DictOfH.new h)
def tDnNew (X : Cx) : TE := fun _ H Q => ∀ p, H p = none → Q (.ref p) (upd H p (dnO X.w p [] []))
theorem pe_dnnew : PE X (.Dict [] [] pos) (tDnNew X) := ⟨fun pins s σ H Q I h =>
  wpAny_Dict_empty ⟨.ref s.heap.objs.size, _, I.laid (a := s.heap.objs.size) (o := dnO X.w s.heap.objs.size [] []) (t' := s.toks) (fun _ _ q => Heap.get?_push_of_some _ q) (Nat.le_refl _) (dn_empty s.heap I.big), rfl, h _ (I.hok.fresh (Nat.le_refl _))⟩⟩
def sDnNew : EF := mkCell (.dn [] [])
theorem de_dnnew : DE X E (.Dict [] [] pos) sDnNew := pe_imp pe_dnnew fun σ H Q q => by
  obtain ⟨ρ, F, env, hp, r, hp', rd, he, hs, e, fin⟩ := q
  cases e
  intro p hn
  obtain ⟨s', x'⟩ := hs.new hn (dnO X.w p [] []) (.dn [] []) ⟨[], [], upd_same, rfl, rfl, rfl⟩
  exact fin _ _ _ x' s' _ ⟨p, rfl, by rw [hs.len]; simp⟩
/-! d[k] = v -/
def rDnPut (X : Cx) : V → V → V → Hp → (Hp → Prop) → Prop := fun o i v H Q => ∃ a kas ws b k, o = V.ref a ∧ i = V.ref b ∧ H a = some (dnO X.w a kas ws) ∧ KasOk X.K H kas ∧ NkV X.K H k (.ref b) ∧ k.depth ≤ 8 ∧ kas.length < 1000000 ∧
  Q (upd H a (if (valW kas ws k).isSome then dnO X.w a kas (putW kas ws k v) else dnO X.w a (kas ++ [(k, b)]) (ws ++ [v])))
theorem putW_len {kas : List (NestedKey × Addr)} {ws : List V} {k : NestedKey} {v : V} (h : kas.length = ws.length) : kas.length = (putW kas ws k v).length := by
  simp [putW, h]
theorem dnX_app {kas : List (NestedKey × Addr)} {us : List Value} {k : NestedKey} {b : Addr} {u : Value} (h : kas.length = us.length) : dnX kas us ++ [(k, b, u)] = dnX (kas ++ [(k, b)]) (us ++ [u]) := by
  simp [dnX, List.zip_append h]
theorem dn_depth {pins : List (Addr × Obj)} {σ : L2.St} {H : Hp} {s : Shared} {a : Addr} {kas : List (NestedKey × Addr)} {ws : List V} (I : Inv X pins σ H s) (e : H a = some (dnO X.w a kas ws)) : ∀ x ∈ kas, x.1.depth ≤ 8 := by
  obtain ⟨⟨h1, h2, h3, h4, h4d, _⟩, _, _⟩ := I.hok a _ e
  exact h4d
theorem set_dn (hu : X.A.units + 100 < cLine) : PSet X (rDnPut X) := by
  intro pins s σ H o i v ov iv u Q I ro ri rv h
  obtain ⟨a, kas, ws, b, k, eo, ei, e, hk, hb, hdp, hl8, q⟩ := h
  subst eo ei
  cases ro
  cases ri
  obtain ⟨hd, hl, hz, us, rvs, dd⟩ := dn_at I e hk
  have hlu : kas.length = us.length := hl.trans rvs.length
  have hz' : (dnX kas us).length ≤ sizeLine := by
    have e1 : (dnX kas us).length ≤ kas.length := by simp [dnX]; omega
    exact Nat.le_trans e1 (Nat.le_trans hz (by decide))
  refine wpAny_setItem_heap (knd := nestedKind X.prog X.w) (hsz := hz') (by show X.A.units + 1 + 8 < cLine; omega) ⟨NkV.is I k _ _ hb rfl, hdp⟩ dd fun h' dd' hs => ⟨_, ?_, q⟩
  have he : ∃ q, h'.get? a = some q := let ⟨q, _, _, hq, _⟩ := dd'; ⟨q, hq⟩
  have hsome := (atKey_dnX k kas ws us hl rvs).isSome_eq
  rw [Option.isSome_map] at hsome
  have dpt := dn_depth I e
  refine d_write I (by rw [e]; exact True.intro) hs he ?_
  cases hw : valW kas ws k with
  | some w0 =>
    rw [hw] at hsome
    obtain ⟨p, hp⟩ : ∃ p, atKey (dnX kas us) k = some p := by
      cases q : atKey (dnX kas us) k with
      | none => rw [q] at hsome; cases hsome
      | some p => exact ⟨p, rfl⟩
    rw [storedH_old hp, dnX_put] at dd'
    exact dnO_ok hd (putW_len hl) hz dpt (Vals.putW rv rvs) dd'
  | none =>
    rw [hw] at hsome
    have hp : atKey (dnX kas us) k = none := by
      cases q : atKey (dnX kas us) k with
      | none => rfl
      | some p => rw [q] at hsome; cases hsome
    rw [storedH_new hp, dnX_app hlu] at dd'
    refine dnO_ok hd (by simp [hl]) (by simp; omega) (fun x hx => ?_) (rvs.append (.cons rv .nil)) dd'
    rcases List.mem_append.1 hx with hx | hx
    · exact dpt x hx
    · simp at hx; subst hx; exact hdp
def setDn (x y d : D) (hp : Hp8) : Option (Nat × List D × List D) := match x with
  | .ref n => match hp[n]? with
    | some (.dn ks vs) => match nkT y with
      | some k => if ks.length < 1000000 then some (if (valN ks vs k).isSome then (n, ks, putN ks vs k d) else (n, ks ++ [y], vs ++ [d])) else none
      | none => none
    | _ => none
  | _ => none
def gDnx (fo fi : EF) : G8 := fun d env hp => match fo env hp with
  | some (.ok o, hp1) => match fi env hp1 with
    | some (.ok i, hp2) => match setDn o i d hp2 with
      | some (n, ks, vs) => some (env, hp2.set n (.dn ks vs))
      | none => none
    | _ => none
  | _ => none
theorem dg_dnx {o i : Expr} {fo fi : EF} (hu : X.A.units + 100 < cLine) (ho : DE X E o fo) (hi : DE X E i fi)
    (ha : ∀ v, assign (.Subscript o i pos) X.env v = (do
      let ov ← holding [v] (eval o X.env)
      let iv ← holding [v, ov] (eval i X.env)
      standAt pos
      holding [v, ov, iv] (setItem ov iv v)
      release [v, ov, iv] []) := by intro _; rfl) : DG X (.Subscript o i pos) (gDnx fo fi) :=
  pg_imp (pg_sub (to := EQ X.KW X.mg E fo) (ti := EQ X.KW X.mg E fi) ho hi (set_dn hu) ha) fun v σ H Q ⟨d, ρ, F, env, hp, env', hp', rd, he, hs, e, fin⟩ => by
    unfold gDnx at e
    split at e
    · rename_i od hp1 qo
      split at e
      · rename_i id hp2 qi
        cases q : setDn od id d hp2 with
        | none => rw [q] at e; cases e
        | some p =>
          obtain ⟨n, ks', vs'⟩ := p
          rw [q] at e
          cases e
          refine ⟨ρ, F, env, hp, .ok od, hp1, rfl, he, hs, qo, fun ρ1 F1 H1 x1 s1 ov rov => ?_⟩
          refine ⟨ρ1, F1, env, hp1, .ok id, hp2, rfl, he.mono x1.same x1.pre, s1, qi, fun ρ2 F2 H2 x2 s2 iv riv => ?_⟩
          have x12 := x1.trans s1 x2
          have rov2 := Rep.mono x2.same x2.pre _ _ rov
          unfold setDn at q
          split at q
          · rename_i n'
            split at q
            · rename_i ks vs hcl
              split at q
              · rename_i k hk
                split at q
                · rename_i hl
                  obtain ⟨a, rfl, hρ⟩ := rov2
                  obtain ⟨a', kas, ws, ea', e2, hnk, hka, rvs, rks⟩ := dnOf_at (d := .ref n') (v := .ref a) (ks := ks) (vs := vs) s2 ⟨a, rfl, hρ⟩ (by simp [dnOf, hcl])
                  cases ea'
                  obtain ⟨b, rfl, hnd, hdp, hb⟩ := nkT_at s2.sub riv hk
                  have hlen : kas.length = ks.length := by have := nkDs_len hnk; simp at this; omega
                  have rd2 := Rep.mono x12.same x12.pre _ _ (rep1 rd)
                  refine ⟨a, kas, ws, b, k, rfl, rfl, e2, hka, hb, hdp, by omega, ?_⟩
                  have es := valN_some (k := k) hnk rvs
                  rw [es]
                  cases hv : (valN ks vs k).isSome with
                  | true =>
                    rw [hv] at q
                    simp only [if_true] at q ⊢
                    cases q
                    obtain ⟨s', x'⟩ := s2.put hρ hcl rfl (dnO X.w a kas (putW kas ws k v)) (.dn _ (putN _ vs k d)) ⟨_, _, upd_same, hnk, rks, Reps.putN rd2 hnk rvs⟩
                    exact fin _ _ _ (x12.trans s2 x') s' σ ((he.mono x12.same x12.pre).mono x'.same x'.pre)
                  | false =>
                    rw [hv] at q
                    simp only [Bool.false_eq_true, if_false] at q ⊢
                    cases q
                    have hk1 : nkDs (ks ++ [id]) = some ((kas ++ [(k, b)]).map (·.1)) := by
                      rw [List.map_append]
                      exact nkDs_app hnk (by simp [nkDs, hnd])
                    have rk1 : Reps X.KW ρ2 F2 (ks ++ [id]) ((kas ++ [(k, b)]).map fun x => V.ref x.2) := by
                      rw [List.map_append]
                      exact rks.app (Reps.one riv)
                    obtain ⟨s', x'⟩ := s2.put hρ hcl rfl (dnO X.w a (kas ++ [(k, b)]) (ws ++ [v])) (.dn (ks ++ [id]) (vs ++ [d])) ⟨_, _, upd_same, hk1, rk1, rvs.app (Reps.one rd2)⟩
                    exact fin _ _ _ (x12.trans s2 x') s' σ ((he.mono x12.same x12.pre).mono x'.same x'.pre)
                · cases q
              · cases q
            · cases q
          · cases q
      · cases e
    · cases e
end
end HI

namespace HI
open PySem L2 PyProof.Rows
open Sem (wp)
/-! ### sum(rows, start): rows and start are lists -/
section
variable {prog : Program} {w : World} {A : Around} {R : Result → Shared → Prop} {I : Addr} {fp wr : List Addr} {n : Nat} {P : Nat → Value → Prop} {St : Nat → Heap → Prop}
theorem codeAny_sum_lists (W : Walks prog w A.in1 I fp wr n P St) (bs : Nat → Addr) (its : Nat → List Value) (ms : Nat → Nat) (hval : ∀ i v, P i v → v = .ref (bs i)) (S : Addr) (hSf : S ∉ fp) (hbw : ∀ j, j < n → bs j ∉ wr ∧ bs j ≠ S)
    (hwr : ∀ i h, St i h → ∀ b ∈ wr, ∃ o, h.get? b = some o) :
    ∀ (k i : Nat) (s : Shared) (T : Addr) (acc : List Value) (c m : Nat), n - i = k → i ≤ n → St i s.heap → s.heap.get? S = some { cls := .type "list", dict := none, data := .seq #[.ref T] c, slots := #[] } →
    IsL s.heap T acc.toArray m → T ≠ S → T ∉ wr → (∀ j, j < n → IsL s.heap (bs j) (its j).toArray (ms j)) → (acc.length + (((List.range n).drop i).map fun j => (its j).length).sum ≤ 1000000) →
    (∀ h' tk T' m', (∀ b o, b ∉ wr → b ≠ S → s.heap.get? b = some o → h'.get? b = some o) → IsL h' T' (acc ++ (((List.range n).drop i).map its).flatten).toArray m' → (i = n → T' = T) → (i < n → s.heap.get? T' = none ∧ T' ∉ wr ∧ T' ≠ S) → R (.ok (.ret (.ref T'))) { s with heap := h', toks := tk }) →
    codeAny (model prog w) A (.builtin "sum.loop" ⟨[.ref I, .ref S, rawInt 2, rawInt 0], []⟩) R s := by
  have hSw : S ∉ wr := fun h => hSf (W.sub _ h)
  intro k
  induction k with
  | zero =>
    intro i s T acc c m hk hi hst hS hT hTS hTw hB hz hR
    have hin : i = n := by omega
    subst hin
    refine codeAny_builtin F.entry_sum_loop ?_
    rw [Around.under_plainId F.plain_sum_loop _]
    show wpAny _ A.in1 (seqItems? (.ref S) >>= _) _ _ s
    refine wpAny_bind (wpAny_seqItems hS rfl ?_)
    show wpAny _ A.in1 (tryCatch (pyNext (.ref I)) _ >>= _) _ _ s
    refine wpAny_bind (wpAny_tryCatch (W.done s _ _ hst fun h' tk hk' => ?_))
    refine wpAny_pure (hR h' tk T m (fun b o hbw _ e => hk' b o hbw e) ?_ (fun _ => rfl) (fun h => by omega))
    have : ((List.range i).drop i) = [] := List.drop_of_length_le (by simp)
    rw [this]
    simpa using hk' T _ hTw hT
  | succ k ih =>
    intro i s T acc c m hk hi hst hS hT hTS hTw hB hz hR
    have hlt : i < n := by omega
    refine codeAny_builtin F.entry_sum_loop ?_
    rw [Around.under_plainId F.plain_sum_loop _]
    show wpAny _ A.in1 (seqItems? (.ref S) >>= _) _ _ s
    refine wpAny_bind (wpAny_seqItems hS rfl ?_)
    show wpAny _ A.in1 (tryCatch (pyNext (.ref I)) _ >>= _) _ _ s
    refine wpAny_bind (wpAny_tryCatch (W.item i s _ _ hlt hst fun v h' tk hP hst' hk' => ?_))
    obtain rfl := hval i v hP
    have hS' := hk' S _ hSw hS
    have hT' : IsL h' T acc.toArray m := hk' T _ hTw hT
    have hB' : ∀ j, j < n → IsL h' (bs j) (its j).toArray (ms j) := fun j hj => hk' _ _ (hbw j hj).1 (hB j hj)
    have dr : (List.range n).drop i = i :: (List.range n).drop (i + 1) := by
      rw [List.drop_eq_getElem_cons (by simpa using hlt)]
      simp
    rw [dr] at hz hR
    simp only [List.map_cons, List.sum_cons, List.flatten_cons] at hz hR
    show wpAny _ A.in1 ((holding [Value.ref (bs i)] (binaryOp .Add (.ref T) (.ref (bs i)))).attempt >>= _) _ _ _
    refine wpAny_bind (wpAny_attempt (wpAny_holding (PySem.P.add_list hT' (hB' i hlt) ?_ (by rw [List.size_toArray, List.size_toArray]; exact Nat.le_trans (by omega : _ ≤ 1000000) (by decide)))))
    show wpAny _ A.in1 (updateSeq S (fun _ => #[.ref h'.objs.size]) >>= _) _ _ _
    have fresh : ∀ b o, h'.get? b = some o → b ≠ h'.objs.size := fun b o e => Nat.ne_of_lt (Heap.lt_size e)
    have hS1 : (h'.push { cls := .type "list", data := .seq (acc.toArray ++ (its i).toArray) }).get? S = some { cls := .type "list", dict := none, data := .seq #[.ref T] c, slots := #[] } := Heap.get?_push_of_some _ hS'
    refine wpAny_bind ?_
    refine wpAny_updateSeq hS1 rfl ?_
    have hS2 := Heap.get?_update_self (Obj.mapSeq fun _ => #[Value.ref h'.objs.size]) hS1 rfl
    refine wpAny_bind (wpAny_letGo ?_)
    refine wpAny_bind ?_
    have keep : ∀ b o, b ≠ S → h'.get? b = some o → (((h'.push { cls := .type "list", data := .seq (acc.toArray ++ (its i).toArray) }).update S (Obj.mapSeq fun _ => #[Value.ref h'.objs.size])).update S (Obj.mapSeq fun _ => #[Value.ref h'.objs.size])).get? b = some o := fun b o hb e =>
      (Heap.get?_update_other _ _ (Ne.symm hb)).trans ((Heap.get?_update_other _ _ (Ne.symm hb)).trans (Heap.get?_push_of_some _ e))
    have hTn : h'.objs.size ≠ S := fun z => fresh S _ hS' z.symm
    have hTw' : h'.objs.size ∉ wr := fun z => by
      obtain ⟨o, e⟩ := hwr _ _ hst' _ z
      exact fresh _ _ e rfl
    refine wpAny_updateSeq hS2 rfl (wpAny_pure ⟨plainId_quiet F.plain_sum_loop _, ih (i + 1) _ h'.objs.size (acc ++ its i) _ 0 (by omega) hlt (W.frame _ _ _ hst' fun b hb o e => keep b o (fun z => hSf (z ▸ hb)) e) (Heap.get?_update_self _ hS2 rfl) ?_ hTn hTw' (fun j hj => keep _ _ (hbw j hj).2 (hB' j hj)) ?_ fun h'' tk'' T'' m'' hk'' hT'' e1 e2 => ?_⟩)
    · have : IsL (h'.push { cls := .type "list", data := .seq (acc.toArray ++ (its i).toArray) }) h'.objs.size (acc.toArray ++ (its i).toArray) 0 := IsL.new _ _
      have := (Heap.get?_update_other _ (Obj.mapSeq fun _ => #[Value.ref h'.objs.size]) (Ne.symm hTn)).trans ((Heap.get?_update_other _ (Obj.mapSeq fun _ => #[Value.ref h'.objs.size]) (Ne.symm hTn)).trans this)
      simpa using this
    · rw [List.length_append]; omega
    · refine hR h'' tk'' T'' m'' (fun b o hbw hbS e => hk'' b o hbw hbS (keep b o hbS (hk' b o hbw e))) (by simpa using hT'') (fun z => by omega) (fun _ => ?_)
      by_cases q : i + 1 = n
      · rw [e1 q]
        refine ⟨?_, hTw', hTn⟩
        cases z : s.heap.get? h'.objs.size with
        | none => rfl
        | some o => exact absurd rfl (fresh _ o (hk' _ _ hTw' z))
      · obtain ⟨a1, a2, a3⟩ := e2 (by omega)
        refine ⟨?_, a2, a3⟩
        cases z : s.heap.get? T'' with
        | none => rfl
        | some o =>
          have := keep _ _ a3 (hk' _ _ a2 z)
          rw [show _ = none from a1] at this
          cases this
end
theorem sub_list_str : isSubtype (.type "list") (.type "str") = pure false := by rw [isSubtype_type]; kernel_rfl
theorem sub_list_bytes : isSubtype (.type "list") (.type "bytes") = pure false := by rw [isSubtype_type]; kernel_rfl
theorem sub_list_bytearray : isSubtype (.type "list") (.type "bytearray") = pure false := by rw [isSubtype_type]; kernel_rfl
theorem args_sum2 (a b : Value) : argsOk "sum" ⟨[a, b], []⟩ := by unfold argsOk; kernel_rfl
section
variable {prog : Program} {w : World} {A : Around} {E : Value → Shared → Prop} {s : Shared}
theorem call_sum_lists {l T : Addr} {n : Nat} {bs : Nat → Addr} {its : Nat → List Value} {ms : Nat → Nat} {acc : List Value} {m : Nat} {Q : Value → Shared → Prop} (hh : A.handled = none) (hl : s.heap.IsList l ((List.range n).map fun j => Value.ref (bs j)).toArray)
    (hT : IsL s.heap T acc.toArray m) (hB : ∀ j, j < n → IsL s.heap (bs j) (its j).toArray (ms j)) (hz : acc.length + ((List.range n).map fun j => (its j).length).sum ≤ 1000000)
    (hQ : ∀ h' tk T' m', (∀ b o, s.heap.get? b = some o → h'.get? b = some o) → IsL h' T' (acc ++ ((List.range n).map its).flatten).toArray m' → (n = 0 → T' = T) → (0 < n → s.heap.get? T' = none) → Q (.ref T') { s with heap := h', toks := tk }) :
    wpAny (model prog w) A (call (.builtin "sum") [.ref l, .ref T]) Q E s := by
  refine call_function_tree F.kind_sum F.plain_sum F.entry_sum (args_sum2 _ _) ?_
  unfold Builtin.«sum»
  simp only [List.length_cons, List.length_nil]
  rw [if_neg (by decide)]
  refine wpAny_bind (wpAny_of_eq (show Builtin.Builtins.bindParams "sum" ["start"] 0 ⟨[Value.ref T], []⟩ = pure [some (.ref T)] from rfl) ?_)
  obtain ⟨ol, el, ecl, nl, edl⟩ := id hl
  have hlI : l ≠ s.heap.objs.size := Nat.ne_of_lt (Heap.lt_size el)
  refine wpAny_bind (wpAny_pyIter_list hl ?_)
  refine wpAny_bind (wpAny_pure ?_)
  have hT1 : IsL (s.heap.push { cls := .type "list_iterator", data := .fields #[.ref l, .int 0 0] }) T acc.toArray m := hT.push _
  simp only [List.forIn_cons, List.forIn_nil]
  refine wpAny_bind (wpAny_bind (wpAny_bind (wpAny_isInstance (T := "list") (b := false) ⟨_, hT1, rfl⟩ sub_list_str ?_)))
  simp only [Bool.false_eq_true, if_false]
  refine wpAny_pure (wpAny_bind (wpAny_bind (wpAny_isInstance (T := "list") (b := false) ⟨_, hT1, rfl⟩ sub_list_bytes ?_)))
  simp only [Bool.false_eq_true, if_false]
  refine wpAny_pure (wpAny_bind (wpAny_bind (wpAny_isInstance (T := "list") (b := false) ⟨_, hT1, rfl⟩ sub_list_bytearray ?_)))
  simp only [Bool.false_eq_true, if_false]
  refine wpAny_pure (wpAny_pure ?_)
  refine wpAny_bind (wpAny_newObj_type ?_)
  have W := Walks.list (prog := prog) (w := w) (A := A.in1) hh s.heap.objs.size l hlI ((List.range n).map fun j => Value.ref (bs j)).toArray
  have hsz : ((List.range n).map fun j => Value.ref (bs j)).toArray.size = n := by simp
  rw [hsz] at W
  have psz : (s.heap.push { cls := .type "list_iterator", data := .fields #[.ref l, .int 0 0] }).objs.size = s.heap.objs.size + 1 := Heap.size_push _ _
  have old : ∀ b o, s.heap.get? b = some o → b < s.heap.objs.size := fun b o e => Heap.lt_size e
  have nI : ∀ b o, s.heap.get? b = some o → b ≠ s.heap.objs.size := fun b o e => Nat.ne_of_lt (old b o e)
  have nS : ∀ b o, s.heap.get? b = some o → b ≠ s.heap.objs.size + 1 := fun b o e => Nat.ne_of_lt (Nat.lt_succ_of_lt (old b o e))
  have up2 : ∀ (o1 o2 : Obj) b o, s.heap.get? b = some o → ((s.heap.push o1).push o2).get? b = some o := fun o1 o2 b o e => Heap.get?_push_of_some _ (Heap.get?_push_of_some _ e)
  refine wpAny_pure ⟨plainId_quiet F.plain_sum_loop _, codeAny_sum_lists W bs its ms (fun i v hP => ?_) (s.heap.push { cls := .type "list_iterator", data := .fields #[.ref l, .int 0 0] }).objs.size (fun hm => ?_) (fun j hj => ⟨fun hm => ?_, fun hm => ?_⟩) (fun i h st b hb => ?_) n 0 _ T acc 0 m rfl (Nat.zero_le _)
    ⟨⟨_, Heap.get?_push_of_some _ (Heap.get?_push_size _ rfl), rfl, rfl⟩, (hl.push _).push _⟩ (Heap.get?_push_size _ rfl) (hT1.push _) (fun z => ?_) (fun hm => ?_) (fun j hj => up2 _ _ _ _ (hB j hj)) (by simpa using hz) fun h' tk T' m' hk hT' e1 e2 => ?_⟩
  · obtain ⟨hi, e⟩ := Array.getElem?_eq_some_iff.mp hP
    simpa using e.symm
  · rw [psz] at hm
    rcases List.mem_cons.1 hm with z | z
    · exact absurd z (Nat.ne_of_gt (Nat.lt_succ_self _))
    · exact absurd (List.mem_singleton.1 z).symm (nS _ _ el)
  · exact absurd (List.mem_singleton.1 hm) (nI _ _ (hB j hj))
  · rw [psz] at hm
    exact absurd hm (nS _ _ (hB j hj))
  · simp at hb
    subst hb
    obtain ⟨⟨o, e, _⟩, _⟩ := st
    exact ⟨o, e⟩
  · rw [psz] at z
    exact absurd z (nS _ _ hT)
  · exact absurd (List.mem_singleton.1 hm) (nI _ _ hT)
  · refine hQ h' tk T' m' (fun b o e => hk b o (fun z => absurd (List.mem_singleton.1 z) (nI _ _ e)) (fun z => by rw [psz] at z; exact absurd z (nS _ _ e)) (up2 _ _ _ _ e)) (by simpa using hT') (fun z => e1 z.symm) (fun z => ?_)
    · obtain ⟨a1, a2, a3⟩ := e2 z
      cases q : s.heap.get? T' with
      | none => rfl
      | some o =>
        have := up2 { cls := .type "list_iterator", data := .fields #[.ref l, .int 0 0] } { cls := .type "list", data := .seq [Value.ref T].toArray } _ _ q
        rw [show _ = none from a1] at this
        cases this
end
theorem Vals.flat : ∀ {xss : List (List V)} {uss : List (List Value)}, Paired (fun xs us => Vals xs us) xss uss → Vals xss.flatten uss.flatten
  | _, _, .nil => .nil
  | _, _, .cons h t => by
    rw [List.flatten_cons, List.flatten_cons]
    exact Vals.append h (Vals.flat t)
section
variable {X : Cx} {E : XK} {a b c o i e : Expr} {fa fb fc fo fi fe : EF} {fA : AF} {pos : Pos}
def rSumL (K : PySem.W.Frag) : List V → Hp → VK → Prop := fun vs H Q => ∃ (a t : Addr) (ps : List Addr) (xss : List (List V)) (ys : List V), vs = [V.ref a, V.ref t] ∧ SqL K H a (ps.map V.ref) ∧ H t = some (.lst ys) ∧ Paired (fun p xs => H p = some (HO.lst xs)) ps xss ∧
  ys.length + (xss.map List.length).sum ≤ 1000000 ∧ (ps = [] → Q (.ref t) H) ∧ (ps ≠ [] → ∀ p, H p = none → Q (.ref p) (upd H p (.lst (ys ++ xss.flatten))))
theorem lists_at {pins : List (Addr × Obj)} {σ : L2.St} {H : Hp} {s : Shared} (I : Inv X pins σ H s) : ∀ {ps : List Addr} {xss : List (List V)}, Paired (fun p xs => H p = some (HO.lst xs)) ps xss →
    ∃ (uss : List (List Value)) (ms : List Nat), Paired (fun xs us => Vals xs us) xss uss ∧ uss.length = ps.length ∧ ∀ j, j < ps.length → IsL s.heap (ps.getD j 0) (uss.getD j []).toArray (ms.getD j 0)
  | _, _, .nil => ⟨[], [], .nil, rfl, fun j h => absurd h (Nat.not_lt_zero _)⟩
  | _, _, .cons (a := p) (b := xs) h t => by
    obtain ⟨uss, ms, r, l, f⟩ := lists_at I t
    obtain ⟨_, its, n, rv, e⟩ := I.hok p _ h
    refine ⟨its :: uss, n :: ms, .cons rv r, by simp [l], fun j hj => ?_⟩
    cases j with
    | zero => exact e
    | succ j => simpa using f j (by simpa using hj)
theorem refs_of : ∀ {ps : List Addr} {us : List Value}, Vals (ps.map V.ref) us → us = ps.map Value.ref
  | [], us, h => by cases h; rfl
  | p :: ps, us, h => by
    rw [List.map_cons] at h
    cases h with
    | cons r t => rw [show _ = _ from r, refs_of t]; rfl
theorem range_getD {α β : Type} (f : α → β) (d : α) : ∀ l : List α, (List.range l.length).map (fun j => f (l.getD j d)) = l.map f
  | [] => rfl
  | x :: l => by
    rw [List.length_cons, List.range_succ_eq_map, List.map_cons, List.map_map, List.map_cons]
    congr 1
    have := range_getD f d l
    rw [← this]
    apply List.map_congr_left
    intro j _
    simp
theorem paired_lens : ∀ {xss : List (List V)} {uss : List (List Value)}, Paired (fun xs us => Vals xs us) xss uss → xss.map List.length = uss.map List.length
  | _, _, .nil => rfl
  | _, _, .cons h t => by rw [List.map_cons, List.map_cons, paired_lens t, h.length]
theorem cr_sumL (hc : X.calm = true) : CallR X (.builtin "sum") (rSumL X.K) := by
  intro pins s σ H vs us Q I r h
  obtain ⟨a, t, ps, xss, ys, rfl, hs, ht, hp, hz, q0, q1⟩ := h
  obtain ⟨its, rv, hl, _⟩ := I.list hs
  obtain ⟨_, acc, m, ra, ea⟩ := I.hok t _ ht
  have eus : us = [.ref a, .ref t] := by
    cases r with
    | cons r1 r2 =>
      cases r2 with
      | cons r3 r4 =>
        cases r4
        rw [show _ = _ from r1, show _ = _ from r3]
  rw [eus]
  obtain ⟨uss, ms, ru, lu, hB⟩ := lists_at I hp
  have ei := refs_of rv
  have hlist : s.heap.IsList a ((List.range ps.length).map fun j => Value.ref (ps.getD j 0)).toArray := by
    rw [range_getD Value.ref 0 ps, ← ei]
    exact hl.isList
  have e1 : (List.range ps.length).map (fun j => uss.getD j []) = uss := by
    rw [← lu]
    have := range_getD (fun x : List Value => x) [] uss
    simpa using this
  have e2 : (List.range ps.length).map (fun j => (uss.getD j []).length) = uss.map List.length := by
    rw [← lu]
    exact range_getD List.length [] uss
  refine call_sum_lists (I.ok.hd hc) hlist ea hB (by rw [e2, ← paired_lens ru, ← ra.length]; exact hz) fun h' tk T' m' hk hT' f1 f2 => ?_
  rw [e1] at hT'
  by_cases hps : ps = []
  · rw [f1 (by rw [hps]; rfl)]
    exact ⟨.ref t, H, I.kept hk, rfl, q0 hps⟩
  · have hpos : 0 < ps.length := Nat.pos_of_ne_zero fun z => hps (List.eq_nil_of_length_eq_zero z)
    have hfr := f2 hpos
    have hn : H T' = none := HOk.gone I.hok hfr
    have hlen : (ys ++ xss.flatten).length ≤ sizeLine := by
      rw [List.length_append, List.length_flatten]
      exact Nat.le_trans hz (by decide)
    exact ⟨.ref T', upd H T' (.lst (ys ++ xss.flatten)), I.laidN hk hfr hn ⟨hlen, _, m', Vals.append ra (Vals.flat ru), hT'⟩, rfl, q1 hps T' hn⟩
/-- the lists in a list -/
def rowsD : List D → Option (List (List D))
  | [] => some []
  | .lst xs :: r => (rowsD r).map (xs :: ·)
  | _ => none
def sumD (x y : D) (hp : Hp8) : Option D := match lstM hp x, y with
  | some rows, .lst ys => match rowsD rows with
    | some xss => if ys.length + (xss.map List.length).sum ≤ 1000000 then some (.lst (ys ++ xss.flatten)) else none
    | none => none
  | _, _ => none
def sSumL : AF → EF := sCall (g2 sumD)
theorem rowsD_at {K : KW} {ρ : List Addr} {F H : Hp} (sm : Same F H) : ∀ {rows : List D} {ws : List V} {xss : List (List D)}, Reps K ρ F rows ws → rowsD rows = some xss →
    ∃ (ps : List Addr) (vss : List (List V)), ws = ps.map V.ref ∧ Paired (fun p xs => H p = some (HO.lst xs)) ps vss ∧ vss.map List.length = xss.map List.length ∧ Reps K ρ F xss.flatten vss.flatten
  | [], ws, xss, r, e => by
    cases e
    exact ⟨[], [], r, .nil, rfl, rfl⟩
  | d :: rows, ws, xss, r, e => by
    obtain ⟨v, w', rfl, r1, r2⟩ := r
    cases d with
    | lst xs =>
      cases q : rowsD rows with
      | none => simp [rowsD, q] at e
      | some yss =>
        simp [rowsD, q] at e
        subst e
        obtain ⟨ps, vss, rfl, h1, h2, h3⟩ := rowsD_at sm r2 q
        obtain ⟨p, vs, rfl, hF, rv⟩ := r1
        exact ⟨p :: ps, vs :: vss, rfl, .cons (sm _ _ hF) h1, by rw [List.map_cons, List.map_cons, h2, rv.len], by rw [List.flatten_cons, List.flatten_cons]; exact rv.app h3⟩
    | _ => cases e
theorem ok_sumL : OkCall X E (g2 sumD) (rSumL X.K) := ok_g2 fun d d' v w' ρ F H hp o Q hs r1 r2 e fin => by
  unfold sumD at e
  split at e
  · rename_i rows ys h1
    cases q : rowsD rows with
    | none => rw [q] at e; cases e
    | some xss =>
      rw [q] at e
      simp only at e
      split at e
      · rename_i hz
        cases e
        obtain ⟨a, ws, rfl, hq, rr⟩ := lstM_at hs r1 h1
        obtain ⟨ps, vss, rfl, g1, g2', g3⟩ := rowsD_at hs.sub rr q
        obtain ⟨t, vs, rfl, hF, rv⟩ := r2
        refine ⟨a, t, ps, vss, vs, rfl, SqL.of hq, hs.sub _ _ hF, g1, by rw [g2', ← rv.len]; exact hz, fun hps => ?_, fun hps p hn => ?_⟩
        · subst hps
          cases g1
          have : xss = [] := by
            cases xss with
            | nil => rfl
            | cons _ _ => cases g2'
          subst this
          refine fin ρ F H (Ext.refl _ _ _) hs _ ⟨t, vs, rfl, hF, ?_⟩
          simpa using rv
        · obtain ⟨s', x', r'⟩ := new_lst hs (rv.app g3) hn
          exact fin _ _ _ x' s' _ r'
      · cases e
  · cases e
theorem boot_sum' : bootBuiltins "sum" = some (.builtin "sum") := by decide +kernel
theorem de_sumL {p : Pos} (hc : X.calm = true) (hg : Gl X "sum") (hm : X.mg "sum" = none) (ha : DA X E [a, b] fA) (he : starEach [a, b] X.env = (false, eval a X.env) :: starEach [b] X.env := by rfl) (hpl : (backTo pos (starEach [b] X.env)).any (·.1) = false := by rfl) : DE X E (.Call (.Name "sum" p) [a, b] [] pos) (sSumL fA) :=
  de_callB (cr_sumL hc) ok_sumL hg hm boot_sum' ha (he := he) (hpl := hpl)
end
end HI

namespace HI
open PySem L2 PyProof.Rows
section
variable {X : Cx} {E : XK} {a b c o i e : Expr} {fa fb fc fo fi fe : EF} {fA : AF} {pos : Pos}
/-! list(range(n)) -/
def lrgD : D → Option D
  | .int n => if 0 ≤ n ∧ n ≤ 1000000 then some (.lst (rngD 0 n.toNat)) else none
  | _ => none
def sListRng (fa : EF) : EF := bnd fa fun x => rd fun _ => lrgD x
theorem de_listRng {p p2 pos2 : Pos} (hc : X.calm = true) (hg : Gl X "list") (hm : X.mg "list" = none) (hg2 : Gl X "range") (hm2 : X.mg "range" = none) (ha : DE X E a fa) (na : starEach [a] X.env = (false, eval a X.env) :: starEach [] X.env := by rfl)
    (na2 : starEach [.Call (.Name "range" p2) [a] [] pos2] X.env = (false, eval (.Call (.Name "range" p2) [a] [] pos2) X.env) :: starEach [] X.env := by rfl) : DE X E (.Call (.Name "list" p) [.Call (.Name "range" p2) [a] [] pos2] [] pos) (sListRng fa) :=
  pe_imp (pe_listRg hc hg hm (prg_1 (ta := EQ X.KW X.mg E fa) hg2 hm2 ha na) na2) fun σ H Q q => (EK.step q).imp fun v H1 ⟨d, q1⟩ => by
    obtain ⟨ρ, F, hp, d', rv, hs, e, fin⟩ := EK.read q1
    have r1 := rep1 rv
    unfold lrgD at e
    split at e
    · rename_i n
      split at e
      · rename_i hn
        cases e
        refine ⟨n, r1, RgOk.of_le (by omega) (by omega) (by omega) (by omega), fun p hpn => ?_⟩
        have rr : Reps X.KW ρ F (rngD 0 n.toNat) (rgV 0 n) := by
          have e1 : rngD 0 n.toNat = ((List.range n.toNat).map fun (i : Nat) => (0 : Int) + (i : Int)).map D.int := by simp [rngD]
          have e2 : rgV 0 n = ((List.range n.toNat).map fun (i : Nat) => (0 : Int) + (i : Int)).map V.int := by simp [rgV]
          rw [e1, e2]
          exact reps_ints _
        obtain ⟨s', x', r'⟩ := new_lst hs rr hpn
        exact fin _ _ _ x' s' _ r'
      · cases e
    · cases e
end
variable {fa : EF} {fA : AF} {env : Env8} {hp : Hp8}
@[simp] theorem e_sListRng : sListRng fa env hp = bndK (fa env hp) (fun x => rd fun _ => lrgD x) env := rfl
theorem lrgD_e {n : Nat} (h : n ≤ 1000000) : lrgD (.int (n : Int)) = some (.lst (rngD 0 n)) := by
  simp [lrgD]
  omega
@[simp] theorem e_sSumL : sSumL fA env hp = sCall (g2 sumD) fA env hp := rfl
theorem sumD_e {rows ys : List D} {xss : List (List D)} (h : rowsD rows = some xss) (hz : ys.length + (xss.map List.length).sum ≤ 1000000) : sumD (.lst rows) (.lst ys) hp = some (.lst (ys ++ xss.flatten)) := by
  simp only [sumD, e_lstML, h, if_pos hz]
theorem rowsD_map {α : Type} (f : α → List D) : ∀ l : List α, rowsD (l.map fun x => D.lst (f x)) = some (l.map f)
  | [] => rfl
  | x :: l => by simp [rowsD, rowsD_map f l]
end HI

namespace HI
open PySem L2 PyProof.Rows
section
variable {X : Cx} {E : XK} {a b c o i e : Expr} {es : List Expr} {fa fb fc fo fi fe : EF} {fA : AF} {pos apos : Pos}
/-! a, b, .. = a list -/
def gLs (n : Nat) (r : Gs8) : G8 := fun d env hp => match lstM hp d with
  | some ds => if ds.length = n then r ds env hp else none
  | none => none
theorem dg_lst {k : Nat} {n : Nat} {r : Gs8} (hc : X.calm = true) (h : DGs X es r) (hn : (assignEach es X.env).length = n := by rfl) (hst : (assignEach es X.env).findIdx? (·.1) = none := by rfl) : DG X (.Tuple es k pos) (gLs n r) :=
  pg_imp (pg_lst (t := GsQ X.KW r) hc h hn hst) fun v σ H Q ⟨d, ρ, F, env, hp, env', hp', rd, he, hs, e, fin⟩ => by
    unfold gLs at e
    split at e
    · rename_i ds hd
      split at e
      · rename_i hl
        obtain ⟨p, ws, rfl, hq, rr⟩ := lstM_at hs (rep1 rd) hd
        exact ⟨p, ws, rfl, SqL.of hq, by rw [← rr.len]; exact hl, ds, ρ, F, env, hp, env', hp', rr, he, hs, e, fin⟩
      · cases e
    · cases e
/-! continue -/
def sCont : SF := fun env hp => some (.ct, env, hp)
/-! xs.pop(0) -/
def popD (x y : D) (hp : Hp8) : Option (Nat × List D × D) := match cellL hp x, y with
  | some (n, d :: ds), .int 0 => some (n, ds, d)
  | _, _ => none
def sPopAt (fo : EF) (fa : EF) : EF := bnd fo fun x => bnd (rd fun hp => cellL hp x) fun _ => bnd (sCons fa sNil) fun ds => wr fun hp => match ds with
  | [y] => popD x y hp
  | _ => none
theorem de_popAt {o : Expr} {fo : EF} {cpos : Pos} (ho : DE X E o fo) (ha : DE X E a fa) (hbase : attributeBase o "pop" X.env (eval o X.env) = eval o X.env := by rfl)
    (hfew : ((backTo cpos (starEach [a] X.env)).all (fun x => !x.1) && (backToKw cpos (keywordEach [] X.env)).all (fun x => x.1.isSome) && decide (([a] : List Expr).length + ([] : List Keyword).length + (if ([] : List Keyword).isEmpty then 0 else 1) < 30)) = true := by rfl)
    (hline : (apos.endLine == cpos.line) = true := by rfl) (hs : starEach [a] X.env = (false, eval a X.env) :: starEach [] X.env := by rfl) (hplain : (backTo cpos (starEach [] X.env)).any (·.1) = false := by rfl) :
    DE X E (.Call (.Attribute o "pop" apos) [a] [] cpos) (sPopAt fo fa) :=
  pe_imp (pe_bm (to := EQ X.KW X.mg E fo) (t := AQ X.KW X.mg E (sCons fa sNil)) PySem.F.plainAttrs_list PySem.F.slot_list_pop PySem.F.type_list_pop mt_popAt ho (da_cons ha da_nil hs) hbase hfew hline hs hplain) fun σ H Q q => (EK.step q).imp fun v H1 ⟨x, q1⟩ => by
    obtain ⟨ρ, F, env, hp, p, rv, he, hs, e, q2⟩ := EK.rdb q1
    obtain ⟨n, xs⟩ := p
    obtain ⟨a, ws, rfl, _, _, hw, _⟩ := cellL_at hs (rep1 rv) e
    refine ⟨.inl ⟨rfl, _, SqL.of hw⟩, (EK.stepA q2).imp fun us H2 ⟨ds, hl, q3⟩ => ?_⟩
    obtain ⟨ρ, F, hp, n, ys, d, rv, hs, e, fin⟩ := EK.wr q3
    obtain ⟨r1, r2⟩ := Reps.split hl rv
    split at e
    · rename_i y
      unfold popD at e
      split at e
      · rename_i n' d' zs hc
        cases e
        obtain ⟨a', ws', ea, hρ, hcl, hw', rr⟩ := cellL_at hs (rep1 r2) hc
        cases ea
        obtain ⟨u, rfl, ru⟩ := reps1 r1
        obtain ⟨v0, wr, rfl, rv0, rr'⟩ := rr
        refine ⟨a, _, 0, 0, v0, rfl, by rw [show u = _ from ru], hw', by decide, by decide, ?_, rfl, ?_⟩
        · simp [seqIndex?]
        · obtain ⟨s', x'⟩ := hs.put hρ hcl rfl (.lst wr) (.lst _) ⟨_, upd_same, rr'⟩
          exact fin _ _ _ x' s' _ (Rep.mono x'.same x'.pre _ _ rv0)
      · cases e
    · cases e
/-! {} with keys ints and texts -/
def sDicNew : EF := mkCell (.dic [])
theorem de_dicNew : DE X E (.Dict [] [] pos) sDicNew := pe_imp pe_dnewK fun σ H Q q => by
  obtain ⟨ρ, F, env, hp, r, hp', rd, he, hs, e, fin⟩ := q
  cases e
  intro p hn
  obtain ⟨s', x'⟩ := hs.new hn (.dK []) (.dic []) ⟨[], upd_same, rfl, rfl⟩
  exact fin _ _ _ x' s' _ ⟨p, rfl, by rw [hs.len]; simp⟩
/-! dict(d) -/
def gDicC : List D → EF := fun ds env hp => match ds with
  | [d] => match dicOf hp d with
    | some (_, kvs) => some (.ok (.ref hp.length), hp ++ [.dic kvs])
    | none => none
  | _ => none
def sDicC (fA : AF) : EF := bnd fA gDicC
theorem ok_dicC : OkCall X E gDicC (fun xs H Q => ∃ (a : Addr) (kvs : List (Key × V)), xs = [.ref a] ∧ Rd H a (.dK kvs) ∧ ∀ p, H p = none → Q (.ref p) (upd H p (.dK kvs))) := fun ds vs σ H Q h => by
  obtain ⟨ρ, F, env, hp, r, hp', rd, he, hs, e, fin⟩ := h
  unfold gDicC at e
  split at e
  · rename_i d
    split at e
    · rename_i n kvs hd
      cases e
      obtain ⟨v, rfl, rv⟩ := reps1 rd
      obtain ⟨a, ws, rfl, hρ, hcl, hw, kv⟩ := dicOf_at hs rv hd
      refine ⟨a, ws, rfl, .inl hw, fun p hn => ?_⟩
      have kv' : KvR X.KW (ρ ++ [p]) F kvs ws := ⟨kv.1, Reps.mono (Same.refl _) (List.prefix_append _ _) _ _ kv.2⟩
      obtain ⟨s', x'⟩ := hs.new hn (.dK ws) (.dic kvs) ⟨ws, upd_same, kv'.1, kv'.2⟩
      exact fin _ _ _ x' s' _ ⟨p, rfl, by rw [hs.len]; simp⟩
    · cases e
  · cases e
theorem de_dicC {p : Pos} (hg : Gl X "dict") (hm : X.mg "dict" = none) (ha : DA X E [a] fA) (he : starEach [a] X.env = (false, eval a X.env) :: starEach [] X.env := by rfl) : DE X E (.Call (.Name "dict" p) [a] [] pos) (sDicC fA) :=
  de_callT call_dictD ok_dicC hg hm boot_dict' ha (he := he)
/-! d.pop(k) -/
def dropD (kvs : List (Key × D)) (k : Key) : List (Key × D) := kvs.filter fun kv => decide (kv.1 ≠ k)
def dpopD (x y : D) : EF := fun _ hp => match dicOf hp x, keyD y with
  | some (n, kvs), some k => match valD kvs k with
    | some d => some (.ok d, hp.set n (.dic (dropD kvs k)))
    | none => none
  | _, _ => none
def sDPop (fo fi : EF) : EF := bnd fo fun x => bnd (rd fun hp => dicOf hp x) fun _ => bnd fi fun y => dpopD x y
theorem KvR.drop {K : KW} {ρ : List Addr} {F : Hp} {k : Key} : ∀ {kvs : List (Key × D)} {ws : List (Key × V)}, KvR K ρ F kvs ws → KvR K ρ F (dropD kvs k) (dropK ws k)
  | [], ws, h => by rw [h.nil_iff]; exact ⟨rfl, rfl⟩
  | (k', d) :: kvs, ws, h => by
    obtain ⟨v, r, rfl, q, h'⟩ := h.cons
    have ih := KvR.drop (k := k) h'
    by_cases hk : k' = k
    · have e1 : dropD ((k', d) :: kvs) k = dropD kvs k := by simp [dropD, hk]
      have e2 : dropK ((k', v) :: r) k = dropK r k := by simp [dropK, hk]
      rw [e1, e2]; exact ih
    · have e1 : dropD ((k', d) :: kvs) k = (k', d) :: dropD kvs k := by simp [dropD, hk]
      have e2 : dropK ((k', v) :: r) k = (k', v) :: dropK r k := by simp [dropK, hk]
      rw [e1, e2]; exact KvR.mk q ih
theorem de_dpop {o : Expr} {fo : EF} {cpos : Pos} (ho : DE X E o fo) (hi : DE X E a fi) (m : M1 X o "pop" apos a cpos := by exact ⟨rfl, rfl, rfl, rfl⟩) : DE X E (.Call (.Attribute o "pop" apos) [a] [] cpos) (sDPop fo fi) :=
  pe_imp (pe_dpop1 (td := EQ X.KW X.mg E fo) (ty := EQ X.KW X.mg E fi) ho hi m) fun σ H Q q => (EK.step q).imp fun v H1 ⟨x, q1⟩ => by
    obtain ⟨ρ, F, env, hp, p, rv, he, hs, e, q2⟩ := EK.rdb q1
    obtain ⟨n, kvs⟩ := p
    obtain ⟨a, ws, rfl, _, _, hw, _⟩ := dicOf_at hs (rep1 rv) e
    refine ⟨a, rfl, .inl ⟨ws, .inl hw⟩, (EK.step q2).imp fun iv H2 ⟨y, q3⟩ => ?_⟩
    obtain ⟨ρ, F, env, hp, r, hp', rd, he, hs, e, fin⟩ := q3
    obtain ⟨r1, r2⟩ := rep2 rd
    unfold dpopD at e
    split at e
    · rename_i n' kvs' k h1 h2
      cases qv : valD kvs' k with
      | none => rw [qv] at e; cases e
      | some d =>
        rw [qv] at e
        cases e
        obtain ⟨a', ws', ea, hρ, hcl, hw', kv⟩ := dicOf_at hs r2 h1
        cases ea
        have hv := kv.val (k := k)
        rw [qv] at hv
        obtain ⟨v', e', rd'⟩ := hv
        refine ⟨ws', k, v', hw', keyD_v h2 r1, e', ?_⟩
        have kv2 := kv.drop (k := k)
        obtain ⟨s', x'⟩ := hs.put hρ hcl rfl (.dK (dropK ws' k)) (.dic (dropD kvs' k)) ⟨_, upd_same, kv2.1, kv2.2⟩
        exact fin _ _ _ x' s' _ (Rep.mono x'.same x'.pre _ _ rd')
    · cases e
/-! d[k] += v -/
def augDicK (o i x y : D) : SF := fun env hp => match ipD .Add x y, dicOf hp o, keyD i with
  | some z, some (n, kvs), some k => if kvs.length < 1000000 then some (.nx, env, hp.set n (.dic (putD kvs k z))) else none
  | _, _, _ => none
def sAugDic (fo fi fe : EF) : SF := sE fo fun o => sE fi fun i => sE (rd fun hp => getDic o i hp) fun x => sE fe fun y => augDicK o i x y
theorem ds_augDic {o i : Expr} {fo fi : EF} {tpos : Pos} (hu : X.A.units + 100 < cLine) (ho : DE X E o fo) (hi : DE X E i fi) (he : DE X E e fe)
    (ha : ∀ ov iv new, augStore i ov iv new = (do holding [new, ov, iv] (setItem ov iv new); release [new, ov, iv] []; pure .next) := by intros; rfl) : DS X E (.AugAssign (.Subscript o i tpos) .Add e pos) (sAugDic fo fi fe) :=
  ps_imp (ps_daug (td := EQ X.KW X.mg E fo) (ty := EQ X.KW X.mg E fi) (tv := EQ X.KW X.mg E fe) (by omega) ho hi he ip_add ha) fun De σ H h => (SKd.step h).imp fun ov H1 ⟨od, q1⟩ => (SKd.step q1).imp fun iv H2 ⟨id, q2⟩ => by
    obtain ⟨ρ, F, env, hp, x, rv, he, hs, e, fl, env', hp', e2, fin⟩ := SKd.rdb q2
    obtain ⟨r1, r2⟩ := rep2 rv
    unfold getDic at e
    split at e
    · rename_i n kvs k h1 h2
      obtain ⟨a, ws, rfl, hρ, hcl, hw, kv⟩ := dicOf_at hs r2 h1
      have hv := kv.val (k := k)
      rw [e] at hv
      obtain ⟨u, eu, ru⟩ := hv
      have g := DGet.k (k := k) hw
      rw [eu] at g
      have ekv := keyD_v h2 r1
      refine ⟨a, u, rfl, by rw [ekv]; exact g, ?_⟩
      have q3 : SKd X.KW X.mg E [x, id, od] [u, iv, .ref a] (sE fe fun y => augDicK od id x y) De σ H2 := ⟨ρ, F, env, hp, fl, env', hp', ⟨u, _, rfl, ru, ⟨iv, _, rfl, r1, ⟨_, _, rfl, r2, rfl⟩⟩⟩, he, hs, e2, fin⟩
      refine (SKd.step q3).imp fun yv H3 ⟨y, q4⟩ => ?_
      obtain ⟨ρ, F, env, hp, fl, env', hp', rd, he, hs, e, fin⟩ := q4
      obtain ⟨yv', t, et, ry, rest⟩ := rd
      cases et
      obtain ⟨rx, ri, ro⟩ := rep3 rest
      unfold augDicK at e
      split at e
      · rename_i z n' kvs' k' qi g1 g2
        split at e
        · rename_i hl
          cases e
          obtain ⟨i1, i2, rfl, rfl, rfl⟩ := ipD_add qi
          obtain ⟨a', ws', ea, hρ', hcl', hw', kv'⟩ := dicOf_at hs ro g1
          cases ea
          refine ⟨_, _, rx, ry, ?_⟩
          have kv2 := kv'.put (k := k') (d := .int (i1 + i2)) (v := .int (i1 + i2)) rfl
          rw [keyD_v g2 ri]
          refine ⟨_, DPut.k hw' (by rw [kv'.len]; exact Nat.lt_of_lt_of_le hl (by decide)), ?_⟩
          obtain ⟨s', x'⟩ := hs.put hρ' hcl' rfl (.dK (L2.putK ws' k' (.int (i1 + i2)))) (.dic (putD kvs' k' (.int (i1 + i2)))) ⟨_, upd_same, kv2.1, kv2.2⟩
          exact fin _ _ _ x' s' _ (he.mono x'.same x'.pre)
        · cases e
      · cases e
    · cases e
/-! list(range(a, b)) -/
def lrg2D (x y : D) : Option D := match x, y with
  | .int i, .int j => if i.natAbs ≤ 1000000 ∧ j.natAbs ≤ 1000000 then some (.lst (rngD i (j - i).toNat)) else none
  | _, _ => none
def sListRng2 (fa fb : EF) : EF := bnd fa fun x => bnd fb fun y => rd fun _ => lrg2D x y
theorem de_listRng2 {p p2 pos2 : Pos} (hc : X.calm = true) (hg : Gl X "list") (hm : X.mg "list" = none) (hg2 : Gl X "range") (hm2 : X.mg "range" = none) (ha : DE X E a fa) (hb : DE X E b fb) (na : starEach [a, b] X.env = (false, eval a X.env) :: starEach [b] X.env := by rfl)
    (nb : starEach [b] X.env = (false, eval b X.env) :: starEach [] X.env := by rfl) (hpl : (backTo pos2 (starEach [b] X.env)).any (·.1) = false := by rfl)
    (na2 : starEach [.Call (.Name "range" p2) [a, b] [] pos2] X.env = (false, eval (.Call (.Name "range" p2) [a, b] [] pos2) X.env) :: starEach [] X.env := by rfl) : DE X E (.Call (.Name "list" p) [.Call (.Name "range" p2) [a, b] [] pos2] [] pos) (sListRng2 fa fb) :=
  pe_imp (pe_listRg hc hg hm (prg_2 (ta := EQ X.KW X.mg E fa) (tb := EQ X.KW X.mg E fb) hg2 hm2 ha hb na nb hpl) na2) fun σ H Q q => (EK.step q).imp fun v H1 ⟨d, q1⟩ => (EK.step q1).imp fun w H2 ⟨d2, q2⟩ => by
    obtain ⟨ρ, F, hp, d', rv, hs, e, fin⟩ := EK.read q2
    obtain ⟨r1, r2⟩ := rep2 rv
    have key : ∃ i j : Int, d = .int i ∧ d2 = .int j ∧ (i.natAbs ≤ 1000000 ∧ j.natAbs ≤ 1000000) ∧ d' = .lst (rngD i (j - i).toNat) := by
      cases d with
      | int i =>
        cases d2 with
        | int j =>
          simp only [lrg2D] at e
          split at e
          · rename_i hn
            cases e
            exact ⟨i, j, rfl, rfl, hn, rfl⟩
          · cases e
        | _ => cases e
      | _ => cases e
    obtain ⟨i, j, rfl, rfl, hn, rfl⟩ := key
    refine ⟨i, j, r2, r1, ⟨by omega, by omega, by omega, by omega, by omega⟩, fun p hpn => ?_⟩
    have rr : Reps X.KW ρ F (rngD i (j - i).toNat) (rgV i j) := by
      have e1 : rngD i (j - i).toNat = ((List.range (j - i).toNat).map fun (m : Nat) => i + (m : Int)).map D.int := by simp [rngD]
      have e2 : rgV i j = ((List.range (j - i).toNat).map fun (m : Nat) => i + (m : Int)).map V.int := by simp [rgV]
      rw [e1, e2]
      exact reps_ints _
    obtain ⟨s', x', r'⟩ := new_lst hs rr hpn
    exact fin _ _ _ x' s' _ r'
/-! {"k": v, ..} -/
structure DPs (X : Cx) (E : XK) (pos : Pos) (keys : List (Option Expr)) (values : List Expr) (zs : List Str) (fs : List EF) : Prop where
  ex : ∃ trs, PPs X pos keys values trs ∧ trs = (zs.zip fs).map (fun p => (EQ X.KW X.mg E (pur (.str p.1)), EQ X.KW X.mg E p.2)) ∧ zs.length = fs.length ∧ keys.length = zs.length ∧ values.length = zs.length ∧ keys.all (·.isSome) = true
theorem dps_nil : DPs X E pos [] [] [] [] := ⟨[], pps_nil, rfl, rfl, rfl, rfl, rfl⟩
theorem dps_cons {k : Expr} {ks : List (Option Expr)} {vs : List Expr} {z : Str} {zs : List Str} {fs : List EF} {f : EF} (hk : DE X E k (pur (.str z))) (hv : DE X E a f) (hr : DPs X E pos ks vs zs fs) : DPs X E pos (some k :: ks) (a :: vs) (z :: zs) (f :: fs) := by
  obtain ⟨trs, h1, h2, h3, h4, h5, h6⟩ := hr.ex
  exact ⟨_, pps_cons hk hv h1, by simp [h2], by simp [h3], by simp [h4], by simp [h5], by simpa using h6⟩
/-- the values of a display, one after the other -/
def sVals : List EF → AF
  | [] => sNil
  | f :: fs => sCons f (sVals fs)
def sDisp (zs : List Str) (fs : List EF) : EF := fun env hp => match sVals fs env (hp ++ [.dic []]) with
  | some (.ok ds, hp') => match hp'[hp.length]? with
    | some (.dic []) => if zs.length ≤ 15 then some (.ok (.ref hp.length), hp'.set hp.length (.dic (mergeD [] ((zs.map Sum.inr).zip ds)))) else none
    | _ => none
  | some (.exc c, hp') => some (.exc c, hp')
  | none => none
/-- the pairs' questions from the values' one -/
theorem pairs_q {K : KW} {mg : Str → Option Value} {σ : L2.St} : ∀ (zs : List Str) (fs : List EF) (H : Hp) (ds0 : List D) (vs0 : List V) (Q : List (V × V) → Hp → Prop) (P : List Addr → Hp → Hp → List D → Prop), zs.length = fs.length →
    EK K mg E ds0 vs0 (sVals fs) σ H P → (∀ ρ F H' ds vs, Reps K ρ F ds vs → P ρ F H' ds → ds.length = zs.length → Q ((zs.zip vs).map fun p => (V.str p.1, p.2)) H') →
    tPairs ((zs.zip fs).map fun p => (EQ K mg E (pur (.str p.1)), EQ K mg E p.2)) σ H Q
  | [], fs, H, ds0, vs0, Q, P, hl, h, hq => by
    cases fs with
    | nil =>
      obtain ⟨ρ, F, hp, rd, hs, q⟩ := EK.pure h
      exact hq ρ F H [] [] rfl q rfl
    | cons _ _ => simp at hl
  | z :: zs, [], H, ds0, vs0, Q, P, hl, h, hq => by simp at hl
  | z :: zs, f :: fs, H, ds0, vs0, Q, P, hl, h, hq => by
    obtain ⟨ρ, F, env, hp, r, hp', rd, he, hs, e, fin⟩ := h
    refine ⟨ρ, F, env, hp, .ok (.str z), hp, rfl, he, hs, rfl, fun ρ1 F1 H1 x1 s1 v rv => ?_⟩
    obtain rfl : v = .str z := rv
    have h2 : EK K mg E ds0 vs0 (sVals (f :: fs)) σ H1 P := ⟨ρ1, F1, env, hp, r, hp', Reps.mono x1.same x1.pre _ _ rd, he.mono x1.same x1.pre, s1, e, fun ρ2 F2 H2 x2 s2 => fin ρ2 F2 H2 (x1.trans s1 x2) s2⟩
    refine (EK.step h2).imp fun w H2 ⟨d, q2⟩ => ?_
    obtain ⟨ρ, F, env, hp, r, hp', rd, he, hs, e, fin⟩ := q2
    obtain ⟨w', vs1, ew, rw', rd'⟩ := rd
    cases ew
    refine pairs_q zs fs H2 (d :: ds0) (w :: vs0) (fun ps H3 => Q ((V.str z, w) :: ps) H3) (fun ρ' F' H' xs => P ρ' F' H' (d :: xs) ∧ Rep K ρ' F' d w) (by simpa using hl) ?_ fun ρ' F' H' ds vs rr pp hl' => hq ρ' F' H' (d :: ds) (w :: vs) ⟨w, vs, rfl, pp.2, rr⟩ pp.1 (by simp [hl'])
    have e : bnd (sVals fs) (fun xs => pur (d :: xs)) env hp = some (r, hp') := e
    unfold bnd at e
    cases q : sVals fs env hp with
    | none => rw [q] at e; cases e
    | some pr =>
      obtain ⟨r1, hp1⟩ := pr
      rw [q] at e
      cases r1 with
      | ok xs =>
        cases e
        exact ⟨ρ, F, env, hp, .ok xs, _, ⟨w, vs0, rfl, rw', rd'⟩, he, hs, q, fun ρ' F' H' x s => ⟨fin ρ' F' H' x s, Rep.mono x.same x.pre _ _ rw'⟩⟩
      | exc c =>
        cases e
        exact ⟨ρ, F, env, hp, .exc c, _, ⟨w, vs0, rfl, rw', rd'⟩, he, hs, q, fun ρ' F' H' x s => fin ρ' F' H' x s⟩
theorem kvr_zip {K : KW} {ρ : List Addr} {F : Hp} : ∀ (zs : List Str) (ds : List D) (vs : List V), zs.length = ds.length → Reps K ρ F ds vs → KvR K ρ F ((zs.map Sum.inr).zip ds) ((zs.map Sum.inr).zip vs)
  | [], ds, vs, _, _ => ⟨rfl, rfl⟩
  | z :: zs, [], vs, h, _ => by simp at h
  | z :: zs, d :: ds, vs, h, r => by
    obtain ⟨v, w, rfl, r1, r2⟩ := r
    exact KvR.mk r1 (kvr_zip zs ds w (by simpa using h) r2)
theorem de_disp {keys : List (Option Expr)} {values : List Expr} {zs : List Str} {fs : List EF} (h : DPs X E pos keys values zs fs) (h0 : keys ≠ [] := by exact List.cons_ne_nil _ _) (h15 : zs.length ≤ 15 := by decide) : DE X E (.Dict keys values pos) (sDisp zs fs) := by
  obtain ⟨trs, h1, h2, h3, h4, h5, h6⟩ := h.ex
  · subst h2
    refine pe_imp (pe_disp h1 h6 (by rw [h4, h5]) h0 (by rw [h4]; exact h15)) fun σ H Q q => ?_
    obtain ⟨ρ, F, env, hp, r, hp', rd, he, hs, e, fin⟩ := q
    intro p hn
    obtain ⟨s1, x1⟩ := hs.new hn (.dK []) (.dic []) ⟨[], upd_same, rfl, rfl⟩
    unfold sDisp at e
    cases qv : sVals fs env (hp ++ [.dic []]) with
    | none => rw [qv] at e; cases e
    | some pr =>
      obtain ⟨r1, hp1⟩ := pr
      rw [qv] at e
      cases r1 with
      | exc c =>
        cases e
        refine pairs_q (E := E) zs fs _ [] [] _ (fun _ _ _ _ => False) h3 ⟨ρ ++ [p], F, env, _, .exc c, _, rfl, he.mono x1.same x1.pre, s1, qv, fun ρ' F' H' x s => fin ρ' F' H' (x1.trans s1 x) s⟩ fun _ _ _ _ _ _ z _ => z.elim
      | ok ds =>
        simp only at e
        cases qc : hp1[hp.length]? with
        | none => rw [qc] at e; cases e
        | some c =>
          rw [qc] at e
          cases c with
          | dic kvs =>
            cases kvs with
            | cons _ _ => cases e
            | nil =>
              simp only [h15, if_true] at e
              cases e
              refine pairs_q (E := E) zs fs _ [] [] _ (fun ρ' F' H' xs => xs = ds ∧ Ext (ρ ++ [p]) ρ' F (upd H p (.dK [])) F' H' ∧ Sim X.KW ρ' F' H' hp1) h3 ⟨ρ ++ [p], F, env, _, .ok ds, _, rfl, he.mono x1.same x1.pre, s1, qv, fun ρ' F' H' x s => ⟨rfl, x, s⟩⟩ fun ρ' F' H' ds' vs rr pp hl => ?_
              obtain ⟨rfl, x2, s2⟩ := pp
              have hρ : ρ'[hp.length]? = some p := pre_get x2.pre (by rw [hs.len]; simp)
              obtain ⟨ws, hw, k1, k2⟩ := s2.cell hp.length _ p qc hρ
              have ews : ws = [] := by
                cases ws with
                | nil => rfl
                | cons _ _ => cases k1
              subst ews
              refine ⟨hw, (zs.map Sum.inr).zip vs, ?_, ?_, ?_⟩
              · clear fin qv
                have : ∀ (zs : List Str) (vs : List V), (zs.zip vs).map (fun p => (V.str p.1, p.2)) = ((zs.map (Sum.inr : Str → Key)).zip vs).map fun kv => (kV kv.1, kv.2) := fun zs => by
                  induction zs with
                  | nil => intro vs; rfl
                  | cons z zs ih => intro vs; cases vs with
                    | nil => rfl
                    | cons v vs => simp only [List.zip_cons_cons, List.map_cons, ih]; rfl
                exact this zs vs
              · rw [List.length_zip, List.length_map]; omega
              · have kz := kvr_zip (K := X.KW) (ρ := ρ') (F := F') zs ds' vs hl.symm rr
                have km := KvR.merge kz (kvs := []) (ws := []) ⟨rfl, rfl⟩
                obtain ⟨s', x'⟩ := s2.put hρ qc rfl (.dK (L2.mergeK [] ((zs.map Sum.inr).zip vs))) (.dic (mergeD [] ((zs.map Sum.inr).zip ds'))) ⟨_, upd_same, km.1, km.2⟩
                exact fin _ _ _ ((x1.trans s1 x2).trans s2 x') s' _ ⟨p, rfl, pre_get x'.pre hρ⟩
          | _ => cases e
theorem ds_cont : DS X E (.Continue pos) sCont := ps_imp ps_continue fun De σ H h => by
  obtain ⟨ρ, F, env, hp, fl, env', hp', rd, he, hs, e, fin⟩ := h
  cases e
  exact fin ρ F H (Ext.refl _ _ _) hs _ he
end
end HI

namespace HI
open PySem L2 PyProof.Rows
/-! ### a result whose lists hold cells again -/
def mapO {α β : Type} (f : α → Option β) : List α → Option (List β)
  | [] => some []
  | x :: l => match f x, mapO f l with
    | some y, some m => some (y :: m)
    | _, _ => none
def unD (hp : Hp8) : Nat → D → Option D
  | k + 1, .tup ds => (mapO (unD hp k) ds).map .tup
  | k + 1, .lst ds => (mapO (unD hp k) ds).map .lst
  | k + 1, .ref n => match hp[n]? with
    | some (.lst ds) => (mapO (unD hp k) ds).map .lst
    | _ => none
  | _, .non => some .non
  | _, .bl b => some (.bl b)
  | _, .int i => some (.int i)
  | _, .str z => some (.str z)
  | _, .scr ns => some (.scr ns)
  | _, _ => none
theorem unD_int {hp : Hp8} {k : Nat} {d : D} {i : Int} (h : unD hp k d = some (.int i)) : d = .int i := by
  cases d with
  | int j => cases k <;> (cases h; rfl)
  | tup ds =>
    cases k with
    | zero => cases h
    | succ k => cases q : mapO (unD hp k) ds <;> simp [unD, q] at h
  | lst ds =>
    cases k with
    | zero => cases h
    | succ k => cases q : mapO (unD hp k) ds <;> simp [unD, q] at h
  | ref n =>
    cases k with
    | zero => cases h
    | succ k =>
      simp only [unD] at h
      split at h
      · rename_i ds _
        cases q : mapO (unD hp k) ds <;> simp [q] at h
      · cases h
  | _ => cases k <;> cases h
theorem mapO_cons {α β : Type} {f : α → Option β} {x : α} {l : List α} {m : List β} (h : mapO f (x :: l) = some m) : ∃ y r, m = y :: r ∧ f x = some y ∧ mapO f l = some r := by
  simp only [mapO] at h
  split at h
  · rename_i y r h1 h2
    cases h
    exact ⟨y, r, rfl, h1, h2⟩
  · cases h
theorem isP_unD {hp : Hp8} {k : Nat} {d e : D} (h : unD hp k d = some e) (p : isP e = true) : isP d = true := by
  unfold isP at p
  split at p
  · rename_i i j
    cases d with
    | tup ds =>
      cases k with
      | zero => cases h
      | succ k =>
        cases q : mapO (unD hp k) ds with
        | none => simp [unD, q] at h
        | some es =>
          simp [unD, q] at h
          subst h
          cases ds with
          | nil => cases q
          | cons x ds =>
            obtain ⟨y, r, e1, h1, h2⟩ := mapO_cons q
            cases e1
            cases ds with
            | nil => cases h2
            | cons x2 ds =>
              obtain ⟨y2, r2, e2, h3, h4⟩ := mapO_cons h2
              cases e2
              cases ds with
              | cons x3 ds => obtain ⟨_, _, e3, _⟩ := mapO_cons h4; cases e3
              | nil => rw [unD_int h1, unD_int h3]; rfl
    | lst ds =>
      cases k with
      | zero => cases h
      | succ k => cases q : mapO (unD hp k) ds <;> simp [unD, q] at h
    | ref n =>
      cases k with
      | zero => cases h
      | succ k =>
        simp only [unD] at h
        split at h
        · rename_i ds _
          cases q : mapO (unD hp k) ds <;> simp [q] at h
        · cases h
    | _ => cases k <;> cases h
  · cases p
theorem pl_unD {hp : Hp8} {k : Nat} : ∀ {ds es : List D}, mapO (unD hp k) ds = some es → pl es = true → pl ds = true
  | [], es, _, _ => rfl
  | d :: ds, es, h, p => by
    obtain ⟨y, r, rfl, h1, h2⟩ := mapO_cons h
    simp only [pl, List.all_cons, Bool.and_eq_true] at p ⊢
    exact ⟨isP_unD h1 p.1, pl_unD h2 p.2⟩
theorem reps_unD {K : KW} {ρ ρ0 : List Addr} {F F2 : Hp} {hp : Hp8} {k : Nat} (ih : ∀ (d e : D) (v : V), unD hp k d = some e → Rep K ρ F d v → Rep K ρ0 F2 e v) : ∀ (ds es : List D) (vs : List V), mapO (unD hp k) ds = some es → Reps K ρ F ds vs → Reps K ρ0 F2 es vs
  | [], es, vs, h, r => by cases h; exact r
  | d :: ds, es, vs, h, r => by
    obtain ⟨y, rr, rfl, h1, h2⟩ := mapO_cons h
    obtain ⟨v, w, rfl, r1, r2⟩ := r
    exact ⟨v, w, rfl, ih d y v h1 r1, reps_unD ih ds rr w h2 r2⟩
theorem Rep.unD {K : KW} {ρ ρ0 : List Addr} {F H : Hp} {hp : Hp8} (s : Sim K ρ F H hp) : ∀ (k : Nat) (d e : D) (v : V), HI.unD hp k d = some e → Rep K ρ F d v → Rep K ρ0 (frzAll ρ F H) e v
  | k, .non, e, v, h, r => by cases k <;> (cases h; exact r)
  | k, .bl _, e, v, h, r => by cases k <;> (cases h; exact r)
  | k, .int _, e, v, h, r => by cases k <;> (cases h; exact r)
  | k, .str _, e, v, h, r => by cases k <;> (cases h; exact r)
  | k, .scr ns, e, v, h, r => by
    have he : e = .scr ns := by cases k <;> (cases h; rfl)
    subst he
    exact Rep.shift (ρ := ρ) _ _ rfl (Rep.mono (frzAll_same s) (List.prefix_refl _) _ _ r)
  | 0, .tup ds, e, v, h, r => by cases h
  | 0, .lst ds, e, v, h, r => by cases h
  | 0, .ref n, e, v, h, r => by cases h
  | k, .dn _ _, e, v, h, r => by cases k <;> cases h
  | k + 1, .tup ds, e, v, h, r => by
    cases q : mapO (HI.unD hp k) ds with
    | none => simp [HI.unD, q] at h
    | some es =>
      simp [HI.unD, q] at h
      subst h
      obtain ⟨a, vs, ev, q', rr, pr⟩ := r
      exact ⟨a, vs, ev, Same.tupS (frzAll_same s) q', reps_unD (fun d e v => Rep.unD s k d e v) ds es vs q rr, fun z => (pr (pl_unD q z)).mono (frzAll_same s)⟩
  | k + 1, .lst ds, e, v, h, r => by
    cases q : mapO (HI.unD hp k) ds with
    | none => simp [HI.unD, q] at h
    | some es =>
      simp [HI.unD, q] at h
      subst h
      obtain ⟨a, vs, ev, q', rr⟩ := r
      exact ⟨a, vs, ev, frzAll_same s _ _ q', reps_unD (fun d e v => Rep.unD s k d e v) ds es vs q rr⟩
  | k + 1, .ref n, e, v, h, r => by
    obtain ⟨a, ev, q⟩ := r
    simp only [HI.unD] at h
    split at h
    · rename_i ds hc
      cases q2 : mapO (HI.unD hp k) ds with
      | none => simp [q2] at h
      | some es =>
        simp [q2] at h
        subst h
        obtain ⟨vs, hv, rv⟩ := s.cell n _ a hc q
        refine ⟨a, vs, ev, ?_, reps_unD (fun d e v => Rep.unD s k d e v) ds es vs q2 rv⟩
        simp [frzAll, List.mem_of_getElem? q, hv]
    · cases h
def unDR (hp : Hp8) : Res D → Option (Res D)
  | .ok d => (unD hp 20 d).map .ok
  | .exc c => some (.exc c)
def pureDOf (g : List D → Hp8 → Option (Res D × Hp8)) : List D → Option (Res D) := fun ds => if closeds ds then match g ds [] with
    | some (r0, hp0) => unDR hp0 r0
    | none => none else none
def pureGd (g : List D → Hp8 → Option (Res D × Hp8)) : List D → Hp8 → Option (Res D × Hp8) := lift0 (pureDOf g)
theorem pureGd_ok {g : List D → Hp8 → Option (Res D × Hp8)} {ds : List D} {d e : D} {hp0 hp : Hp8} (hc : closeds ds = true) (h : g ds [] = some (.ok d, hp0)) (hu : unD hp0 20 d = some e) : pureGd g ds hp = some (.ok e, hp) := by
  simp [pureGd, lift0, pureDOf, hc, h, unDR, hu]
section
variable {P : Program} {w : World} {K : PySem.W.Frag} {mg : Str → Option Value} {base : Heap}
theorem Fn8.pureDl {f : Addr} {fd : FuncData} {ps : List Str} {k : Nat} {g : List D → Hp8 → Option (Res D × Hp8)} {G : List D → Option (Res D)} (Fo : Fn8 P w K mg base k f fd ps g)
    (h : ∀ ds r, G ds = some r → closeds ds = true ∧ ∃ r0 hp0, g ds [] = some (r0, hp0) ∧ unDR hp0 r0 = some r) : Fn8 P w K mg base k f fd ps (lift0 G) :=
  FnOk.imp Fo fun vs H Q E ⟨ρ, F, hp, ds, r, hp', rd, hs, e, fin⟩ => by
    unfold lift0 at e
    cases q : G ds with
    | none => rw [q] at e; cases e
    | some r1 =>
      rw [q] at e
      cases e
      obtain ⟨hc, r0, hp0, e0, eu⟩ := h ds _ q
      refine ⟨[], F, [], ds, r0, hp0, Reps.shift _ _ hc rd, ⟨hs.sub, by simp, rfl, fun n c a h => by simp at h, fun a ha => by simp at ha, fun n c a h => by simp at h⟩, e0, fun ρ' F' H' x s' => ?_⟩
      have nr : ∀ a, a ∈ ρ → a ∉ ρ' := fun a ha z => (x.fresh a z).elim (fun q => by simp at q) (hs.live a ha)
      have sm : Same F (frzAll ρ' F' H') := x.same.trans (frzAll_same s')
      have ext : Ext ρ ρ F H (frzAll ρ' F' H') H' := by
        refine ⟨List.prefix_refl _, sm, fun a o ho n hr => ?_, fun a ha => .inl ha⟩
        obtain ⟨n', ho'⟩ := x.keep a o ho n (by simp)
        have na : a ∉ ρ' := fun z => (x.fresh a z).elim (fun q => by simp at q) fun q => by rw [ho] at q; cases q
        exact ⟨by simp [frzAll, na, n'], ho'⟩
      have keep : ∀ (n : Nat) (c : Cell) (a : Addr), hp[n]? = some c → ρ[n]? = some a → c.live = true → F' a = none ∧ H' a = H a := fun n c a h1 h2 h3 => by
        have ha : a ∈ ρ := List.mem_of_getElem? h2
        cases q : H a with
        | none => exact absurd q (hs.live a ha)
        | some o =>
          obtain ⟨n', ho'⟩ := x.keep a o q (hs.out n c a h1 h2 h3) (by simp)
          exact ⟨n', ho'⟩
      have sim : Sim (K, w) ρ (frzAll ρ' F' H') H' hp := by
        refine ⟨fun b u eb => ?_, hs.nd, hs.len, fun n c a h1 h2 h3 => ?_, fun a ha => ?_, fun n c a h1 h2 => ?_⟩
        · unfold frzAll at eb
          split at eb
          · split at eb
            · rename_i vs hv
              rw [hv]
              exact eb
            · rename_i vs hv
              rw [hv]
              exact eb
            · exact s'.sub _ _ eb
          · exact s'.sub _ _ eb
        · have ha : a ∈ ρ := List.mem_of_getElem? h2
          simp [frzAll, nr a ha, (keep n c a h1 h2 h3).1]
        · cases q : H a with
          | none => exact absurd q (hs.live a ha)
          | some o =>
            cases qf : F a with
            | none =>
              rw [(x.keep a o q qf (by simp)).2]
              exact fun z => by cases z
            | some u =>
              rw [s'.sub _ _ (x.same _ _ qf)]
              exact fun z => by cases z
        · cases c with
          | dead => trivial
          | lst l => exact (hs.cell n _ a h1 h2).mono sm (List.prefix_refl _) (keep n _ a h1 h2 rfl).2
          | dic l => exact (hs.cell n _ a h1 h2).mono sm (List.prefix_refl _) (keep n _ a h1 h2 rfl).2
          | dn _ _ => exact (hs.cell n _ a h1 h2).mono sm (List.prefix_refl _) (keep n _ a h1 h2 rfl).2
      have f2 := fin ρ _ H' ext sim
      cases r0 with
      | exc c =>
        cases eu
        exact f2
      | ok d =>
        intro v rv
        cases qd : unD hp0 20 d with
        | none => simp [unDR, qd] at eu
        | some d1 =>
          simp [unDR, qd] at eu
          subst eu
          exact f2 v (Rep.unD s' 20 d d1 v qd rv)
theorem Fn8.pureGd {f : Addr} {fd : FuncData} {ps : List Str} {k : Nat} {g : List D → Hp8 → Option (Res D × Hp8)} (F : Fn8 P w K mg base k f fd ps g) : Fn8 P w K mg base k f fd ps (HI.pureGd g) :=
  Fn8.pureDl F fun ds r e => by
    unfold pureDOf at e
    split at e
    · rename_i hc
      split at e
      · rename_i r0 hp0 h
        exact ⟨hc, r0, hp0, h, e⟩
      · cases e
    · cases e
end
section
variable {X : Cx} {E : XK} {a : Expr} {fA : AF} {pos : Pos}
/-! list(x): a new cell -/
def gListC : List D → EF := fun ds _ hp => match ds with
  | [d] => match seqOf hp d with
    | some xs => some (.ok (.ref hp.length), hp ++ [.lst xs])
    | none => none
  | _ => none
def sListC (fA : AF) : EF := bnd fA gListC
theorem ok_listC : OkCall X E gListC (fun xs H Q => ∃ p ys, xs = [.ref p] ∧ (SqL X.K H p ys ∨ SqT X.K H p ys) ∧ ∀ l, H l = none → Q (.ref l) (upd H l (.lst ys))) := fun ds vs σ H Q h => by
  obtain ⟨ρ, F, env, hp, r, hp', rd, he, hs, e, fin⟩ := h
  unfold gListC at e
  split at e
  · rename_i d
    split at e
    · rename_i xs hd
      cases e
      obtain ⟨v, rfl, rv⟩ := reps1 rd
      obtain ⟨p, ws, rfl, hq, rr⟩ := seqOf_at hs rv hd
      refine ⟨p, ws, rfl, hq, fun l hn => ?_⟩
      obtain ⟨s', x'⟩ := hs.new hn (.lst ws) (.lst xs) ⟨ws, upd_same, Reps.mono (Same.refl _) (List.prefix_append _ _) _ _ rr⟩
      exact fin _ _ _ x' s' _ ⟨l, rfl, by rw [hs.len]; simp⟩
    · cases e
  · cases e
theorem de_listC {p : Pos} (hg : Gl X "list") (hm : X.mg "list" = none) (ha : DA X E [a] fA) (he : starEach [a] X.env = (false, eval a X.env) :: starEach [] X.env := by rfl) : DE X E (.Call (.Name "list" p) [a] [] pos) (sListC fA) :=
  de_callT call_list_of ok_listC hg hm boot_list' ha (he := he)
end
end HI

namespace R
open PySem L2 PyProof.Rows HI
def b__law_draw : SF := (sSeq (sIfS (sTst (sOp (sCmp gtD) (sIx (sVar 1) (pur (.int 1))) (pur (.int 0))))
  (sSeq (sAsg (sMod (sIx (sVar 1) (pur (.int 1))) (sVar 2)) (gNm 3))
  (sSeq (sAsg (sFdiv (sIx (sVar 1) (pur (.int 1))) (sVar 2)) (gIx (sVar 1) (pur (.int 1))))
  (sRet (sVar 3))))
  sSkip)
  (sSeq (sAsg (sIx (sVar 1) (pur (.int 0))) (gNm 4))
  (sSeq (sAugIx (sVar 1) (pur (.int 0)) .Add (pur (.int 1)))
  (sSeq (sIfS (sTst (sOp (sCmp eqD) (sVar 0) (sLst sNil)))
  (sRet (sMod (sVar 4) (sVar 2)))
  sSkip)
  (sSeq (sIfS (tfAnd (sTst (sOp (sCmp ltD) (sVar 4) (sLen (sCons (sVar 0) sNil)))) (sTst (sOp (sCmp geD) (sIx (sVar 0) (sVar 4)) (sPow (pur (.int 10)) (pur (.int 18))))))
  (sSeq (sAsg (sMod (sFdiv (sIx (sVar 0) (sVar 4)) (sVar 2)) (sMul (sPow (pur (.int 10)) (pur (.int 60))) (sPow (pur (.int 10)) (pur (.int 60))))) (gIx (sVar 1) (pur (.int 1))))
  (sRet (sMod (sIx (sVar 0) (sVar 4)) (sVar 2))))
  sSkip)
  (sSeq (sAsg (sMod (sAdd (sAdd (sMul (sIx (sVar 0) (sMod (sVar 4) (sLen (sCons (sVar 0) sNil)))) (pur (.int 1103515245))) (sMul (pur (.int 7919)) (sVar 4))) (pur (.int 12345))) (pur (.int 2147483647))) (gNm 5))
  (sRet (sMod (sMod (sMod (sPow (sVar 5) (pur (.int 5))) (pur (.int 2147483647))) (pur (.int 999983))) (sVar 2)))))))))
def g__law_draw : List D → Hp8 → Option (Res D × Hp8) := townG (runF 6 3 b__law_draw)
def b__law_let : SF := (sRet (sIf (sTst (sOp (sCmp eqD) (sVar 0) (pur (.int 0)))) (sLst (sCons (pur (.str "answer")) (sCons (pur (.str "both")) (sCons (pur (.str "frame")) (sCons (pur (.str "none")) sNil))))) (sLst (sCons (pur (.str "none")) sNil))))
def g__law_let : List D → Hp8 → Option (Res D × Hp8) := pureG (runF 1 1 b__law_let)
def b__law_pick : SF := (sRet (sIx (sVar 2) (sCallD g__law_draw (sCons (sVar 0) (sCons (sVar 1) (sCons (sLen (sCons (sVar 2) sNil)) sNil))))))
def g__law_pick : List D → Hp8 → Option (Res D × Hp8) := townG (runF 3 3 b__law_pick)
def b__law_rest : SF := (sSeq (sIfS (sTst (sOp (sCmp eqD) (sVar 2) (pur (.str "none"))))
  (sRet (sIf (sTst (sOp (sCmp gtD) (sVar 1) (pur (.int 0)))) (sSub (sVar 1) (pur (.int 1))) (pur (.int 0))))
  sSkip)
  (sRet (sIx (sVar 0) (pur (.int 1)))))
def g__law_rest : List D → Hp8 → Option (Res D × Hp8) := pureG (runF 3 3 b__law_rest)
def L__law_fates_1 : SF := (sSeq (sAsg (pur (.str "none")) (gNm 8))
  (sSeq (sIfS (tfAnd (sTst (sOp (sCmp eqD) (sVar 4) (pur (.int 0)))) (sTst (sOp (sCmp ltD) (sCallD g__law_draw (sCons (sVar 0) (sCons (sVar 1) (sCons (sVar 6) sNil)))) (pur (.int 2)))))
  (sAsg (sCallD g__law_pick (sCons (sVar 0) (sCons (sVar 1) (sCons (sCallD g__law_let (sCons (sVar 4) sNil)) sNil)))) (gNm 8))
  sSkip)
  (sSeq (sExpr (sAppend (sVar 5) (sVar 8)))
  (sAsg (sCallD g__law_rest (sCons (sVar 2) (sCons (sVar 4) (sCons (sVar 8) sNil)))) (gNm 4)))))
def b__law_fates : SF := (sSeq (sPar3 4 5 6 (sCons (pur (.int 0)) (sCons (sLstC sNil) (sCons (sAdd (pur (.int 2)) (sCallD g__law_draw (sCons (sVar 0) (sCons (sVar 1) (sCons (pur (.int 4)) sNil))))) sNil))))
  (sSeq (sFor (sRng1 (sCons (sCallD g__law_draw (sCons (sVar 0) (sCons (sVar 1) (sCons (sAdd (sVar 3) (pur (.int 1))) sNil)))) sNil)) (gNm 7)
  L__law_fates_1)
  (sRet (sVar 5))))
def g__law_fates : List D → Hp8 → Option (Res D × Hp8) := townG (runF 9 4 b__law_fates)
def b__law_way : SF := (sSeq (sAsg (sAdd (pur (.int 1)) (sCallD g__law_draw (sCons (sVar 0) (sCons (sVar 1) (sCons (pur (.int 3)) sNil))))) (gNm 2))
  (sSeq (sPar2 3 4 (sCons (sCallD g__law_pick (sCons (sVar 0) (sCons (sVar 1) (sCons (sLst (sCons (pur (.str "back")) (sCons (pur (.str "own")) (sCons (pur (.str "quick")) sNil)))) sNil)))) (sCons (sAdd (sVar 2) (sCallD g__law_draw (sCons (sVar 0) (sCons (sVar 1) (sCons (sSub (pur (.int 7)) (sVar 2)) sNil))))) sNil)))
  (sRet (sTup (sCons (sVar 3) (sCons (sVar 2) (sCons (sVar 4) (sCons (sAdd (pur (.int 1)) (sCallD g__law_draw (sCons (sVar 0) (sCons (sVar 1) (sCons (pur (.int 5)) sNil))))) sNil))))))))
def g__law_way : List D → Hp8 → Option (Res D × Hp8) := townG (runF 5 2 b__law_way)
def b__law_wire : SF := (sRet (sTup (sCons (sAdd (pur (.int 1)) (sCallD g__law_draw (sCons (sVar 0) (sCons (sVar 1) (sCons (pur (.int 2)) sNil))))) (sCons (sCallD g__law_pick (sCons (sVar 0) (sCons (sVar 1) (sCons (sLst (sCons (pur (.int 0)) (sCons (pur (.int 0)) (sCons (pur (.int 1)) (sCons (pur (.int 2)) (sCons (pur (.int 3)) (sCons (pur (.int 4)) (sCons (pur (.int 5)) (sCons (pur (.int 6)) (sCons (pur (.int 8)) sNil)))))))))) sNil)))) sNil))))
def g__law_wire : List D → Hp8 → Option (Res D × Hp8) := townG (runF 2 2 b__law_wire)
def b_fates_at : SF := (sRet (sIf (sTst (sOp (sCmp eqD) (sVar 0) (pur (.int 0)))) (sList (sCons (pur (.tup [.str "answer", .str "both", .str "frame", .str "none"])) sNil)) (sLst (sCons (pur (.str "none")) sNil))))
def g_fates_at : List D → Hp8 → Option (Res D × Hp8) := pureG (runF 1 1 b_fates_at)
def b_rest_behind : SF := (sRet (sIf (sTst (sOp (sCmp eqD) (sVar 2) (pur (.str "none")))) (sMax2 (sCons (pur (.int 0)) (sCons (sSub (sVar 1) (pur (.int 1))) sNil))) (sIx (sVar 0) (pur (.int 1)))))
def g_rest_behind : List D → Hp8 → Option (Res D × Hp8) := pureG (runF 3 3 b_rest_behind)
def L_are_fates_of_1 : SF := (sSeq (sIfS (tfOr (tfNot (sTst (sIsi "str" (sVar 3)))) (sTst (sOp (sCmp inN) (sVar 3) (sCallD g_fates_at (sCons (sVar 2) sNil)))))
  (sRet (pur (.bl false)))
  sSkip)
  (sAsg (sCallD g_rest_behind (sCons (sVar 0) (sCons (sVar 2) (sCons (sVar 3) sNil)))) (gNm 2)))
def b_are_fates_of : SF := (sSeq (sIfS (tfOr (tfNot (sTst (sIsi "list" (sVar 1)))) (sTst (sOp (sCmp gtD) (sLen (sCons (sVar 1) sNil)) (pur (.int (40))))))
  (sRet (pur (.bl false)))
  sSkip)
  (sSeq (sAsg (pur (.int 0)) (gNm 2))
  (sSeq (sFor (sIt (sVar 1)) (gNm 3)
  L_are_fates_of_1)
  (sRet (pur (.bl true))))))
def g_are_fates_of : List D → Hp8 → Option (Res D × Hp8) := pureG (runF 4 2 b_are_fates_of)
def b_is_int : SF := (sRet (sAnd (sIsi "int" (sVar 0)) (sAnd (sNot (sIsi "bool" (sVar 0))) (sChain leD leD (sVar 1) (sVar 0) (sVar 2)))))
def g_is_int : List D → Hp8 → Option (Res D × Hp8) := pureG (runF 3 3 b_is_int)
def b_is_wire : SF := (sSeq (sIfS (tfOr (tfNot (sTst (sIsi "tuple" (sVar 0)))) (sTst (sOp (sCmp neD) (sLen (sCons (sVar 0) sNil)) (pur (.int 2)))))
  (sRet (pur (.bl false)))
  sSkip)
  (sRet (sAnd (sCallD g_is_int (sCons (sIx (sVar 0) (pur (.int 0))) (sCons (pur (.int 1)) (sCons (pur (.int 2)) sNil)))) (sCallD g_is_int (sCons (sIx (sVar 0) (pur (.int 1))) (sCons (pur (.int 0)) (sCons (pur (.int 8)) sNil)))))))
def g_is_wire : List D → Hp8 → Option (Res D × Hp8) := pureG (runF 1 1 b_is_wire)
def b_need_wire : SF := (sIfS (tfNot (sTst (sCallD g_is_wire (sCons (sVar 0) sNil))))
  (sRaise "InvalidWire")
  sSkip)
def g_need_wire : List D → Hp8 → Option (Res D × Hp8) := pureG (runF 1 1 b_need_wire)
def b_are_fates : SF := (sSeq (sExpr (sCallD g_need_wire (sCons (sVar 0) sNil)))
  (sRet (sCallD g_are_fates_of (sCons (sVar 0) (sCons (sVar 1) sNil)))))
def g_are_fates : List D → Hp8 → Option (Res D × Hp8) := pureG (runF 2 2 b_are_fates)
def L_family_1 : SF := (sExpr (sExtend (sVar 0) (sLc (sIt (sTup (sCons (pur (.int 1)) (sCons (pur (.int 2)) (sCons (pur (.int 3)) sNil))))) (.nm 4) tfYes (sTup (sCons (sVar 1) (sCons (sVar 2) (sCons (sVar 3) (sCons (sVar 4) sNil))))) [4])))
def L_family_2 : SF := (sFor (sRng2 (sCons (sAdd (sVar 2) (pur (.int 1))) (sCons (pur (.int 5)) sNil))) (gNm 3)
  L_family_1)
def L_family_3 : SF := (sFor (sIt (sTup (sCons (pur (.int 1)) (sCons (pur (.int 2)) (sCons (pur (.int 3)) sNil))))) (gNm 2)
  L_family_2)
def b_family : SF := (sSeq (sAsg (sLstC sNil) (gNm 0))
  (sSeq (sFor (sIt (pur (.tup [.str "back", .str "own", .str "quick"]))) (gNm 1)
  L_family_3)
  (sRet (sVar 0))))
def g_family : List D → Hp8 → Option (Res D × Hp8) := pureG (runF 5 0 b_family)
def b_is_kind : SF := (sRet (sAnd (sIsi "str" (sVar 0)) (sOp (sCmp inY) (sVar 0) (pur (.tup [.str "back", .str "own", .str "quick"])))))
def g_is_kind : List D → Hp8 → Option (Res D × Hp8) := pureG (runF 1 1 b_is_kind)
def b_is_way : SF := (sSeq (sIfS (tfOr (tfNot (sTst (sIsi "tuple" (sVar 0)))) (tfOr (sTst (sOp (sCmp neD) (sLen (sCons (sVar 0) sNil)) (pur (.int 4)))) (tfNot (sTst (sCallD g_is_kind (sCons (sIx (sVar 0) (pur (.int 0))) sNil))))))
  (sRet (pur (.bl false)))
  sSkip)
  (sRet (sAnd (sCallD g_is_int (sCons (sIx (sVar 0) (pur (.int 1))) (sCons (pur (.int 1)) (sCons (pur (.int 3)) sNil)))) (sAnd (sCallD g_is_int (sCons (sIx (sVar 0) (pur (.int 2))) (sCons (sIx (sVar 0) (pur (.int 1))) (sCons (pur (.int 6)) sNil)))) (sCallD g_is_int (sCons (sIx (sVar 0) (pur (.int 3))) (sCons (pur (.int 1)) (sCons (pur (.int 5)) sNil))))))))
def g_is_way : List D → Hp8 → Option (Res D × Hp8) := pureG (runF 1 1 b_is_way)
def b_need_fates : SF := (sIfS (tfNot (sTst (sCallD g_are_fates_of (sCons (sVar 0) (sCons (sVar 1) sNil)))))
  (sRaise "InvalidFates")
  sSkip)
def g_need_fates : List D → Hp8 → Option (Res D × Hp8) := pureG (runF 2 2 b_need_fates)
def b_need_way : SF := (sSeq (sExpr (sCallD g_need_wire (sCons (sVar 0) sNil)))
  (sIfS (tfNot (sTst (sCallD g_is_way (sCons (sVar 1) sNil))))
  (sRaise "InvalidWay")
  sSkip))
def g_need_way : List D → Hp8 → Option (Res D × Hp8) := pureG (runF 2 2 b_need_way)
def b_need_run : SF := (sSeq (sExpr (sCallD g_need_way (sCons (sVar 0) (sCons (sVar 1) sNil))))
  (sExpr (sCallD g_need_fates (sCons (sVar 0) (sCons (sVar 2) sNil)))))
def g_need_run : List D → Hp8 → Option (Res D × Hp8) := pureG (runF 3 3 b_need_run)
def b_sender_of : SF := (sRet (sIf (sTst (sOp (sCmp eqD) (sIx (sVar 0) (pur (.int 0))) (pur (.str "own")))) (sMulT (sTup (sCons (pur (.int 0)) sNil)) (sIx (sVar 0) (pur (.int 1)))) (sTup (sCons (pur (.int 0)) (sCons (pur (.int 0)) (sCons (pur (.int 0)) (sCons (pur (.int 0)) sNil)))))))
def g_sender_of : List D → Hp8 → Option (Res D × Hp8) := pureG (runF 1 1 b_sender_of)
def b_begun : SF := (sRet (sTup (sCons (pur (.int 0)) (sCons (sCallD g_sender_of (sCons (sVar 1) sNil)) (sCons (sMulT (sTup (sCons (pur .non) sNil)) (sSub (sIx (sVar 0) (pur (.int 0))) (pur (.int 1)))) (sCons (sMulT (sTup (sCons (pur .non) sNil)) (sIx (sVar 0) (pur (.int 0)))) (sCons (sTup (sCons (pur (.int 0)) (sCons (sTup sNil) sNil))) sNil)))))))
def g_begun : List D → Hp8 → Option (Res D × Hp8) := pureG (runF 2 2 b_begun)
def b_gets_back : SF := (sSeq (sAsg (sIx (sVar 1) (pur (.int 0))) (gNm 3))
  (sSeq (sIfS (sTst (sOp (sCmp neD) (sMod (sSub (sVar 2) (sVar 3)) (sIx (sVar 0) (pur (.int 2)))) (pur (.int 0))))
  (sRet (sTup (sCons (sVar 1) (sCons (sLst sNil) (sCons (sVar 3) sNil)))))
  sSkip)
  (sRet (sTup (sCons (sTup (sCons (sAdd (sVar 3) (pur (.int 1))) (sCons (sTup sNil) sNil))) (sCons (sLst (sCons (sVar 2) sNil)) (sCons (sAdd (sVar 3) (pur (.int 1))) sNil)))))))
def g_gets_back : List D → Hp8 → Option (Res D × Hp8) := pureG (runF 4 3 b_gets_back)
def L_gets_own_1 : SF := (sExpr (sAppend (sVar 9) (sDGet (sVar 8) (sLen (sCons (sVar 9) sNil)))))
def b_gets_own : SF := (sSeq (sPar2 3 4 (sCons (sIx (sVar 0) (pur (.int 1))) (sCons (sIx (sVar 0) (pur (.int 2))) sNil)))
  (sSeq (sAsg (sVar 1) (gTp 2 (gsCons (gNm 5) (gsCons (gNm 6) gsNil))))
  (sSeq (sAsg (sMod (sSub (sVar 2) (sVar 5)) (sVar 4)) (gNm 7))
  (sSeq (sIfS (sTst (sOp (sCmp geD) (sVar 7) (sVar 3)))
  (sRet (sTup (sCons (sVar 1) (sCons (sLst sNil) (sCons (sVar 2) sNil)))))
  sSkip)
  (sSeq (sAsg (sDictT (sCons (sVar 6) sNil)) (gNm 8))
  (sSeq (sIfS (sTst (sOp (sCmp (inDic true)) (sVar 7) (sVar 8)))
  (sAsg (sVar 2) (gDix (sVar 8) (sVar 7)))
  sSkip)
  (sSeq (sAsg (sLstC sNil) (gNm 9))
  (sSeq (sWhile (sTst (sOp (sCmp (inDic false)) (sLen (sCons (sVar 9) sNil)) (sVar 8)))
  L_gets_own_1 fuel8)
  (sSeq (sAsg (sLen (sCons (sVar 9) sNil)) (gNm 10))
  (sSeq (sAsg (sLc (sIt (sSortD (sCons (sVar 8) sNil))) (.nm 12) (sTst (sOp (sCmp geD) (sVar 12) (sVar 10))) (sTup (sCons (sSub (sVar 12) (sVar 10)) (sCons (sDGet (sVar 8) (sVar 12)) sNil))) [12]) (gNm 11))
  (sRet (sTup (sCons (sTup (sCons (sAdd (sVar 5) (sVar 10)) (sCons (sTuple (sCons (sVar 11) sNil)) sNil))) (sCons (sVar 9) (sCons (sVar 2) sNil)))))))))))))))
def g_gets_own : List D → Hp8 → Option (Res D × Hp8) := pureG (runF 13 3 b_gets_own)
def b_got : SF := (sRet (sIf (sTst (sOp (sCmp eqD) (sIx (sVar 0) (pur (.int 0))) (pur (.str "own")))) (sCallD g_gets_own (sCons (sVar 0) (sCons (sVar 1) (sCons (sVar 2) sNil)))) (sCallD g_gets_back (sCons (sVar 0) (sCons (sVar 1) (sCons (sVar 2) sNil))))))
def g_got : List D → Hp8 → Option (Res D × Hp8) := pureG (runF 3 3 b_got)
def b_hears_back : SF := (sSeq (sAsg (sVar 1) (gTp 4 (gsCons (gNm 3) (gsCons (gNm 4) (gsCons (gNm 5) (gsCons (gNm 6) gsNil))))))
  (sSeq (sIfS (sTst (sChain ltD leD (pur (.int 0)) (sVar 2) (sVar 3)))
  (sRet (sTup (sCons (sTup (sCons (sSub (sVar 3) (sVar 2)) (sCons (sMax2 (sCons (pur (.int 0)) (sCons (sSub (sVar 4) (sVar 2)) sNil))) (sCons (pur (.int 0)) (sCons (pur (.int 0)) sNil))))) (sCons (sVar 2) sNil))))
  sSkip)
  (sSeq (sIfS (tfOr (sTst (sOp (sCmp neD) (sIx (sVar 0) (pur (.int 0))) (pur (.str "quick")))) (tfOr (sTst (sOp (sCmp neD) (sVar 2) (pur (.int 0)))) (sTst (sOp (sCmp eqD) (sVar 3) (pur (.int 0))))))
  (sRet (sTup (sCons (sVar 1) (sCons (pur (.int 0)) sNil))))
  sSkip)
  (sRet (sTup (sCons (sIf (sTst (sOp (sCmp eqD) (sVar 6) (pur (.int 1)))) (sTup (sCons (sVar 3) (sCons (pur (.int 0)) (sCons (pur (.int 0)) (sCons (pur (.int 0)) sNil))))) (sTup (sCons (sVar 3) (sCons (sVar 4) (sCons (sVar 5) (sCons (pur (.int 1)) sNil)))))) (sCons (pur (.int 0)) sNil)))))))
def g_hears_back : List D → Hp8 → Option (Res D × Hp8) := pureG (runF 7 3 b_hears_back)
def L_hears_own_1 : SF := (sAug 4 .Add (pur (.int 1)))
def b_hears_own : SF := (sSeq (sIfS (tfOr (sTst (sOp (sCmp geD) (sVar 2) (sIx (sVar 0) (pur (.int 1))))) (sTst (sOp (sCmp inY) (sIx (sVar 1) (sVar 2)) (sTup (sCons (pur (.int 0)) (sCons (pur (.int (-1))) sNil))))))
  (sRet (sTup (sCons (sVar 1) (sCons (pur (.int 0)) sNil))))
  sSkip)
  (sSeq (sAsg (sAdd (sAdd (sSl (sVar 1) (pur none) (sPart (sVar 2))) (sTup (sCons (pur (.int (-1))) sNil))) (sSl (sVar 1) (sPart (sAdd (sVar 2) (pur (.int 1)))) (pur none))) (gNm 3))
  (sSeq (sAsg (pur (.int 0)) (gNm 4))
  (sSeq (sWhile (tfAnd (sTst (sOp (sCmp ltD) (sVar 4) (sLen (sCons (sVar 3) sNil)))) (sTst (sOp (sCmp eqD) (sIx (sVar 3) (sVar 4)) (pur (.int (-1))))))
  L_hears_own_1 fuel8)
  (sRet (sTup (sCons (sAdd (sSl (sVar 3) (sPart (sVar 4)) (pur none)) (sMulT (sTup (sCons (pur (.int 0)) sNil)) (sVar 4))) (sCons (sVar 4) sNil))))))))
def g_hears_own : List D → Hp8 → Option (Res D × Hp8) := pureG (runF 5 3 b_hears_own)
def b_heard : SF := (sRet (sIf (sTst (sOp (sCmp eqD) (sIx (sVar 0) (pur (.int 0))) (pur (.str "own")))) (sCallD g_hears_own (sCons (sVar 0) (sCons (sVar 1) (sCons (sVar 2) sNil)))) (sCallD g_hears_back (sCons (sVar 0) (sCons (sVar 1) (sCons (sVar 2) sNil))))))
def g_heard : List D → Hp8 → Option (Res D × Hp8) := pureG (runF 3 3 b_heard)
def b_is_again : SF := (sSeq (sIfS (sTst (sOp (sCmp eqD) (sIx (sVar 0) (pur (.int 0))) (pur (.str "own"))))
  (sRet (sOp (sCmp inY) (sIx (sVar 0) (pur (.int 3))) (sVar 1)))
  sSkip)
  (sSeq (sAsg (sVar 1) (gTp 4 (gsCons (gNm 2) (gsCons (gNm 3) (gsCons (gNm 4) (gsCons (gNm 5) gsNil))))))
  (sRet (sOr (sAnd (sOp (sCmp gtD) (sVar 2) (pur (.int 0))) (sOp (sCmp eqD) (sVar 4) (sIx (sVar 0) (pur (.int 3))))) (sOp (sCmp ltD) (sVar 3) (sVar 2))))))
def g_is_again : List D → Hp8 → Option (Res D × Hp8) := pureG (runF 6 2 b_is_again)
def b_sends_back : SF := (sSeq (sAsg (sVar 1) (gTp 4 (gsCons (gNm 2) (gsCons (gNm 3) (gsCons (gNm 4) (gsCons (gNm 5) gsNil))))))
  (sSeq (sIfS (tfAnd (sTst (sOp (sCmp gtD) (sVar 2) (pur (.int 0)))) (sTst (sOp (sCmp eqD) (sVar 4) (sIx (sVar 0) (pur (.int 3))))))
  (sAsg (sTup (sCons (pur (.int 0)) (sCons (pur (.int 0)) sNil))) (gTp 2 (gsCons (gNm 3) (gsCons (gNm 4) gsNil))))
  sSkip)
  (sSeq (sAsg (sIf (sTst (sOp (sCmp ltD) (sVar 3) (sIx (sVar 0) (pur (.int 1))))) (sVar 3) (pur .non)) (gNm 6))
  (sSeq (sIfS (sTst (sOp (sCmp isNotD) (sVar 6) (pur .non)))
  (sAug 3 .Add (pur (.int 1)))
  sSkip)
  (sSeq (sAsg (sMax2 (sCons (sVar 2) (sCons (sVar 3) sNil))) (gNm 2))
  (sRet (sTup (sCons (sVar 6) (sCons (sTup (sCons (sVar 2) (sCons (sVar 3) (sCons (sIf (sTst (sOp (sCmp gtD) (sVar 2) (pur (.int 0)))) (sAdd (sVar 4) (pur (.int 1))) (pur (.int 0))) (sCons (sVar 5) sNil))))) sNil)))))))))
def g_sends_back : List D → Hp8 → Option (Res D × Hp8) := pureG (runF 7 2 b_sends_back)
def b_sends_own : SF := (sSeq (sAsg (sLc (sEnumA (sCons (sVar 1) sNil)) (.tp [6, 7]) (sTst (sOp (sCmp eqD) (sVar 7) (sIx (sVar 0) (pur (.int 3))))) (sVar 6) [6, 7]) (gNm 2))
  (sSeq (sAsg (sLc (sEnumA (sCons (sVar 1) sNil)) (.tp [6, 7]) (sTst (sOp (sCmp eqD) (sVar 7) (pur (.int 0)))) (sVar 6) [6, 7]) (gNm 3))
  (sSeq (sAsg (sIf (sTst (sOp (sCmp neD) (sAdd (sVar 2) (sVar 3)) (sLst sNil))) (sIx (sAdd (sVar 2) (sVar 3)) (pur (.int 0))) (pur .non)) (gNm 4))
  (sSeq (sAsg (sLcC (sIt (sVar 1)) (.nm 7) tfYes (sIf (sTst (sOp (sCmp gtD) (sVar 7) (pur (.int 0)))) (sMin2 (sCons (sAdd (sVar 7) (pur (.int 1))) (sCons (sIx (sVar 0) (pur (.int 3))) sNil))) (sVar 7)) [7]) (gNm 5))
  (sSeq (sIfS (sTst (sOp (sCmp isNotD) (sVar 4) (pur .non)))
  (sAsg (pur (.int 1)) (gIx (sVar 5) (sVar 4)))
  sSkip)
  (sRet (sTup (sCons (sVar 4) (sCons (sTuple (sCons (sVar 5) sNil)) sNil)))))))))
def g_sends_own : List D → Hp8 → Option (Res D × Hp8) := pureG (runF 8 2 b_sends_own)
def b_sent_by : SF := (sRet (sIf (sTst (sOp (sCmp eqD) (sIx (sVar 0) (pur (.int 0))) (pur (.str "own")))) (sCallD g_sends_own (sCons (sVar 0) (sCons (sVar 1) sNil))) (sCallD g_sends_back (sCons (sVar 0) (sCons (sVar 1) sNil)))))
def g_sent_by : List D → Hp8 → Option (Res D × Hp8) := pureG (runF 2 2 b_sent_by)
def b_moved : SF := (sRet (sIf (sTst (sOp (sCmp isD) (sVar 0) (pur .non))) (pur .non) (sSub (sVar 0) (sVar 1))))
def g_moved : List D → Hp8 → Option (Res D × Hp8) := pureG (runF 2 2 b_moved)
def b_shifted : SF := (sSeq (sAsg (sTup (sCons (sIx (sVar 0) (pur (.int 2))) (sCons (sVar 1) sNil))) (gTp 2 (gsCons (gNm 4) (gsCons (gTp 5 (gsCons (gNm 5) (gsCons (gNm 6) (gsCons (gNm 7) (gsCons (gNm 8) (gsCons (gNm 9) gsNil)))))) gsNil))))
  (sSeq (sAsg (sTuple (sCons (sLc (sIt (sVar 7)) (.nm 11) tfYes (sCallD g_moved (sCons (sVar 11) (sCons (sVar 2) sNil))) [11]) sNil)) (gNm 7))
  (sSeq (sAsg (sTuple (sCons (sLc (sIt (sSl (sVar 8) (sPart (pur (.int 1))) (pur none))) (.nm 11) tfYes (sIf (sTst (sOp (sCmp isD) (sVar 11) (pur .non))) (pur .non) (sMod (sSub (sVar 11) (sVar 2)) (sVar 4))) [11]) sNil)) (gNm 8))
  (sSeq (sAsg (sTuple (sCons (sLc (sIt (sIx (sVar 9) (pur (.int 1)))) (.tp [12, 13]) tfYes (sTup (sCons (sVar 12) (sCons (sSub (sVar 13) (sVar 2)) sNil))) [12, 13]) sNil)) (gNm 10))
  (sRet (sTup (sCons (sMod (sAdd (sVar 5) (sVar 2)) (sVar 4)) (sCons (sVar 3) (sCons (sVar 7) (sCons (sVar 8) (sCons (sTup (sCons (sSub (sIx (sVar 9) (pur (.int 0))) (sVar 2)) (sCons (sVar 10) sNil))) sNil)))))))))))
def g_shifted : List D → Hp8 → Option (Res D × Hp8) := pureG (runF 14 4 b_shifted)
def b_tick : SF := (sSeq (sPar3 4 5 6 (sCons (sIx (sVar 2) (pur (.int 1))) (sCons (sIx (sVar 2) (pur (.int 3))) (sCons (pur (.int 0)) sNil))))
  (sSeq (sIfS (sTst (sOp (sCmp isNotD) (sIx (sVar 5) (pur (.int 0))) (pur .non)))
  (sAsg (sCallD g_heard (sCons (sVar 1) (sCons (sVar 4) (sCons (sIx (sVar 5) (pur (.int 0))) sNil)))) (gTp 2 (gsCons (gNm 4) (gsCons (gNm 6) gsNil))))
  sSkip)
  (sSeq (sAsg (sCallD g_shifted (sCons (sVar 1) (sCons (sVar 2) (sCons (sVar 6) (sCons (sVar 4) sNil))))) (gTp 5 (gsCons (gNm 7) (gsCons (gNm 4) (gsCons (gNm 8) (gsCons (gNm 5) (gsCons (gNm 9) gsNil)))))))
  (sSeq (sAsg (sCallD g_is_again (sCons (sVar 1) (sCons (sVar 4) sNil))) (gNm 10))
  (sSeq (sAsg (sCallD g_sent_by (sCons (sVar 1) (sCons (sVar 4) sNil))) (gTp 2 (gsCons (gNm 11) (gsCons (gNm 4) gsNil))))
  (sSeq (sAsg (sIf (sTst (sOp (sCmp isD) (sVar 11) (pur .non))) (pur .non) (sMod (sAdd (sVar 7) (sVar 11)) (sIx (sVar 1) (pur (.int 2))))) (gNm 12))
  (sSeq (sAsg (sAdd (sVar 8) (sTup (sCons (sIf (sTst (sOp (sCmp inY) (sVar 3) (sTup (sCons (pur (.str "frame")) (sCons (pur (.str "both")) sNil))))) (pur .non) (sVar 11)) sNil))) (gNm 8))
  (sSeq (sAsg (sTup (sCons (sIx (sVar 8) (pur (.int 0))) (sCons (sIx (sVar 9) (pur (.int 0))) (sCons (sLst sNil) (sCons (pur .non) sNil))))) (gTp 4 (gsCons (gNm 13) (gsCons (gNm 14) (gsCons (gNm 15) (gsCons (gNm 16) gsNil))))))
  (sSeq (sIfS (sTst (sOp (sCmp isNotD) (sVar 13) (pur .non)))
  (sAsg (sCallD g_got (sCons (sVar 1) (sCons (sVar 9) (sCons (sVar 13) sNil)))) (gTp 3 (gsCons (gNm 9) (gsCons (gNm 15) (gsCons (gNm 16) gsNil)))))
  sSkip)
  (sSeq (sAsg (sIf (sTst (sOp (sCmp isD) (sVar 16) (pur .non))) (pur .non) (sMod (sAdd (sVar 7) (sVar 16)) (sIx (sVar 1) (pur (.int 2))))) (gNm 17))
  (sSeq (sAsg (sIf (tfOr (sTst (sOp (sCmp isD) (sVar 16) (pur .non))) (sTst (sOp (sCmp inY) (sVar 3) (sTup (sCons (pur (.str "answer")) (sCons (pur (.str "both")) sNil)))))) (pur .non) (sMod (sVar 16) (sIx (sVar 1) (pur (.int 2))))) (gNm 18))
  (sSeq (sAsg (sAll (sCons (sLc (sEnumA (sCons (sVar 15) sNil)) (.tp [21, 22]) tfYes (sOp (sCmp eqD) (sVar 22) (sAdd (sVar 14) (sVar 21))) [21, 22]) sNil)) (gNm 19))
  (sSeq (sAsg (sTup (sCons (sVar 7) (sCons (sVar 4) (sCons (sSl (sVar 8) (sPart (pur (.int 1))) (pur none)) (sCons (sAdd (sVar 5) (sTup (sCons (sVar 18) sNil))) (sCons (sVar 9) sNil)))))) (gNm 20))
  (sRet (sTup (sCons (sVar 20) (sCons (sTup (sCons (sVar 12) (sCons (sVar 17) sNil))) (sCons (sTup (sCons (sIf (sTst (sVar 19)) (sLen (sCons (sVar 15) sNil)) (pur .non)) (sCons (sIf (sTst (sVar 10)) (pur (.int 1)) (pur (.int 0))) (sCons (sVar 6) (sCons (sVar 15) sNil))))) sNil))))))))))))))))))
def g_tick : List D → Hp8 → Option (Res D × Hp8) := pureG (runF 23 4 b_tick)
def L_run_1 : SF := (sSeq (sAsg (sCallD g_tick (sCons (sVar 0) (sCons (sVar 1) (sCons (sVar 3) (sCons (sVar 7) sNil))))) (gTp 3 (gsCons (gNm 3) (gsCons (gNm 8) (gsCons (gNm 9) gsNil)))))
  (sSeq (sAug 4 .Add (sIx (sVar 9) (pur (.int 2))))
  (sSeq (sExpr (sAppend (sVar 5) (sVar 8)))
  (sExpr (sAppend (sVar 6) (sLc (sIt (sIx (sVar 9) (pur (.int 3)))) (.nm 10) tfYes (sAdd (sVar 4) (sVar 10)) [10]))))))
def b_run : SF := (sSeq (sAsg (sTup (sCons (sCallD g_begun (sCons (sVar 0) (sCons (sVar 1) sNil))) (sCons (pur (.int 0)) (sCons (sLstC sNil) (sCons (sLstC sNil) sNil))))) (gTp 4 (gsCons (gNm 3) (gsCons (gNm 4) (gsCons (gNm 5) (gsCons (gNm 6) gsNil))))))
  (sSeq (sFor (sIt (sVar 2)) (gNm 7)
  L_run_1)
  (sRet (sTup (sCons (sVar 5) (sCons (sVar 6) (sCons (sVar 3) sNil)))))))
def g_run : List D → Hp8 → Option (Res D × Hp8) := pureG (runF 11 3 b_run)
def b_given_along : SF := (sSeq (sExpr (sCallD g_need_run (sCons (sVar 0) (sCons (sVar 1) (sCons (sVar 2) sNil)))))
  (sRet (sIx (sCallD g_run (sCons (sVar 0) (sCons (sVar 1) (sCons (sVar 2) sNil)))) (pur (.int 1)))))
def g_given_along : List D → Hp8 → Option (Res D × Hp8) := pureG (runF 3 3 b_given_along)
def b_seen_along : SF := (sSeq (sExpr (sCallD g_need_run (sCons (sVar 0) (sCons (sVar 1) (sCons (sVar 2) sNil)))))
  (sRet (sIx (sCallD g_run (sCons (sVar 0) (sCons (sVar 1) (sCons (sVar 2) sNil)))) (pur (.int 0)))))
def g_seen_along : List D → Hp8 → Option (Res D × Hp8) := pureG (runF 3 3 b_seen_along)
def L__law_asked_1 : SF := (sAsg (sMax2 (sCons (sVar 5) (sCons (sMin2 (sCons (sAdd (sVar 11) (pur (.int 1))) (sCons (sAdd (sVar 5) (pur (.int 1))) sNil))) sNil))) (gNm 5))
def L__law_asked_2 : SF := (sSeq (sAsg (sSub (sVar 7) (sIx (sVar 0) (pur (.int 0)))) (gNm 8))
  (sSeq (sIfS (tfAnd (sTst (sOp (sCmp geD) (sVar 8) (pur (.int 0)))) (tfAnd (sTst (sOp (sCmp isNotD) (sIx (sIx (sVar 2) (sVar 8)) (pur (.int 1))) (pur .non))) (sTst (sOp (sCmp inN) (sIx (sVar 3) (sVar 8)) (sTup (sCons (pur (.str "answer")) (sCons (pur (.str "both")) sNil)))))))
  (sSeq (sAsg (sMod (sSub (sIx (sIx (sVar 2) (sVar 8)) (pur (.int 1))) (sVar 4)) (sIx (sVar 1) (pur (.int 2)))) (gNm 9))
  (sIfS (sTst (sChain leD leD (pur (.int 1)) (sVar 9) (sSub (sVar 5) (sVar 4))))
  (sPar2 4 6 (sCons (sAdd (sVar 4) (sVar 9)) (sCons (pur (.int 0)) sNil)))
  (sIfS (tfAnd (sTst (sOp (sCmp eqD) (sVar 9) (pur (.int 0)))) (sTst (sOp (sCmp gtD) (sVar 5) (sVar 4))))
  (sSeq (sAug 6 .Add (pur (.int 1)))
  (sIfS (sTst (sOp (sCmp eqD) (sVar 6) (pur (.int 2))))
  (sRet (sVar 7))
  sSkip))
  sSkip)))
  sSkip)
  (sSeq (sAsg (sLc (sRng2 (sCons (sVar 4) (sCons (sAdd (sVar 4) (sIx (sVar 1) (pur (.int 1)))) sNil))) (.nm 11) (sTst (sOp (sCmp eqD) (sMod (sVar 11) (sIx (sVar 1) (pur (.int 2)))) (sIx (sIx (sVar 2) (sVar 7)) (pur (.int 0))))) (sVar 11) [11]) (gNm 10))
  (sFor (sIt (sVar 10)) (gNm 11)
  L__law_asked_1))))
def b__law_asked : SF := (sSeq (sAsg (sTup (sCons (pur (.int 0)) (sCons (pur (.int 0)) (sCons (pur (.int 0)) sNil)))) (gTp 3 (gsCons (gNm 4) (gsCons (gNm 5) (gsCons (gNm 6) gsNil)))))
  (sSeq (sFor (sRng1 (sCons (sLen (sCons (sVar 3) sNil)) sNil)) (gNm 7)
  L__law_asked_2)
  (sRet (sLen (sCons (sVar 3) sNil)))))
def g__law_asked : List D → Hp8 → Option (Res D × Hp8) := pureG (runF 12 4 b__law_asked)
end R

namespace R
open PySem L2 PyProof.Rows HI
theorem is_int_int {i lo hi : Int} {hp : Hp8} : g_is_int [.int i, .int lo, .int hi] hp = some (.ok (.bl (decide (lo ≤ i) && decide (i ≤ hi))), hp) := by
  refine pureG_ok (hp0 := []) (by simp) (d := .bl (decide (lo ≤ i) && decide (i ≤ hi))) ?_ rfl
  by_cases h : lo ≤ i <;> simp [e_runF, b_is_int, h]
theorem is_wire_ok {d r : Int} {hp : Hp8} (h1 : 1 ≤ d) (h2 : d ≤ 2) (h3 : 0 ≤ r) (h4 : r ≤ 8) : g_is_wire [.tup [.int d, .int r]] hp = some (.ok (.bl true), hp) := by
  refine pureG_ok (d := .bl true) (hp0 := []) rfl ?_ rfl
  simp [e_runF, b_is_wire, is_int_int, h1, h2, h3, h4]
def Kind (z : Str) : Prop := z = "back" ∨ z = "own" ∨ z = "quick"
theorem is_kind_ok {z : Str} {hp : Hp8} (h : Kind z) : g_is_kind [.str z] hp = some (.ok (.bl true), hp) := by
  refine pureG_ok (d := .bl true) (hp0 := []) rfl ?_ rfl
  rcases h with rfl | rfl | rfl <;> rfl
theorem is_way_ok {z : Str} {a b c : Int} {hp : Hp8} (h : Kind z) (h1 : 1 ≤ a) (h2 : a ≤ 3) (h3 : a ≤ b) (h4 : b ≤ 6) (h5 : 1 ≤ c) (h6 : c ≤ 5) : g_is_way [.tup [.str z, .int a, .int b, .int c]] hp = some (.ok (.bl true), hp) := by
  refine pureG_ok (d := .bl true) (hp0 := []) rfl ?_ rfl
  simp [e_runF, b_is_way, is_int_int, is_kind_ok h, h1, h2, h3, h4, h5, h6]
/-! the town and its draws -/
def Tn (a b : Int) : Cell := .lst [.int a, .int b]
theorem townG_ok {g : List D → Hp8 → Option (Res D × Hp8)} {s : D} {rest : List D} {a b a' b' : Int} {d e : D} {hp0 hp : Hp8} (hs : closed s = true) (hr : closeds rest = true) (h : g (s :: .ref 0 :: rest) [Tn a b] = some (.ok d, Tn a' b' :: hp0)) (hu : unref (.dead :: hp0) d = some e) :
    townG g (s :: .ref 0 :: rest) (Tn a b :: hp) = some (.ok e, Tn a' b' :: hp) := by
  unfold Tn at h ⊢
  simp [townG, hs, hr, h, hu]
theorem powD_gen (i : Int) (j : Int) (n : Nat) (B : Int) (h : i.natAbs < 2 ^ 64) (hj : j.toNat = n) (h0 : 0 ≤ j) (hn : j ≤ 1000) (e : i ^ n = B) (hp : Hp8) : powD (.int i) (.int j) hp = some (.int B) := by
  subst e; subst hj
  exact e_powI.trans (if_pos ⟨h0, hn, h⟩)
theorem big_pow : ∃ B : Int, 0 < B ∧ B.natAbs < 2 ^ 400 ∧ (10 : Int) ^ (60 : Nat) = B :=
  ⟨(10 : Int) ^ (60 : Nat), Int.pow_pos (by decide), by rw [Int.natAbs_pow]; decide +kernel, rfl⟩
theorem big_pD : ∃ B : Int, 0 < B ∧ B.natAbs < 2 ^ 400 ∧ ∀ hp, powD (.int 10) (.int 60) hp = some (.int B) := by
  obtain ⟨B, h0, h1, h2⟩ := big_pow
  exact ⟨B, h0, h1, powD_gen 10 60 60 B (by decide) (by decide) (by decide) (by decide) h2⟩
theorem op2 {f : D → D → Hp8 → Option D} {e1 e2 : EF} {env : List (Option D)} {hp : Hp8} {x y z : D} (h1 : e1 env hp = some (.ok x, hp)) (h2 : e2 env hp = some (.ok y, hp)) (h3 : f x y hp = some z) : sOp (sRd2 f) e1 e2 env hp = some (.ok z, hp) := by
  simp only [sOp, bnd, h1, h2, sRd2, rd, h3]
theorem big_ok : ∃ B : Int, 0 < B ∧ ∀ env hp, sMul (sPow (pur (.int 10)) (pur (.int 60))) (sPow (pur (.int 10)) (pur (.int 60))) env hp = some (.ok (.int B), hp) := by
  obtain ⟨B, h0, h1, p⟩ := big_pD
  have m : mulOk B B = true := by simp only [mulOk, h1, decide_true, Bool.and_true, Bool.or_true]
  have q : ∀ env hp, sPow (pur (.int 10)) (pur (.int 60)) env hp = some (.ok (.int B), hp) := fun env hp => op2 (f := powD) rfl rfl (p hp)
  exact ⟨B * B, Int.mul_pos h0 h0, fun env hp => op2 (f := mulD) (q env hp) (q env hp) (e_mulI.trans (if_pos m))⟩
theorem small_pow : ((10 : Int) ^ (18 : Nat)) = 1000000000000000000 := by decide
theorem draw_ok {ns : List Int} {a b m : Int} {hp : Hp8} (ha : 0 ≤ a) (hm : 0 < m) (hm2 : m < 1073741824) : ∃ r a' b', 0 ≤ r ∧ r < m ∧ 0 ≤ a' ∧ g__law_draw [.scr ns, .ref 0, .int m] (Tn a b :: hp) = some (.ok (.int r), Tn a' b' :: hp) := by
  by_cases hb : 0 < b
  · refine ⟨b % m, a, b / m, Int.emod_nonneg _ (by omega), Int.emod_lt_of_pos _ hm, ha, townG_ok (d := .int (b % m)) (hp0 := []) rfl (by simp) ?_ rfl⟩
    simp [e_runF, b__law_draw, Tn, hb, hm, hm2]
  · by_cases hn : ns = []
    · subst hn
      refine ⟨a % m, a + 1, b, Int.emod_nonneg _ (by omega), Int.emod_lt_of_pos _ hm, by omega, townG_ok (d := .int (a % m)) (hp0 := []) rfl (by simp) ?_ rfl⟩
      simp [e_runF, b__law_draw, Tn, hb, hm, hm2]
    · have hl : 0 < (ns.length : Int) := by
        have : ns.length ≠ 0 := fun z => hn (List.eq_nil_of_length_eq_zero z)
        omega
      have hl' : 0 < ns.length := by omega
      have he : ns.isEmpty = false := by cases ns with | nil => exact absurd rfl hn | cons _ _ => rfl
      -- an item of the script
      have item : ∀ k : Int, 0 ≤ k → k < ns.length → ∃ z, atI (ns.map D.int) k = some (.int z) := fun k h0 h1 => by
        obtain ⟨j, rfl⟩ : ∃ j : Nat, k = j := ⟨k.toNat, by omega⟩
        have hj : j < ns.length := by omega
        exact ⟨ns[j], atI_nat (by simp [hj])⟩
      -- the last part of the def
      have tail : ∀ z : Int, ∃ r : Int, 0 ≤ r ∧ r < m ∧ (((z * 1103515245 + 7919 * a + 12345) % 2147483647) ^ 5 % 2147483647 % 999983 % m) = r := fun z => ⟨_, Int.emod_nonneg _ (by omega), Int.emod_lt_of_pos _ hm, rfl⟩
      have small : ∀ z : Int, ((z % 2147483647).natAbs < 18446744073709551616) := fun z => by
        have h1 := Int.emod_nonneg z (b := 2147483647) (by omega)
        have h2 := Int.emod_lt_of_pos z (b := 2147483647) (by omega)
        omega
      have mk1 : ∀ z : Int, mulOk z 1103515245 = true := fun z => by simp [mulOk]
      have mk2 : mulOk 7919 a = true := by simp [mulOk]
      obtain ⟨B, hB0, hB⟩ := big_ok
      obtain ⟨z2, hz2⟩ := item (a % ns.length) (Int.emod_nonneg _ (by omega)) (Int.emod_lt_of_pos _ hl)
      obtain ⟨r2, q1, q2, q3⟩ := tail z2
      by_cases hlt : a < ns.length
      · obtain ⟨z, hz⟩ := item a ha hlt
        by_cases hbig : (10 : Int) ^ (18 : Nat) ≤ z
        · refine ⟨z % m, a + 1, z / m % B, Int.emod_nonneg _ (by omega), Int.emod_lt_of_pos _ hm, by omega, townG_ok (d := .int (z % m)) (hp0 := []) rfl (by simp) ?_ rfl⟩
          simp [e_runF, b__law_draw, Tn, hb, hm, hm2, he, hlt, hz, small_pow] at hbig ⊢
          simp [-e_sMul, hB, hB0, hbig, hz, hm, hm2]
        · refine ⟨r2, a + 1, b, q1, q2, by omega, townG_ok (d := .int r2) (hp0 := []) rfl (by simp) ?_ rfl⟩
          simp [e_runF, b__law_draw, Tn, hb, hm, hm2, he, hlt, hz, small_pow] at hbig ⊢
          have hbig' : ¬ (1000000000000000000 : Int) ≤ z := by omega
          simp [hbig', hz2, hl, hl', mk1, mk2, small, hm, q3]
      · refine ⟨r2, a + 1, b, q1, q2, by omega, townG_ok (d := .int r2) (hp0 := []) rfl (by simp) ?_ rfl⟩
        simp [e_runF, b__law_draw, Tn, hb, hm, hm2, he, hlt, hz2, hl, hl', mk1, mk2, small, q3]
end R

namespace R
open PySem L2 PyProof.Rows HI
mutual
theorem unref_same (hp : Hp8) : ∀ {d : D}, closed d = true → unref hp d = some d
  | .non, _ => rfl
  | .bl _, _ => rfl
  | .int _, _ => rfl
  | .str _, _ => rfl
  | .scr _, _ => rfl
  | .tup ds, h => by rw [ur_tup, unrefs_same hp h]; rfl
  | .lst ds, h => by rw [ur_lst, if_pos (show closeds ds = true from h)]
  | .dn ks vs, h => by rw [ur_dn, if_pos (show (closeds ks && closeds vs) = true from h)]
theorem unrefs_same (hp : Hp8) : ∀ {ds : List D}, closeds ds = true → unrefs hp ds = some ds
  | [], _ => rfl
  | d :: ds, h => by
    rw [HI.cls_cons, Bool.and_eq_true] at h
    rw [urs_cons, unref_same hp h.1, unrefs_same hp h.2]
end
theorem townG_okc {g : List D → Hp8 → Option (Res D × Hp8)} {s : D} {rest : List D} {a b a' b' : Int} {d : D} {hp0 hp : Hp8} (hs : closed s = true) (hr : closeds rest = true) (h : g (s :: .ref 0 :: rest) [Tn a b] = some (.ok d, Tn a' b' :: hp0)) (hd : closed d = true) :
    townG g (s :: .ref 0 :: rest) (Tn a b :: hp) = some (.ok d, Tn a' b' :: hp) := townG_ok hs hr h (unref_same _ hd)
theorem closed_of_mem {x : D} {xs : List D} (h : closeds xs = true) (hx : x ∈ xs) : closed x = true := by
  rw [closeds_all, List.all_eq_true] at h
  exact h x hx
theorem atI_mem {α : Type} {xs : List α} {k : Int} (h0 : 0 ≤ k) (h1 : k < xs.length) : ∃ x, x ∈ xs ∧ atI xs k = some x := by
  obtain ⟨j, rfl⟩ : ∃ j : Nat, k = j := ⟨k.toNat, by omega⟩
  have hj : j < xs.length := by omega
  exact ⟨xs[j], List.getElem_mem hj, atI_nat (by simp [hj])⟩
theorem pick_ok {ns : List Int} {a b : Int} {hp : Hp8} {xs : List D} (ha : 0 ≤ a) (h0 : 0 < xs.length) (h1 : xs.length < 1000) (hc : closeds xs = true) : ∃ x a' b', x ∈ xs ∧ 0 ≤ a' ∧ g__law_pick [.scr ns, .ref 0, .lst xs] (Tn a b :: hp) = some (.ok x, Tn a' b' :: hp) := by
  obtain ⟨r, a1, b1, q1, q2, q3, e1⟩ := draw_ok (ns := ns) (a := a) (b := b) (m := (xs.length : Int)) (hp := []) ha (by omega) (by omega)
  obtain ⟨x, m, e2⟩ := atI_mem (xs := xs) q1 q2
  refine ⟨x, a1, b1, m, q3, townG_okc (hp0 := []) rfl (by simp [hc]) ?_ (closed_of_mem hc m)⟩
  simp [e_runF, b__law_pick, e1, e2]
theorem wire_ok {ns : List Int} {a b : Int} {hp : Hp8} (ha : 0 ≤ a) : ∃ d r a' b', 1 ≤ d ∧ d ≤ 2 ∧ 0 ≤ r ∧ r ≤ 8 ∧ 0 ≤ a' ∧ g__law_wire [.scr ns, .ref 0] (Tn a b :: hp) = some (.ok (.tup [.int d, .int r]), Tn a' b' :: hp) := by
  obtain ⟨d, a1, b1, p1, p2, p3, e1⟩ := draw_ok (ns := ns) (a := a) (b := b) (m := 2) (hp := []) ha (by omega) (by omega)
  obtain ⟨x, a2, b2, m, p4, e2⟩ := pick_ok (ns := ns) (a := a1) (b := b1) (hp := []) (xs := [.int 0, .int 0, .int 1, .int 2, .int 3, .int 4, .int 5, .int 6, .int 8]) p3 (by simp) (by simp) (by simp)
  obtain ⟨r, h1, h2, hx⟩ : ∃ r : Int, 0 ≤ r ∧ r ≤ 8 ∧ x = .int r := by
    simp at m
    rcases m with m | m | m | m | m | m | m | m <;> exact ⟨_, by decide, by decide, m⟩
  subst hx
  refine ⟨1 + d, r, a2, b2, by omega, by omega, h1, h2, p4, townG_okc (hp0 := []) rfl (by simp) ?_ (by simp)⟩
  simp [e_runF, b__law_wire, e1, e2]
theorem way_ok {ns : List Int} {a b : Int} {hp : Hp8} (ha : 0 ≤ a) : ∃ z w n t a' b', Kind z ∧ 1 ≤ w ∧ w ≤ 3 ∧ w ≤ n ∧ n ≤ 6 ∧ 1 ≤ t ∧ t ≤ 5 ∧ 0 ≤ a' ∧ g__law_way [.scr ns, .ref 0] (Tn a b :: hp) = some (.ok (.tup [.str z, .int w, .int n, .int t]), Tn a' b' :: hp) := by
  obtain ⟨w, a1, b1, p1, p2, p3, e1⟩ := draw_ok (ns := ns) (a := a) (b := b) (m := 3) (hp := []) ha (by omega) (by omega)
  obtain ⟨x, a2, b2, m, p4, e2⟩ := pick_ok (ns := ns) (a := a1) (b := b1) (hp := []) (xs := [.str "back", .str "own", .str "quick"]) p3 (by simp) (by simp) (by simp)
  obtain ⟨z, hz, hx⟩ : ∃ z : Str, Kind z ∧ x = .str z := by
    simp at m
    rcases m with m | m | m <;> exact ⟨_, by simp [Kind], m⟩
  subst hx
  obtain ⟨n, a3, b3, q1, q2, q3, e3⟩ := draw_ok (ns := ns) (a := a2) (b := b2) (m := 7 - (1 + w)) (hp := []) p4 (by omega) (by omega)
  obtain ⟨t, a4, b4, q4, q5, q6, e4⟩ := draw_ok (ns := ns) (a := a3) (b := b3) (m := 5) (hp := []) q3 (by omega) (by omega)
  refine ⟨z, 1 + w, 1 + w + n, 1 + t, a4, b4, hz, by omega, by omega, by omega, by omega, by omega, by omega, q6, townG_okc (hp0 := []) rfl (by simp) ?_ (by simp)⟩
  simp [e_runF, b__law_way, e1, e2, e3, e4]
/-! fates -/
def nxt (r left : Int) (z : Str) : Int := if z = "none" then (if 0 < left then left - 1 else 0) else r
theorem rest_ok {d r left : Int} {z : Str} {hp : Hp8} : g__law_rest [.tup [.int d, .int r], .int left, .str z] hp = some (.ok (.int (nxt r left z)), hp) := by
  refine pureG_ok (hp0 := []) (by simp) (d := .int (nxt r left z)) ?_ rfl
  by_cases h : z = "none" <;> by_cases h2 : 0 < left <;> simp [e_runF, b__law_rest, h, h2, nxt]
theorem behind_ok {d r left : Int} {z : Str} {hp : Hp8} : g_rest_behind [.tup [.int d, .int r], .int left, .str z] hp = some (.ok (.int (nxt r left z)), hp) := by
  refine pureG_ok (hp0 := []) (by simp) (d := .int (nxt r left z)) ?_ rfl
  by_cases h : z = "none"
  · by_cases h2 : 0 < left
    · by_cases h3 : 1 < left
      · have h4 : (0:Int) < left - 1 := by omega
        simp [e_runF, b_rest_behind, h, h2, h4, nxt]
        omega
      · have h4 : ¬ (0:Int) < left - 1 := by omega
        have h5 : left - 1 = 0 := by omega
        simp [e_runF, b_rest_behind, h, h2, h4, nxt, h5]
    · have h4 : ¬ (0:Int) < left - 1 := by omega
      simp [e_runF, b_rest_behind, h, h2, h4, nxt]
      omega
  · simp [e_runF, b_rest_behind, h, nxt]
def lets (left : Int) : List Str := if left = 0 then ["answer", "both", "frame", "none"] else ["none"]
theorem let_ok {left : Int} {hp : Hp8} : g__law_let [.int left] hp = some (.ok (.lst ((lets left).map .str)), hp) := by
  refine pureG_ok (hp0 := []) (by simp) (d := .lst ((lets left).map .str)) ?_ (unref_same _ closeds_strs)
  by_cases h : left = 0 <;> simp [e_runF, b__law_let, h, lets]
theorem at_ok {left : Int} {hp : Hp8} : g_fates_at [.int left] hp = some (.ok (.lst ((lets left).map .str)), hp) := by
  refine pureG_ok (hp0 := []) (by simp) (d := .lst ((lets left).map .str)) ?_ (unref_same _ closeds_strs)
  by_cases h : left = 0 <;> simp [e_runF, b_fates_at, h, lets]
def legal (r : Int) : Int → List Str → Bool
  | _, [] => true
  | left, z :: l => (lets left).contains z && legal r (nxt r left z) l
theorem nxt_nn {r left : Int} {z : Str} (hr : 0 ≤ r) (hl : 0 ≤ left) : 0 ≤ nxt r left z := by
  unfold nxt
  split
  · split <;> omega
  · exact hr
theorem fates_loop {ns : List Int} {d r most sp : Int} (hr : 0 ≤ r) (h2 : 2 ≤ sp) (h3 : sp < 1000) : ∀ (items : List D) (left : Int) (acc : List Str) (a b : Int) (x7 x8 : Option D), 0 ≤ left → 0 ≤ a → acc.length + items.length < 1000000 →
    ∃ left' l a' b' y7 y8, 0 ≤ a' ∧ legal r left l = true ∧ l.length = items.length ∧
    loopL (gNm 7) L__law_fates_1 items [some (.scr ns), some (.ref 0), some (.tup [.int d, .int r]), some (.int most), some (.int left), some (.ref 1), some (.int sp), x7, x8] [Tn a b, .lst (acc.map .str)]
      = some (.nx, [some (.scr ns), some (.ref 0), some (.tup [.int d, .int r]), some (.int most), some (.int left'), some (.ref 1), some (.int sp), y7, y8], [Tn a' b', .lst ((acc ++ l).map .str)])
  | [], left, acc, a, b, x7, x8, h, ha, hk => ⟨left, [], a, b, x7, x8, ha, rfl, rfl, by simp⟩
  | i :: items, left, acc, a, b, x7, x8, h, ha, hk => by
    have hk : acc.length + (items.length + 1) < 1000000 := hk
    have hk1 : acc.length < 1000000 := by omega
    -- one turn: some fate that is let
    have turn : ∃ z a1 b1, 0 ≤ a1 ∧ (lets left).contains z = true ∧ L__law_fates_1 [some (.scr ns), some (.ref 0), some (.tup [.int d, .int r]), some (.int most), some (.int left), some (.ref 1), some (.int sp), some i, x8] [Tn a b, .lst (acc.map .str)]
      = some (.nx, [some (.scr ns), some (.ref 0), some (.tup [.int d, .int r]), some (.int most), some (.int (nxt r left z)), some (.ref 1), some (.int sp), some i, some (.str z)], [Tn a1 b1, .lst ((acc ++ [z]).map .str)]) := by
      by_cases hl : left = 0
      · subst hl
        obtain ⟨q, a1, b1, p1, p2, p3, e1⟩ := draw_ok (ns := ns) (a := a) (b := b) (m := sp) (hp := [.lst (acc.map .str)]) ha (by omega) (by omega)
        by_cases hq : q < 2
        · obtain ⟨x, a2, b2, m, p4, e2⟩ := pick_ok (ns := ns) (a := a1) (b := b1) (hp := [.lst (acc.map .str)]) (xs := (lets 0).map .str) p3 (by simp [lets]) (by simp [lets]) closeds_strs
          obtain ⟨z, hz, rfl⟩ := List.mem_map.1 m
          refine ⟨z, a2, b2, p4, by simpa using hz, ?_⟩
          simp [L__law_fates_1, e1, hq, let_ok, e2, rest_ok, hk1]
        · refine ⟨"none", a1, b1, p3, rfl, ?_⟩
          simp [L__law_fates_1, e1, hq, rest_ok, hk1]
      · refine ⟨"none", a, b, ha, by simp [lets, hl], ?_⟩
        simp [L__law_fates_1, hl, rest_ok, hk1]
    obtain ⟨z, a1, b1, p1, p2, e⟩ := turn
    obtain ⟨left', l, a', b', y7, y8, p3, p4, p5, e2⟩ := fates_loop hr h2 h3 items (nxt r left z) (acc ++ [z]) a1 b1 (some i) (some (.str z)) (nxt_nn hr h) p1 (by simp; omega)
    refine ⟨left', z :: l, a', b', y7, y8, p3, by simp [legal, p4] at p2 ⊢; exact p2, by simp [p5], ?_⟩
    rw [e_loopL (env1 := [some (.scr ns), some (.ref 0), some (.tup [.int d, .int r]), some (.int most), some (.int left), some (.ref 1), some (.int sp), some i, x8]) (hp1 := [Tn a b, .lst (acc.map .str)]) rfl, e, lpK_nx, e2]
    simp
theorem fates_ok {ns : List Int} {a b d r most : Int} {hp : Hp8} (ha : 0 ≤ a) (hr : 0 ≤ r) (hm : 0 ≤ most) (hm2 : most < 1000) : ∃ l a' b', legal r 0 l = true ∧ (l.length : Int) ≤ most ∧ 0 ≤ a' ∧ g__law_fates [.scr ns, .ref 0, .tup [.int d, .int r], .int most] (Tn a b :: hp) = some (.ok (.lst (l.map .str)), Tn a' b' :: hp) := by
  obtain ⟨s, a1, b1, p1, p2, p3, e1⟩ := draw_ok (ns := ns) (a := a) (b := b) (m := 4) (hp := [.lst []]) ha (by omega) (by omega)
  obtain ⟨n, a2, b2, p4, p5, p6, e2⟩ := draw_ok (ns := ns) (a := a1) (b := b1) (m := most + 1) (hp := [.lst []]) p3 (by omega) (by omega)
  obtain ⟨left', l, a', b', y7, y8, q1, q2, q3, e3⟩ := fates_loop (ns := ns) (d := d) (most := most) (sp := 2 + s) hr (by omega) (by omega) (rngD 0 n.toNat) 0 [] a2 b2 none none (by omega) p6 (by simp [rngD]; omega)
  have ok : okRng n = true := by simp [okRng]; omega
  refine ⟨l, a', b', q2, by rw [q3]; simp [rngD]; omega, q1, townG_ok (d := .ref 1) (hp0 := [.lst (l.map .str)]) rfl (by simp) ?_ (by simp [closeds_strs])⟩
  simp at e3
  simp [e_runF, b__law_fates, e1, e2, ok, e3]
end R

namespace R
open PySem L2 PyProof.Rows HI
theorem any_strs {z : Str} : ∀ l : List Str, ((l.map D.str).any fun y => eqF y (.str z)) = l.contains z
  | [] => rfl
  | x :: l => by
    have := any_strs (z := z) l
    simp only [List.map_cons, List.any_cons, List.contains_cons, this]
    have h : eqF (.str x) (.str z) = (z == x) := by
      show (x == z) = (z == x)
      exact Bool.eq_iff_iff.2 ⟨fun h => by simpa using (by simpa using h : x = z).symm, fun h => by simpa using (by simpa using h : z = x).symm⟩
    rw [h]
theorem all_strs : ∀ l : List Str, (l.map D.str).all flatD = true
  | [] => rfl
  | x :: l => by simp only [List.map_cons, List.all_cons, all_strs l]; rfl
theorem inD_strs {z : Str} {l : List Str} {hp : Hp8} : inD (.str z) (.lst (l.map .str)) hp = some (l.contains z) := by
  have f : (flatD (.str z) && (l.map D.str).all flatD) = true := by rw [all_strs]; rfl
  unfold inD
  split
  · rename_i h
    cases h
  · rw [e_seqL]
    simp only [f, if_true, any_strs]
@[simp] theorem inN_strs {z : Str} {l : List Str} {hp : Hp8} : inN (.str z) (.lst (l.map .str)) hp = some (!(l.contains z)) := by
  show (inD _ _ hp).map _ = _
  rw [inD_strs]; rfl
theorem aref_loop {d r : Int} {row : D} {hp : Hp8} : ∀ (l : List Str) (left : Int) (x3 : Option D), ∃ env', loopL (gNm 3) L_are_fates_of_1 (l.map .str) [some (.tup [.int d, .int r]), some row, some (.int left), x3] hp = some (if legal r left l then .nx else .rt (.bl false), env', hp)
  | [], left, x3 => ⟨_, by simp [legal]; rfl⟩
  | z :: l, left, x3 => by
    obtain ⟨env', e⟩ := aref_loop (d := d) (r := r) (row := row) (hp := hp) l (nxt r left z) (some (.str z))
    rw [List.map_cons, e_loopL (env1 := [some (.tup [.int d, .int r]), some row, some (.int left), some (.str z)]) (hp1 := hp) rfl]
    by_cases h : (lets left).contains z = true
    · have h' : z ∈ lets left := by simpa using h
      have t : L_are_fates_of_1 [some (.tup [.int d, .int r]), some row, some (.int left), some (.str z)] hp = some (.nx, [some (.tup [.int d, .int r]), some row, some (.int (nxt r left z)), some (.str z)], hp) := by
        simp [L_are_fates_of_1, at_ok, inD_strs, h', behind_ok]
      refine ⟨env', ?_⟩
      rw [t, lpK_nx, e]
      simp [legal, h']
    · have h' : z ∉ lets left := by simpa using h
      have t : L_are_fates_of_1 [some (.tup [.int d, .int r]), some row, some (.int left), some (.str z)] hp = some (.rt (.bl false), [some (.tup [.int d, .int r]), some row, some (.int left), some (.str z)], hp) := by
        simp [L_are_fates_of_1, at_ok, inD_strs, h', behind_ok]
      exact ⟨[some (.tup [.int d, .int r]), some row, some (.int left), some (.str z)], by rw [t, lpK_rt]; simp [legal, h']⟩
theorem arefof_ok {d r : Int} {l : List Str} {hp : Hp8} (hl : l.length ≤ 40) : g_are_fates_of [.tup [.int d, .int r], .lst (l.map .str)] hp = some (.ok (.bl (legal r 0 l)), hp) := by
  obtain ⟨env', e⟩ := aref_loop (d := d) (r := r) (row := .lst (l.map .str)) (hp := []) l 0 none
  refine pureG_ok (hp0 := []) (by simp [closeds_strs]) (d := .bl (legal r 0 l)) ?_ rfl
  have h : ¬ (40 : Int) < l.length := by omega
  cases q : legal r 0 l <;> simp [e_runF, b_are_fates_of, h, e, q]
theorem need_wire_ok {d r : Int} {hp : Hp8} (h1 : 1 ≤ d) (h2 : d ≤ 2) (h3 : 0 ≤ r) (h4 : r ≤ 8) : g_need_wire [.tup [.int d, .int r]] hp = some (.ok .non, hp) := by
  refine pureG_ok (hp0 := []) (by simp) (d := .non) ?_ rfl
  simp [e_runF, b_need_wire, is_wire_ok h1 h2 h3 h4]
theorem are_fates_ok {d r : Int} {l : List Str} {hp : Hp8} (h1 : 1 ≤ d) (h2 : d ≤ 2) (h3 : 0 ≤ r) (h4 : r ≤ 8) (hl : l.length ≤ 40) : g_are_fates [.tup [.int d, .int r], .lst (l.map .str)] hp = some (.ok (.bl (legal r 0 l)), hp) := by
  refine pureG_ok (hp0 := []) (by simp [closeds_strs]) (d := .bl (legal r 0 l)) ?_ rfl
  simp [e_runF, b_are_fates, need_wire_ok h1 h2 h3 h4, arefof_ok hl]
/-! cuts -/
theorem cut_strs {l : List Str} {lo hi : Option Int} : ∃ l' : List Str, HI.cutD (l.map .str) lo hi = l'.map .str ∧ (∀ z ∈ l', z ∈ l) ∧ l'.length ≤ l.length := by
  refine ⟨(l.drop (HT.sIx l.length 0 lo)).take (HT.sIx l.length l.length hi - HT.sIx l.length 0 lo), ?_, fun z hz => List.mem_of_mem_drop (List.mem_of_mem_take hz), ?_⟩
  · simp [HI.cutD]
  · simp [List.length_take, List.length_drop]; omega
theorem cut_upto {l : List Str} {k : Nat} : ∃ l' : List Str, HI.cutD (l.map .str) none (some (k : Int)) = l'.map .str ∧ (∀ z ∈ l', z ∈ l) ∧ l'.length ≤ k := by
  refine ⟨(l.drop (HT.sIx l.length 0 none)).take (HT.sIx l.length l.length (some k) - HT.sIx l.length 0 none), ?_, fun z hz => List.mem_of_mem_drop (List.mem_of_mem_take hz), ?_⟩
  · simp [HI.cutD]
  · rw [HT.sIx_nat, HT.sIx_none]; simp [List.length_take, List.length_drop]; omega
/-! enumerate -/
def enF : Int → List D → List D
  | _, [] => []
  | k, d :: ds => .tup [.int k, d] :: enF (k + 1) ds
theorem enF_eq : ∀ (ds : List D) (k : Nat), (List.range ds.length).map (fun (i : Nat) => D.tup [.int ((k + i : Nat) : Int), ds.getD i .non]) = enF k ds
  | [], k => rfl
  | d :: ds, k => by
    have := enF_eq ds (k + 1)
    rw [List.length_cons, List.range_succ_eq_map]
    simp only [List.map_cons, List.map_map, enF]
    congr 1
    rw [show ((k : Int) + 1) = ((k + 1 : Nat) : Int) by omega, ← this]
    apply List.map_congr_left
    intro i _
    simp [Function.comp]
    omega
theorem enumL_eq (ds : List D) : enumL ds = enF 0 ds := by
  have := enF_eq ds 0
  simp only [Nat.zero_add] at this
  exact this
end R

namespace R
open PySem L2 PyProof.Rows HI
theorem lp_nm {i : Nat} {f : SF} {d : D} {ds : List D} {env : Env8} {hp : Hp8} : loopL (gNm i) f (d :: ds) env hp = lpK (gNm i) f ds (f (env.set i (some d)) hp) := e_loopL rfl
def lcK (c : CT) (fe : EF) (env0 : Env8) (ds acc : List D) (r : Option (Res D × Hp8)) : Option (List D × Hp8) := match r with
  | some (.ok y, hp2) => if acc.length < 1000000 then loopC c tfYes fe env0 ds (acc ++ [y]) hp2 else none
  | _ => none
theorem lcK_ok {c : CT} {fe : EF} {env0 : Env8} {ds acc : List D} {y : D} {hp : Hp8} : lcK c fe env0 ds acc (some (.ok y, hp)) = if acc.length < 1000000 then loopC c tfYes fe env0 ds (acc ++ [y]) hp else none := rfl
theorem lc_nm {i : Nat} {fe : EF} {env0 : Env8} {d : D} {ds acc : List D} {hp : Hp8} : loopC (.nm i) tfYes fe env0 (d :: ds) acc hp = lcK (.nm i) fe env0 ds acc (fe (env0.set i (some d)) hp) := rfl
def rowOf (z : Str) (p : Int × Int) : List D := [.tup [.str z, .int p.1, .int p.2, .int 1], .tup [.str z, .int p.1, .int p.2, .int 2], .tup [.str z, .int p.1, .int p.2, .int 3]]
def six : List (Int × Int) := [(1, 2), (1, 3), (1, 4), (2, 3), (2, 4), (3, 4)]
def fam : List D := (["back", "own", "quick"] : List Str).flatMap fun z => six.flatMap (rowOf z)
theorem fam1 {z : Str} {w n : Int} {x4 : Option D} {acc : List D} (h : acc.length ≤ 900) : L_family_1 [some (.ref 0), some (.str z), some (.int w), some (.int n), x4] [.lst acc] = some (.nx, [some (.ref 0), some (.str z), some (.int w), some (.int n), x4], [.lst (acc ++ rowOf z (w, n))]) := by
  have h1 : acc.length + 3 ≤ 1000000 := by omega
  simp [L_family_1, lc_nm, lcK_ok, h1, rowOf]
theorem r15 : rngD (1 + 1) ((5 : Int) - (1 + 1)).toNat = [.int 2, .int 3, .int 4] := rfl
theorem r25 : rngD (2 + 1) ((5 : Int) - (2 + 1)).toNat = [.int 3, .int 4] := rfl
theorem r35 : rngD (3 + 1) ((5 : Int) - (3 + 1)).toNat = [.int 4] := rfl
theorem lenRow {z : Str} {p : Int × Int} : (rowOf z p).length = 3 := rfl
theorem fam3 {z : Str} {x2 x3 x4 : Option D} {acc : List D} (h : acc.length ≤ 800) : L_family_3 [some (.ref 0), some (.str z), x2, x3, x4] [.lst acc] = some (.nx, [some (.ref 0), some (.str z), some (.int 3), some (.int 4), x4], [.lst (acc ++ six.flatMap (rowOf z))]) := by
  have f2 : ∀ {w : Int} {x3 : Option D} {acc : List D} {ns : List Int}, rngD (w + 1) ((5 : Int) - (w + 1)).toNat = ns.map .int → okRng (w + 1) = true → acc.length + ns.length * 3 ≤ 850 → ns.length = 1 ∨ ns.length = 2 ∨ ns.length = 3 → True := fun _ _ _ _ => trivial
  simp only [L_family_3, e_sFor, e_sIt, e_sTup, e_sCons, e_pur, bndK_ok, e_bnd, e_sNil, List.length_cons, List.length_nil, Nat.reduceAdd, Nat.reduceLeDiff, if_true, e_rd, rdK_some, e_itT, eK_ok, lp_nm, List.set_cons_succ, List.set_cons_zero, L_family_2, e_sRng2, e_sAdd, e_sOp, e_sVar, List.getElem?_cons_succ, List.getElem?_cons_zero, varK_some, e_sRd2, e_addI, rng2_e, r15, r25, r35, show (okRng (1 + 1) && okRng 5) = true from rfl, show (okRng (2 + 1) && okRng 5) = true from rfl, show (okRng (3 + 1) && okRng 5) = true from rfl]
  have e1 : acc.length ≤ 900 := by omega
  rw [fam1 e1]
  simp only [lpK_nx, lp_nm, List.set_cons_succ, List.set_cons_zero]
  rw [fam1 (by simp [lenRow]; omega)]
  simp only [lpK_nx, lp_nm, List.set_cons_succ, List.set_cons_zero]
  rw [fam1 (by simp [lenRow]; omega)]
  simp only [lpK_nx, lp_nm, List.set_cons_succ, List.set_cons_zero, e_loopLn, e_sFor, e_sRng2, e_sAdd, e_sOp, e_sVar, List.getElem?_cons_succ, List.getElem?_cons_zero, varK_some, e_sRd2, e_addI, rng2_e, r15, r25, r35, show (okRng (1 + 1) && okRng 5) = true from rfl, show (okRng (2 + 1) && okRng 5) = true from rfl, show (okRng (3 + 1) && okRng 5) = true from rfl, e_sCons, e_pur, bndK_ok, e_bnd, e_sNil, rdK_some, if_true, e_rd, eK_ok]
  rw [fam1 (by simp [lenRow]; omega)]
  simp only [lpK_nx, lp_nm, List.set_cons_succ, List.set_cons_zero]
  rw [fam1 (by simp [lenRow]; omega)]
  simp only [lpK_nx, lp_nm, List.set_cons_succ, List.set_cons_zero, e_loopLn, e_sFor, e_sRng2, e_sAdd, e_sOp, e_sVar, List.getElem?_cons_succ, List.getElem?_cons_zero, varK_some, e_sRd2, e_addI, rng2_e, r15, r25, r35, show (okRng (1 + 1) && okRng 5) = true from rfl, show (okRng (2 + 1) && okRng 5) = true from rfl, show (okRng (3 + 1) && okRng 5) = true from rfl, e_sCons, e_pur, bndK_ok, e_bnd, e_sNil, rdK_some, if_true, e_rd, eK_ok]
  rw [fam1 (by simp [lenRow]; omega)]
  simp only [lpK_nx, e_loopLn, six, List.flatMap_cons, List.flatMap_nil, List.append_nil, List.append_assoc]
theorem len6 {z : Str} : (six.flatMap (rowOf z)).length = 18 := rfl
theorem fam_run : runF 5 0 b_family [] [] = some (.ok (.ref 0), [.lst fam]) := by
  have a1 : (six.flatMap (rowOf "back")).length ≤ 800 := by rw [len6]; decide
  have a2 : (six.flatMap (rowOf "back") ++ six.flatMap (rowOf "own")).length ≤ 800 := by rw [List.length_append, len6, len6]; decide
  simp [e_runF, b_family, lp_nm, fam3 (acc := []) (by decide), fam3 a1, fam3 a2, fam]
theorem family_ok {hp : Hp8} : g_family [] hp = some (.ok (.lst fam), hp) := pureG_ok (d := .ref 0) (hp0 := [.lst fam]) rfl fam_run rfl
end R

namespace C
/-! the program's ticks in plain words -/
structure Y where
  own : Bool
  quick : Bool
  w : Int
  n : Int
  t : Int
def mx (i j : Int) : Int := if j > i then j else i
def hearB (q : Bool) (s p c a num : Int) : List Int × Int :=
  if 0 < num ∧ num ≤ s then ([s - num, mx 0 (p - num), 0, 0], num)
  else if q = false ∨ num ≠ 0 ∨ s = 0 then ([s, p, c, a], 0)
  else (if a = 1 then [s, 0, 0, 0] else [s, p, c, 1], 0)
def sendB (w t s p c a : Int) : Option Int × List Int :=
  let p1 := if 0 < s ∧ c = t then 0 else p
  let c1 := if 0 < s ∧ c = t then 0 else c
  if p1 < w then (some p1, [mx s (p1 + 1), p1 + 1, if 0 < mx s (p1 + 1) then c1 + 1 else 0, a]) else (none, [mx s p1, p1, if 0 < mx s p1 then c1 + 1 else 0, a])
def againB (t s p c : Int) : Bool := (decide (0 < s) && (c == t)) || decide (p < s)
def getB (n wants letter : Int) : Int × List Int × Int := if (letter - wants) % n = 0 then (wants + 1, [letter], wants + 1) else (wants, [], wants)
def getO (w n wants : Int) (k1 k2 : Option Int) (letter : Int) : (Int × Option Int × Option Int) × List Int × Int :=
  let p := (letter - wants) % n
  if w ≤ p then ((wants, k1, k2), [], letter) else
  let r0 := if p = 0 then some letter else none
  let r1 := k1.or (if p = 1 then some letter else none)
  let r2 := k2.or (if p = 2 then some letter else none)
  match r0, r1, r2 with
  | none, r1, r2 => ((wants, r1, r2), [], letter)
  | some a, none, r2 => ((wants + 1, r2, none), [a], letter)
  | some a, some b, none => ((wants + 2, none, none), [a, b], letter)
  | some a, some b, some c => ((wants + 3, none, none), [a, b, c], letter)
def cntA : List Int → Nat
  | [] => 0
  | x :: l => if x = -1 then cntA l + 1 else 0
theorem cntA_le : ∀ l : List Int, cntA l ≤ l.length
  | [] => Nat.le_refl _
  | x :: l => by
    have := cntA_le l
    unfold cntA
    split <;> simp <;> omega
def hearO (w : Int) (snd : List Int) (num : Int) : List Int × Int :=
  let v := snd.getD num.toNat 0
  if w ≤ num ∨ v = 0 ∨ v = -1 then (snd, 0)
  else
    let m := snd.set num.toNat (-1)
    (m.drop (cntA m) ++ List.replicate (cntA m) 0, cntA m)
def pos1 (v : Int) : Nat → List Int → List Nat
  | _, [] => []
  | k, x :: l => if x = v then k :: pos1 v (k + 1) l else pos1 v (k + 1) l
def stepM (t x : Int) : Int := if 0 < x then (if t < x + 1 then t else x + 1) else x
def sendO (t : Int) (snd : List Int) : Option Int × List Int :=
  match pos1 t 0 snd ++ pos1 0 0 snd with
  | [] => (none, snd.map (stepM t))
  | l :: _ => (some (l : Int), (snd.map (stepM t)).set l 1)
structure Pl where
  turn : Int
  snd : List Int
  fr : List (Option Int)
  an : List (Option Int)
  wants : Int
  k1 : Option Int
  k2 : Option Int
def hear (y : Y) (s : List Int) (num : Int) : List Int × Int := if y.own then hearO y.w s num else match s with
  | [s, p, c, a] => hearB y.quick s p c a num
  | s => (s, 0)
def send (y : Y) (s : List Int) : Option Int × List Int := if y.own then sendO y.t s else match s with
  | [s, p, c, a] => sendB y.w y.t s p c a
  | s => (none, s)
def again (y : Y) (s : List Int) : Bool := if y.own then s.contains y.t else match s with
  | [s, p, c, _] => againB y.t s p c
  | _ => false
def get (y : Y) (wants : Int) (k1 k2 : Option Int) (l : Int) : (Int × Option Int × Option Int) × List Int × Int := if y.own then getO y.w y.n wants k1 k2 l else
  (((getB y.n wants l).1, none, none), (getB y.n wants l).2.1, (getB y.n wants l).2.2)
def sub (m : Int) : Option Int → Option Int := Option.map (· - m)
def heard (y : Y) (p : Pl) : List Int × Int := match p.an with
  | some a :: _ => hear y p.snd a
  | _ => (p.snd, 0)
def shift (y : Y) (p : Pl) (m : Int) (s : List Int) : Pl :=
  ⟨(p.turn + m) % y.n, s, p.fr.map (sub m), p.an.tail.map (Option.map fun a => (a - m) % y.n), p.wants - m, sub m p.k1, sub m p.k2⟩
def goods (w : Int) : List Int → Bool
  | [] => true
  | x :: l => x == w && goods (w + 1) l
structure Out where
  pl : Pl
  seen : Option Int
  told : Option Int
  right : Bool
  again : Bool
  many : Int
  given : List Int
/-- what comes of the frames -/
def comes (y : Y) (wants : Int) (k1 k2 : Option Int) : List (Option Int) → (Int × Option Int × Option Int) × List Int × Option Int
  | some c :: _ => ((get y wants k1 k2 c).1, (get y wants k1 k2 c).2.1, some (get y wants k1 k2 c).2.2)
  | _ => ((wants, k1, k2), [], none)
def tick (y : Y) (p : Pl) (lf la : Bool) : Out :=
  let h := heard y p
  let q := shift y p h.2 h.1
  let s := send y q.snd
  let frs := q.fr ++ [if lf then none else s.1]
  let g := comes y q.wants q.k1 q.k2 frs
  { pl := ⟨q.turn, s.2, frs.tail, q.an ++ [if la then none else g.2.2.map (· % y.n)], g.1.1, g.1.2.1, g.1.2.2⟩
    seen := s.1.map fun l => (q.turn + l) % y.n
    told := g.2.2.map fun l => (q.turn + l) % y.n
    right := goods q.wants g.2.1
    again := again y q.snd
    many := h.2
    given := g.2.1 }
def begun (y : Y) (d : Nat) : Pl := ⟨0, if y.own then List.replicate y.w.toNat 0 else [0, 0, 0, 0], List.replicate (d - 1) none, List.replicate d none, 0, none, none⟩
structure Tk where
  seen : Option Int
  told : Option Int
  given : List Int
def run (y : Y) : Pl → Int → List (Bool × Bool) → List Tk × Pl
  | p, _, [] => ([], p)
  | p, base, f :: fs =>
    let o := tick y p f.1 f.2
    let r := run y o.pl (base + o.many) fs
    (⟨o.seen, o.told, o.given.map (base + o.many + ·)⟩ :: r.1, r.2)
theorem run_take (y : Y) : ∀ (fs : List (Bool × Bool)) (p : Pl) (b : Int) (k : Nat), (run y p b (fs.take k)).1 = (run y p b fs).1.take k
  | [], p, b, k => by simp [run]
  | f :: fs, p, b, 0 => by simp [run]
  | f :: fs, p, b, k + 1 => by simp [run, run_take y fs]
theorem run_len (y : Y) : ∀ (fs : List (Bool × Bool)) (p : Pl) (b : Int), (run y p b fs).1.length = fs.length
  | [], p, b => rfl
  | f :: fs, p, b => by simp [run, run_len y fs]
structure Ok (y : Y) : Prop where
  w1 : 1 ≤ y.w
  w3 : y.w ≤ 3
  wn : y.w ≤ y.n
  n6 : y.n ≤ 6
  t1 : 1 ≤ y.t
  t5 : y.t ≤ 5
  oq : y.own = true → y.quick = false
/-- what always holds of a place -/
structure Wf (y : Y) (d : Nat) (p : Pl) : Prop where
  fr : p.fr.length + 1 = d
  an : p.an.length = d
  anb : ∀ a, some a ∈ p.an → 0 ≤ a ∧ a < y.n
  so : y.own = true → p.snd.length = y.w.toNat
  sb : y.own = false → ∃ s q c a, p.snd = [s, q, c, a]
  kb : y.own = false → p.k1 = none ∧ p.k2 = none
  h1 : p.k1 ≠ none → 2 ≤ y.w
  h2 : p.k2 ≠ none → 3 ≤ y.w
theorem hearO_len {w : Int} {s : List Int} {num : Int} : (hearO w s num).1.length = s.length := by
  unfold hearO
  simp only
  split
  · rfl
  · have := cntA_le (s.set num.toNat (-1))
    simp at this ⊢
    omega
theorem sendO_len {t : Int} {s : List Int} : (sendO t s).2.length = s.length := by
  unfold sendO
  split <;> simp
theorem getO_k {w n wants : Int} {k1 k2 : Option Int} {l : Int} (hw : 1 ≤ w) (hn : 0 < n) (h1 : k1 ≠ none → 2 ≤ w) (h2 : k2 ≠ none → 3 ≤ w) :
    ((getO w n wants k1 k2 l).1.2.1 ≠ none → 2 ≤ w) ∧ ((getO w n wants k1 k2 l).1.2.2 ≠ none → 3 ≤ w) ∧ ((getO w n wants k1 k2 l).2.1.length : Int) ≤ w ∧ (getO w n wants k1 k2 l).1.1 = wants + (getO w n wants k1 k2 l).2.1.length ∧ (getO w n wants k1 k2 l).2.2 = l := by
  have h0 := Int.emod_nonneg (l - wants) (b := n) (by omega)
  by_cases hp : w ≤ (l - wants) % n
  · simp [getO, hp]
    exact ⟨h1, h2, by omega⟩
  · have ex : ∃ p, (l - wants) % n = p := ⟨_, rfl⟩
    obtain ⟨p, e⟩ := ex
    rw [e] at h0 hp
    simp only [getO, e, hp, if_false]
    by_cases p0 : p = 0
    · subst p0
      cases k1 <;> cases k2 <;> simp at h1 h2 ⊢ <;> omega
    · by_cases p1 : p = 1
      · subst p1
        cases k1 <;> cases k2 <;> simp at h1 h2 ⊢ <;> omega
      · by_cases p2 : p = 2
        · subst p2
          cases k1 <;> cases k2 <;> simp at h1 h2 ⊢ <;> omega
        · cases k1 <;> cases k2 <;> simp [p0, p1, p2] at h1 h2 ⊢ <;> omega
theorem get_k {y : Y} (h : Ok y) {wants : Int} {k1 k2 : Option Int} {l : Int} (h1 : k1 ≠ none → 2 ≤ y.w) (h2 : k2 ≠ none → 3 ≤ y.w) :
    ((get y wants k1 k2 l).1.2.1 ≠ none → 2 ≤ y.w) ∧ ((get y wants k1 k2 l).1.2.2 ≠ none → 3 ≤ y.w) ∧ ((get y wants k1 k2 l).2.1.length : Int) ≤ y.w ∧ (get y wants k1 k2 l).1.1 = wants + (get y wants k1 k2 l).2.1.length ∧
    (y.own = true → (get y wants k1 k2 l).2.2 = l) ∧ (y.own = false → (get y wants k1 k2 l).2.2 = (get y wants k1 k2 l).1.1 ∧ (get y wants k1 k2 l).2.1.length ≤ 1 ∧ (get y wants k1 k2 l).1.2 = (none, none)) := by
  have := h.w1; have := h.wn
  cases ho : y.own
  · simp only [get, ho, Bool.false_eq_true, if_false]
    unfold getB
    split <;> simp <;> omega
  · have q := getO_k (w := y.w) (n := y.n) (wants := wants) (l := l) h.w1 (by omega) h1 h2
    simp only [get, ho, if_true]
    exact ⟨q.1, q.2.1, q.2.2.1, q.2.2.2.1, fun _ => q.2.2.2.2, fun z => by cases z⟩
theorem comes_k {y : Y} (h : Ok y) {wants : Int} {k1 k2 : Option Int} {fr : List (Option Int)} (h1 : k1 ≠ none → 2 ≤ y.w) (h2 : k2 ≠ none → 3 ≤ y.w) :
    ((comes y wants k1 k2 fr).1.2.1 ≠ none → 2 ≤ y.w) ∧ ((comes y wants k1 k2 fr).1.2.2 ≠ none → 3 ≤ y.w) ∧ ((comes y wants k1 k2 fr).2.1.length : Int) ≤ y.w ∧ (comes y wants k1 k2 fr).1.1 = wants + (comes y wants k1 k2 fr).2.1.length ∧
    ((comes y wants k1 k2 fr).2.1 ≠ [] → (comes y wants k1 k2 fr).2.2 ≠ none) ∧ (y.own = false → (comes y wants k1 k2 fr).2.1.length ≤ 1 ∧ (k1 = none ∧ k2 = none → (comes y wants k1 k2 fr).1.2 = (none, none))) := by
  unfold comes
  split
  · rename_i c _
    have q := get_k h (wants := wants) (l := c) h1 h2
    exact ⟨q.1, q.2.1, q.2.2.1, q.2.2.2.1, fun _ => by simp, fun z => ⟨(q.2.2.2.2.2 z).2.1, fun _ => (q.2.2.2.2.2 z).2.2⟩⟩
  · have := h.w1
    exact ⟨h1, h2, by simp; omega, by simp, by simp, fun _ => ⟨by simp, fun z => by rw [z.1, z.2]⟩⟩
theorem hear_wf {y : Y} {s : List Int} {a : Int} (so : y.own = true → s.length = y.w.toNat) (sb : y.own = false → ∃ s' q c a, s = [s', q, c, a]) : (y.own = true → (hear y s a).1.length = y.w.toNat) ∧ (y.own = false → ∃ s' q c a', (hear y s a).1 = [s', q, c, a']) := by
  cases ho : y.own
  · obtain ⟨s', q, c, b, rfl⟩ := sb ho
    refine ⟨fun z => absurd z (by decide), fun _ => ?_⟩
    simp only [hear, ho, Bool.false_eq_true, if_false, hearB]
    split
    · exact ⟨_, _, _, _, rfl⟩
    · split
      · exact ⟨_, _, _, _, rfl⟩
      · split <;> exact ⟨_, _, _, _, rfl⟩
  · refine ⟨fun _ => ?_, fun z => by cases z⟩
    simp only [hear, ho, if_true, hearO_len]
    exact so ho
theorem heard_wf {y : Y} {d : Nat} {p : Pl} (h : Wf y d p) : (y.own = true → (heard y p).1.length = y.w.toNat) ∧ (y.own = false → ∃ s' q c a', (heard y p).1 = [s', q, c, a']) := by
  unfold heard
  split
  · exact hear_wf h.so h.sb
  · exact ⟨h.so, h.sb⟩
theorem send_wf {y : Y} {s : List Int} (so : y.own = true → s.length = y.w.toNat) (sb : y.own = false → ∃ s' q c a, s = [s', q, c, a]) : (y.own = true → (send y s).2.length = y.w.toNat) ∧ (y.own = false → ∃ s' q c a', (send y s).2 = [s', q, c, a']) := by
  cases ho : y.own
  · obtain ⟨s', q, c, b, rfl⟩ := sb ho
    refine ⟨fun z => absurd z (by decide), fun _ => ?_⟩
    simp only [send, ho, Bool.false_eq_true, if_false, sendB]
    split <;> split <;> exact ⟨_, _, _, _, rfl⟩
  · refine ⟨fun _ => ?_, fun z => by cases z⟩
    simp only [send, ho, if_true, sendO_len]
    exact so ho
theorem sub_none {m : Int} {o : Option Int} : sub m o ≠ none ↔ o ≠ none := by cases o <;> simp [sub]
theorem shift_h {y : Y} {d : Nat} {p : Pl} (h : Wf y d p) {m : Int} {s : List Int} : ((shift y p m s).k1 ≠ none → 2 ≤ y.w) ∧ ((shift y p m s).k2 ≠ none → 3 ≤ y.w) :=
  ⟨fun z => h.h1 (sub_none.1 z), fun z => h.h2 (sub_none.1 z)⟩
theorem tick_wf {y : Y} {d : Nat} {p : Pl} (ok : Ok y) (h : Wf y d p) (lf la : Bool) : Wf y d (tick y p lf la).pl := by
  have := ok.w1; have := ok.wn
  have sh := shift_h h (m := (heard y p).2) (s := (heard y p).1)
  have hs := heard_wf h
  have ss := send_wf (y := y) (s := (heard y p).1) hs.1 hs.2
  have ck := comes_k ok (wants := (shift y p (heard y p).2 (heard y p).1).wants) (fr := (shift y p (heard y p).2 (heard y p).1).fr ++ [if lf then none else (send y (heard y p).1).1]) sh.1 sh.2
  refine ⟨?_, ?_, ?_, ss.1, ss.2, ?_, ck.1, ck.2.1⟩
  · have := h.fr
    simp [tick, shift]
    omega
  · have := h.an; have := h.fr
    simp [tick, shift]
    omega
  · intro a ha
    simp only [tick, shift, List.mem_append, List.mem_map, List.mem_singleton] at ha
    rcases ha with ⟨o, _, q⟩ | q
    · cases o with
      | none => simp at q
      | some b =>
        simp at q
        subst q
        exact ⟨Int.emod_nonneg _ (by omega), Int.emod_lt_of_pos _ (by omega)⟩
    · split at q
      · cases q
      · have q := q.symm
        rw [Option.map_eq_some_iff] at q
        obtain ⟨b, _, rfl⟩ := q
        exact ⟨Int.emod_nonneg _ (by omega), Int.emod_lt_of_pos _ (by omega)⟩
  · intro ho
    have k := h.kb ho
    have e := (ck.2.2.2.2.2 ho).2 ⟨by simp [shift, k.1, sub], by simp [shift, k.2, sub]⟩
    exact ⟨congrArg Prod.fst e, congrArg Prod.snd e⟩
theorem begun_wf {y : Y} (ok : Ok y) {d : Nat} (h1 : 1 ≤ d) : Wf y d (begun y d) := by
  refine ⟨by simp [begun]; omega, by simp [begun], fun a ha => ?_, fun z => by simp [begun, z], fun z => ⟨0, 0, 0, 0, by simp [begun, z]⟩, fun _ => ⟨rfl, rfl⟩, fun z => absurd rfl z, fun z => absurd rfl z⟩
  simp [begun] at ha
theorem tick_given {y : Y} {d : Nat} {p : Pl} (ok : Ok y) (h : Wf y d p) (lf la : Bool) : ((tick y p lf la).given.length : Int) ≤ y.w ∧ ((tick y p lf la).given ≠ [] → (tick y p lf la).told ≠ none) ∧ (1 < (tick y p lf la).given.length → y.own = true) := by
  have sh := shift_h h (m := (heard y p).2) (s := (heard y p).1)
  have ck := comes_k ok (wants := (shift y p (heard y p).2 (heard y p).1).wants) (fr := (shift y p (heard y p).2 (heard y p).1).fr ++ [if lf then none else (send y (heard y p).1).1]) sh.1 sh.2
  refine ⟨ck.2.2.1, fun z => ?_, fun z => ?_⟩
  · have := ck.2.2.2.2.1 z
    simp only [tick, shift]
    intro e
    rw [Option.map_eq_none_iff] at e
    exact this e
  · cases ho : y.own
    · have := (ck.2.2.2.2.2 ho).1
      simp only [tick, shift] at z this
      omega
    · rfl
theorem run_given {y : Y} {d : Nat} (ok : Ok y) : ∀ (fs : List (Bool × Bool)) (p : Pl) (b : Int), Wf y d p → ∀ k ∈ (run y p b fs).1, (k.given.length : Int) ≤ y.w ∧ (k.given ≠ [] → k.told ≠ none) ∧ (1 < k.given.length → y.own = true)
  | [], p, b, _, k, hk => by simp [run] at hk
  | f :: fs, p, b, h, k, hk => by
    simp only [run, List.mem_cons] at hk
    rcases hk with rfl | hk
    · have g := tick_given ok h f.1 f.2
      simpa using g
    · exact run_given ok fs _ _ (tick_wf ok h f.1 f.2) k hk
end C

namespace R
open PySem L2 PyProof.Rows HI
open C (mx hearB sendB againB getB getO cntA cntA_le hearO sendO pos1 stepM)
structure Way where
  kind : Str
  w : Int
  n : Int
  t : Int
def wayD (y : Way) : D := .tup [.str y.kind, .int y.w, .int y.n, .int y.t]
structure WayOk (y : Way) : Prop where
  kd : Kind y.kind
  w1 : 1 ≤ y.w
  w3 : y.w ≤ 3
  wn : y.w ≤ y.n
  n6 : y.n ≤ 6
  t1 : 1 ≤ y.t
  t5 : y.t ≤ 5
def sndD (l : List Int) : D := .tup (l.map .int)
/-! a sender that goes back -/
def oD : Option Int → D
  | none => .non
  | some i => .int i
theorem closeds_ints : ∀ {l : List Int}, closeds (l.map .int) = true
  | [] => rfl
  | d :: l => by simp [closeds_ints (l := l)]
@[simp] theorem cl_snd {l : List Int} : closed (sndD l) = true := closeds_ints
@[simp] theorem cl_oD {o : Option Int} : closed (oD o) = true := by cases o <;> rfl
@[simp] theorem cl_way {y : Way} : closed (wayD y) = true := rfl
theorem e_mx {i j : Int} {hp : Hp8} : maxD (.int i) (.int j) hp = some (.int (mx i j)) := rfl
theorem hears_back_ok {y : Way} {s p c a num : Int} {hp : Hp8} : g_hears_back [wayD y, sndD [s, p, c, a], .int num] hp = some (.ok (.tup [sndD (hearB (y.kind == "quick") s p c a num).1, .int (hearB (y.kind == "quick") s p c a num).2]), hp) := by
  refine pureG_ok (hp0 := []) (by simp [wayD, sndD]) (d := .tup [sndD (hearB (y.kind == "quick") s p c a num).1, .int (hearB (y.kind == "quick") s p c a num).2]) ?_ (unref_same _ (by simp))
  by_cases h1 : 0 < num
  · by_cases h2 : num ≤ s
    · simp [-e_maxI, e_mx, e_runF, b_hears_back, wayD, sndD, hearB, h1, h2]
    · have h3 : num ≠ 0 := by omega
      by_cases h4 : y.kind = "quick" <;> simp [-e_maxI, e_mx, e_runF, b_hears_back, wayD, sndD, hearB, h1, h2, h3, h4]
  · by_cases h4 : y.kind = "quick"
    · by_cases h3 : num = 0
      · by_cases h5 : s = 0
        · simp [-e_maxI, e_mx, e_runF, b_hears_back, wayD, sndD, hearB, h1, h3, h4, h5]
        · by_cases h6 : a = 1 <;> simp [-e_maxI, e_mx, e_runF, b_hears_back, wayD, sndD, hearB, h1, h3, h4, h5, h6]
      · simp [-e_maxI, e_mx, e_runF, b_hears_back, wayD, sndD, hearB, h1, h3, h4]
    · simp [-e_maxI, e_mx, e_runF, b_hears_back, wayD, sndD, hearB, h1, h4]
theorem sends_back_ok {y : Way} {s p c a : Int} {hp : Hp8} : g_sends_back [wayD y, sndD [s, p, c, a]] hp = some (.ok (.tup [oD (sendB y.w y.t s p c a).1, sndD (sendB y.w y.t s p c a).2]), hp) := by
  refine pureG_ok (hp0 := []) (by simp) (d := .tup [oD (sendB y.w y.t s p c a).1, sndD (sendB y.w y.t s p c a).2]) ?_ (unref_same _ (by simp))
  by_cases h0 : 0 < s
  · by_cases h1 : c = y.t
    · by_cases h2 : 0 < y.w
      · by_cases h3 : 0 < mx s 1 <;> simp [-e_maxI, e_mx, e_runF, b_sends_back, wayD, sndD, sendB, h0, h1, h2, h3, oD]
      · by_cases h3 : 0 < mx s 0 <;> simp [-e_maxI, e_mx, e_runF, b_sends_back, wayD, sndD, sendB, h0, h1, h2, h3, oD]
    · by_cases h2 : p < y.w
      · by_cases h3 : 0 < mx s (p + 1) <;> simp [-e_maxI, e_mx, e_runF, b_sends_back, wayD, sndD, sendB, h0, h1, h2, h3, oD]
      · by_cases h3 : 0 < mx s p <;> simp [-e_maxI, e_mx, e_runF, b_sends_back, wayD, sndD, sendB, h0, h1, h2, h3, oD]
  · by_cases h2 : p < y.w
    · by_cases h3 : 0 < mx s (p + 1) <;> simp [-e_maxI, e_mx, e_runF, b_sends_back, wayD, sndD, sendB, h0, h2, h3, oD]
    · by_cases h3 : 0 < mx s p <;> simp [-e_maxI, e_mx, e_runF, b_sends_back, wayD, sndD, sendB, h0, h2, h3, oD]
theorem again_back_ok {y : Way} {s p c a : Int} {hp : Hp8} (hk : y.kind ≠ "own") : g_is_again [wayD y, sndD [s, p, c, a]] hp = some (.ok (.bl (againB y.t s p c)), hp) := by
  refine pureG_ok (hp0 := []) (by simp) (d := .bl (againB y.t s p c)) ?_ rfl
  by_cases h0 : 0 < s
  · by_cases h1 : c = y.t <;> simp [e_runF, b_is_again, wayD, sndD, hk, h0, h1, againB]
  · simp [e_runF, b_is_again, wayD, sndD, hk, h0, againB]
/-! a receiver that takes the next one alone -/
theorem gets_back_ok {y : Way} {wants letter : Int} {hp : Hp8} (hn : 0 < y.n) : g_gets_back [wayD y, .tup [.int wants, .tup []], .int letter] hp
    = some (.ok (.tup [.tup [.int (getB y.n wants letter).1, .tup []], .lst ((getB y.n wants letter).2.1.map .int), .int (getB y.n wants letter).2.2]), hp) := by
  refine pureG_ok (hp0 := []) (by simp) (d := .tup [.tup [.int (getB y.n wants letter).1, .tup []], .lst ((getB y.n wants letter).2.1.map .int), .int (getB y.n wants letter).2.2]) ?_ (unref_same _ (by simp [closeds_ints]))
  by_cases h : (letter - wants) % y.n = 0 <;> simp [e_runF, b_gets_back, wayD, hn, h, getB]
/-! senders whose letters wait for themselves -/
end R

namespace R
open PySem L2 PyProof.Rows HI
open C (mx hearB sendB againB getB getO cntA cntA_le hearO sendO pos1 stepM)
def kpD (i : Int) : Option Int → List D
  | none => []
  | some a => [.tup [.int i, .int a]]
def keptD (k1 k2 : Option Int) : D := .tup (kpD 1 k1 ++ kpD 2 k2)
abbrev wGet : TF := sTst (sOp (sCmp (inDic false)) (sLen (sCons (sVar 9) sNil)) (sVar 8))
section
variable {x0 x1 x2 x3 x4 x5 x6 x7 x10 x11 x12 : Option D} {kvs : List (Key × D)} {g : List D}
abbrev EG (x0 x1 x2 x3 x4 x5 x6 x7 x10 x11 x12 : Option D) : Env8 := [x0, x1, x2, x3, x4, x5, x6, x7, some (.ref 0), some (.ref 1), x10, x11, x12]
theorem whG {n : Nat} (h : valD kvs (.inl g.length) = none) : sWhile wGet L_gets_own_1 (n + 1) (EG x0 x1 x2 x3 x4 x5 x6 x7 x10 x11 x12) [.dic kvs, .lst g] = some (.nx, EG x0 x1 x2 x3 x4 x5 x6 x7 x10 x11 x12, [.dic kvs, .lst g]) := by
  rw [e_while]
  simp [inDic, h]
theorem whS {n : Nat} {d : D} (hl : g.length < 10) (h : valD kvs (.inl g.length) = some d) : sWhile wGet L_gets_own_1 (n + 1) (EG x0 x1 x2 x3 x4 x5 x6 x7 x10 x11 x12) [.dic kvs, .lst g] = sWhile wGet L_gets_own_1 n (EG x0 x1 x2 x3 x4 x5 x6 x7 x10 x11 x12) [.dic kvs, .lst (g ++ [d])] := by
  rw [e_while]
  have h2 : g.length < 1000000 := by omega
  simp [inDic, h, L_gets_own_1, getDic, h2]
theorem f8 : fuel8 = 999999999996 + 1 + 1 + 1 + 1 := rfl
theorem wh0 (h0 : valD kvs (.inl 0) = none) : sWhile wGet L_gets_own_1 fuel8 (EG x0 x1 x2 x3 x4 x5 x6 x7 x10 x11 x12) [.dic kvs, .lst []] = some (.nx, EG x0 x1 x2 x3 x4 x5 x6 x7 x10 x11 x12, [.dic kvs, .lst []]) := by
  rw [f8, whG h0]
theorem wh1 {a : D} (h0 : valD kvs (.inl 0) = some a) (h1 : valD kvs (.inl 1) = none) : sWhile wGet L_gets_own_1 fuel8 (EG x0 x1 x2 x3 x4 x5 x6 x7 x10 x11 x12) [.dic kvs, .lst []] = some (.nx, EG x0 x1 x2 x3 x4 x5 x6 x7 x10 x11 x12, [.dic kvs, .lst [a]]) := by
  rw [f8, whS (by decide) h0]
  exact whG h1
theorem wh2 {a b : D} (h0 : valD kvs (.inl 0) = some a) (h1 : valD kvs (.inl 1) = some b) (h2 : valD kvs (.inl 2) = none) : sWhile wGet L_gets_own_1 fuel8 (EG x0 x1 x2 x3 x4 x5 x6 x7 x10 x11 x12) [.dic kvs, .lst []] = some (.nx, EG x0 x1 x2 x3 x4 x5 x6 x7 x10 x11 x12, [.dic kvs, .lst [a, b]]) := by
  rw [f8, whS (by decide) h0, whS (d := b) (by simp) h1]
  exact whG h2
theorem wh3 {a b c : D} (h0 : valD kvs (.inl 0) = some a) (h1 : valD kvs (.inl 1) = some b) (h2 : valD kvs (.inl 2) = some c) (h3 : valD kvs (.inl 3) = none) : sWhile wGet L_gets_own_1 fuel8 (EG x0 x1 x2 x3 x4 x5 x6 x7 x10 x11 x12) [.dic kvs, .lst []] = some (.nx, EG x0 x1 x2 x3 x4 x5 x6 x7 x10 x11 x12, [.dic kvs, .lst [a, b, c]]) := by
  rw [f8, whS (by decide) h0, whS (d := b) (by simp) h1, whS (d := c) (by simp) h2]
  exact whG h3
end
def rcvD (r : Int × Option Int × Option Int) : D := .tup [.int r.1, keptD r.2.1 r.2.2]
def gotD (r : (Int × Option Int × Option Int) × List Int × Int) : D := .tup [rcvD r.1, .lst (r.2.1.map .int), .int r.2.2]
theorem closeds_kp {i : Int} {k : Option Int} : closeds (kpD i k) = true := by cases k <;> rfl
@[simp] theorem cl_kept {k1 k2 : Option Int} : closed (keptD k1 k2) = true := by simp [keptD, closeds_append, closeds_kp]
@[simp] theorem cl_rcv {r : Int × Option Int × Option Int} : closed (rcvD r) = true := by simp [rcvD]
@[simp] theorem cl_got {r : (Int × Option Int × Option Int) × List Int × Int} : closed (gotD r) = true := by simp [gotD, closeds_ints]
theorem gets_own_far {y : Way} {wants letter : Int} {k1 k2 : Option Int} {hp : Hp8} (hn : 0 < y.n) (h : y.w ≤ (letter - wants) % y.n) : g_gets_own [wayD y, rcvD (wants, k1, k2), .int letter] hp = some (.ok (gotD (getO y.w y.n wants k1 k2 letter)), hp) := by
  refine pureG_ok (hp0 := []) (by simp) (d := gotD (getO y.w y.n wants k1 k2 letter)) ?_ (unref_same _ (by simp))
  simp [e_runF, b_gets_own, wayD, rcvD, hn, h, getO, gotD]
theorem pd1 {r : List (Key × D)} {e : Env8} {hp : Hp8} {es : List D} (h : pairsD es = some r) : gDictT [.tup es] e hp = some (.ok (.ref hp.length), hp ++ [.dic (mergeD [] r)]) := by
  simp only [gDictT, h, e_mkCell]
theorem go_000 {y : Way} {wants letter : Int} {hp : Hp8} (hn : 0 < y.n) (hw : ¬ y.w ≤ 0) (h : (letter - wants) % y.n = 0) : g_gets_own [wayD y, rcvD (wants, none, none), .int letter] hp = some (.ok (gotD (getO y.w y.n wants none none letter)), hp) := by
  refine pureG_ok (hp0 := [.dic [(.inl 0, .int letter)], .lst [.int letter]]) (by simp) (d := .tup [.tup [.int (wants + 1), .tup []], .ref 1, .int letter]) ?_ (by simp [getO, h, hw, gotD, rcvD, keptD, kpD])
  simp [e_runF, b_gets_own, wayD, rcvD, keptD, kpD, hn, h, hw, mergeD, inDic, valD_nil, valD_cons, gDix, setDic, putD, lc_cons, lcS_some, lcT_true, lcT_false, lcE_ok, sortD, intKeys, srt, insI, getDic, pd1 (es := []) (r := []) rfl, wh1 (kvs := [(.inl 0, .int letter)]) (a := .int letter) (by simp [valD_cons, valD_nil]) (by simp [valD_cons, valD_nil])]
theorem go_001 {y : Way} {wants letter : Int} {hp : Hp8} (hn : 0 < y.n) (hw : ¬ y.w ≤ 1) (h : (letter - wants) % y.n = 1) : g_gets_own [wayD y, rcvD (wants, none, none), .int letter] hp = some (.ok (gotD (getO y.w y.n wants none none letter)), hp) := by
  refine pureG_ok (hp0 := [.dic [(.inl 1, .int letter)], .lst []]) (by simp) (d := .tup [.tup [.int (wants + 0), .tup [.tup [.int 1, .int letter]]], .ref 1, .int letter]) ?_ (by simp [getO, h, hw, gotD, rcvD, keptD, kpD])
  simp [e_runF, b_gets_own, wayD, rcvD, keptD, kpD, hn, h, hw, mergeD, inDic, valD_nil, valD_cons, gDix, setDic, putD, lc_cons, lcS_some, lcT_true, lcT_false, lcE_ok, sortD, intKeys, srt, insI, getDic, pd1 (es := []) (r := []) rfl, wh0 (kvs := [(.inl 1, .int letter)]) (by simp [valD_cons, valD_nil])]
theorem go_002 {y : Way} {wants letter : Int} {hp : Hp8} (hn : 0 < y.n) (hw : ¬ y.w ≤ 2) (h : (letter - wants) % y.n = 2) : g_gets_own [wayD y, rcvD (wants, none, none), .int letter] hp = some (.ok (gotD (getO y.w y.n wants none none letter)), hp) := by
  refine pureG_ok (hp0 := [.dic [(.inl 2, .int letter)], .lst []]) (by simp) (d := .tup [.tup [.int (wants + 0), .tup [.tup [.int 2, .int letter]]], .ref 1, .int letter]) ?_ (by simp [getO, h, hw, gotD, rcvD, keptD, kpD])
  simp [e_runF, b_gets_own, wayD, rcvD, keptD, kpD, hn, h, hw, mergeD, inDic, valD_nil, valD_cons, gDix, setDic, putD, lc_cons, lcS_some, lcT_true, lcT_false, lcE_ok, sortD, intKeys, srt, insI, getDic, pd1 (es := []) (r := []) rfl, wh0 (kvs := [(.inl 2, .int letter)]) (by simp [valD_cons, valD_nil])]
theorem go_010 {y : Way} {wants letter : Int} {b : Int} {hp : Hp8} (hn : 0 < y.n) (hw : ¬ y.w ≤ 0) (h : (letter - wants) % y.n = 0) : g_gets_own [wayD y, rcvD (wants, none, (some b)), .int letter] hp = some (.ok (gotD (getO y.w y.n wants none (some b) letter)), hp) := by
  refine pureG_ok (hp0 := [.dic [(.inl 2, .int b), (.inl 0, .int letter)], .lst [.int letter]]) (by simp) (d := .tup [.tup [.int (wants + 1), .tup [.tup [.int 1, .int b]]], .ref 1, .int letter]) ?_ (by simp [getO, h, hw, gotD, rcvD, keptD, kpD])
  simp [e_runF, b_gets_own, wayD, rcvD, keptD, kpD, hn, h, hw, mergeD, inDic, valD_nil, valD_cons, gDix, setDic, putD, lc_cons, lcS_some, lcT_true, lcT_false, lcE_ok, sortD, intKeys, srt, insI, getDic, pd1 (es := [.tup [.int 2, .int b]]) (r := [(.inl 2, .int b)]) rfl, wh1 (kvs := [(.inl 2, .int b), (.inl 0, .int letter)]) (a := .int letter) (by simp [valD_cons, valD_nil]) (by simp [valD_cons, valD_nil])]
theorem go_011 {y : Way} {wants letter : Int} {b : Int} {hp : Hp8} (hn : 0 < y.n) (hw : ¬ y.w ≤ 1) (h : (letter - wants) % y.n = 1) : g_gets_own [wayD y, rcvD (wants, none, (some b)), .int letter] hp = some (.ok (gotD (getO y.w y.n wants none (some b) letter)), hp) := by
  refine pureG_ok (hp0 := [.dic [(.inl 2, .int b), (.inl 1, .int letter)], .lst []]) (by simp) (d := .tup [.tup [.int (wants + 0), .tup [.tup [.int 1, .int letter], .tup [.int 2, .int b]]], .ref 1, .int letter]) ?_ (by simp [getO, h, hw, gotD, rcvD, keptD, kpD])
  simp [e_runF, b_gets_own, wayD, rcvD, keptD, kpD, hn, h, hw, mergeD, inDic, valD_nil, valD_cons, gDix, setDic, putD, lc_cons, lcS_some, lcT_true, lcT_false, lcE_ok, sortD, intKeys, srt, insI, getDic, pd1 (es := [.tup [.int 2, .int b]]) (r := [(.inl 2, .int b)]) rfl, wh0 (kvs := [(.inl 2, .int b), (.inl 1, .int letter)]) (by simp [valD_cons, valD_nil])]
theorem go_012 {y : Way} {wants letter : Int} {b : Int} {hp : Hp8} (hn : 0 < y.n) (hw : ¬ y.w ≤ 2) (h : (letter - wants) % y.n = 2) : g_gets_own [wayD y, rcvD (wants, none, (some b)), .int letter] hp = some (.ok (gotD (getO y.w y.n wants none (some b) letter)), hp) := by
  refine pureG_ok (hp0 := [.dic [(.inl 2, .int b)], .lst []]) (by simp) (d := .tup [.tup [.int (wants + 0), .tup [.tup [.int 2, .int b]]], .ref 1, .int letter]) ?_ (by simp [getO, h, hw, gotD, rcvD, keptD, kpD])
  simp [e_runF, b_gets_own, wayD, rcvD, keptD, kpD, hn, h, hw, mergeD, inDic, valD_nil, valD_cons, gDix, setDic, putD, lc_cons, lcS_some, lcT_true, lcT_false, lcE_ok, sortD, intKeys, srt, insI, getDic, pd1 (es := [.tup [.int 2, .int b]]) (r := [(.inl 2, .int b)]) rfl, wh0 (kvs := [(.inl 2, .int b)]) (by simp [valD_cons, valD_nil])]
theorem go_100 {y : Way} {wants letter : Int} {a : Int} {hp : Hp8} (hn : 0 < y.n) (hw : ¬ y.w ≤ 0) (h : (letter - wants) % y.n = 0) : g_gets_own [wayD y, rcvD (wants, (some a), none), .int letter] hp = some (.ok (gotD (getO y.w y.n wants (some a) none letter)), hp) := by
  refine pureG_ok (hp0 := [.dic [(.inl 1, .int a), (.inl 0, .int letter)], .lst [.int letter, .int a]]) (by simp) (d := .tup [.tup [.int (wants + 2), .tup []], .ref 1, .int letter]) ?_ (by simp [getO, h, hw, gotD, rcvD, keptD, kpD])
  simp [e_runF, b_gets_own, wayD, rcvD, keptD, kpD, hn, h, hw, mergeD, inDic, valD_nil, valD_cons, gDix, setDic, putD, lc_cons, lcS_some, lcT_true, lcT_false, lcE_ok, sortD, intKeys, srt, insI, getDic, pd1 (es := [.tup [.int 1, .int a]]) (r := [(.inl 1, .int a)]) rfl, wh2 (kvs := [(.inl 1, .int a), (.inl 0, .int letter)]) (a := .int letter) (b := .int a) (by simp [valD_cons, valD_nil]) (by simp [valD_cons, valD_nil]) (by simp [valD_cons, valD_nil])]
theorem go_101 {y : Way} {wants letter : Int} {a : Int} {hp : Hp8} (hn : 0 < y.n) (hw : ¬ y.w ≤ 1) (h : (letter - wants) % y.n = 1) : g_gets_own [wayD y, rcvD (wants, (some a), none), .int letter] hp = some (.ok (gotD (getO y.w y.n wants (some a) none letter)), hp) := by
  refine pureG_ok (hp0 := [.dic [(.inl 1, .int a)], .lst []]) (by simp) (d := .tup [.tup [.int (wants + 0), .tup [.tup [.int 1, .int a]]], .ref 1, .int letter]) ?_ (by simp [getO, h, hw, gotD, rcvD, keptD, kpD])
  simp [e_runF, b_gets_own, wayD, rcvD, keptD, kpD, hn, h, hw, mergeD, inDic, valD_nil, valD_cons, gDix, setDic, putD, lc_cons, lcS_some, lcT_true, lcT_false, lcE_ok, sortD, intKeys, srt, insI, getDic, pd1 (es := [.tup [.int 1, .int a]]) (r := [(.inl 1, .int a)]) rfl, wh0 (kvs := [(.inl 1, .int a)]) (by simp [valD_cons, valD_nil])]
theorem go_102 {y : Way} {wants letter : Int} {a : Int} {hp : Hp8} (hn : 0 < y.n) (hw : ¬ y.w ≤ 2) (h : (letter - wants) % y.n = 2) : g_gets_own [wayD y, rcvD (wants, (some a), none), .int letter] hp = some (.ok (gotD (getO y.w y.n wants (some a) none letter)), hp) := by
  refine pureG_ok (hp0 := [.dic [(.inl 1, .int a), (.inl 2, .int letter)], .lst []]) (by simp) (d := .tup [.tup [.int (wants + 0), .tup [.tup [.int 1, .int a], .tup [.int 2, .int letter]]], .ref 1, .int letter]) ?_ (by simp [getO, h, hw, gotD, rcvD, keptD, kpD])
  simp [e_runF, b_gets_own, wayD, rcvD, keptD, kpD, hn, h, hw, mergeD, inDic, valD_nil, valD_cons, gDix, setDic, putD, lc_cons, lcS_some, lcT_true, lcT_false, lcE_ok, sortD, intKeys, srt, insI, getDic, pd1 (es := [.tup [.int 1, .int a]]) (r := [(.inl 1, .int a)]) rfl, wh0 (kvs := [(.inl 1, .int a), (.inl 2, .int letter)]) (by simp [valD_cons, valD_nil])]
theorem go_110 {y : Way} {wants letter : Int} {a : Int} {b : Int} {hp : Hp8} (hn : 0 < y.n) (hw : ¬ y.w ≤ 0) (h : (letter - wants) % y.n = 0) : g_gets_own [wayD y, rcvD (wants, (some a), (some b)), .int letter] hp = some (.ok (gotD (getO y.w y.n wants (some a) (some b) letter)), hp) := by
  refine pureG_ok (hp0 := [.dic [(.inl 1, .int a), (.inl 2, .int b), (.inl 0, .int letter)], .lst [.int letter, .int a, .int b]]) (by simp) (d := .tup [.tup [.int (wants + 3), .tup []], .ref 1, .int letter]) ?_ (by simp [getO, h, hw, gotD, rcvD, keptD, kpD])
  simp [e_runF, b_gets_own, wayD, rcvD, keptD, kpD, hn, h, hw, mergeD, inDic, valD_nil, valD_cons, gDix, setDic, putD, lc_cons, lcS_some, lcT_true, lcT_false, lcE_ok, sortD, intKeys, srt, insI, getDic, pd1 (es := [.tup [.int 1, .int a], .tup [.int 2, .int b]]) (r := [(.inl 1, .int a), (.inl 2, .int b)]) rfl, wh3 (kvs := [(.inl 1, .int a), (.inl 2, .int b), (.inl 0, .int letter)]) (a := .int letter) (b := .int a) (c := .int b) (by simp [valD_cons, valD_nil]) (by simp [valD_cons, valD_nil]) (by simp [valD_cons, valD_nil]) (by simp [valD_cons, valD_nil])]
theorem go_111 {y : Way} {wants letter : Int} {a : Int} {b : Int} {hp : Hp8} (hn : 0 < y.n) (hw : ¬ y.w ≤ 1) (h : (letter - wants) % y.n = 1) : g_gets_own [wayD y, rcvD (wants, (some a), (some b)), .int letter] hp = some (.ok (gotD (getO y.w y.n wants (some a) (some b) letter)), hp) := by
  refine pureG_ok (hp0 := [.dic [(.inl 1, .int a), (.inl 2, .int b)], .lst []]) (by simp) (d := .tup [.tup [.int (wants + 0), .tup [.tup [.int 1, .int a], .tup [.int 2, .int b]]], .ref 1, .int letter]) ?_ (by simp [getO, h, hw, gotD, rcvD, keptD, kpD])
  simp [e_runF, b_gets_own, wayD, rcvD, keptD, kpD, hn, h, hw, mergeD, inDic, valD_nil, valD_cons, gDix, setDic, putD, lc_cons, lcS_some, lcT_true, lcT_false, lcE_ok, sortD, intKeys, srt, insI, getDic, pd1 (es := [.tup [.int 1, .int a], .tup [.int 2, .int b]]) (r := [(.inl 1, .int a), (.inl 2, .int b)]) rfl, wh0 (kvs := [(.inl 1, .int a), (.inl 2, .int b)]) (by simp [valD_cons, valD_nil])]
theorem go_112 {y : Way} {wants letter : Int} {a : Int} {b : Int} {hp : Hp8} (hn : 0 < y.n) (hw : ¬ y.w ≤ 2) (h : (letter - wants) % y.n = 2) : g_gets_own [wayD y, rcvD (wants, (some a), (some b)), .int letter] hp = some (.ok (gotD (getO y.w y.n wants (some a) (some b) letter)), hp) := by
  refine pureG_ok (hp0 := [.dic [(.inl 1, .int a), (.inl 2, .int b)], .lst []]) (by simp) (d := .tup [.tup [.int (wants + 0), .tup [.tup [.int 1, .int a], .tup [.int 2, .int b]]], .ref 1, .int letter]) ?_ (by simp [getO, h, hw, gotD, rcvD, keptD, kpD])
  simp [e_runF, b_gets_own, wayD, rcvD, keptD, kpD, hn, h, hw, mergeD, inDic, valD_nil, valD_cons, gDix, setDic, putD, lc_cons, lcS_some, lcT_true, lcT_false, lcE_ok, sortD, intKeys, srt, insI, getDic, pd1 (es := [.tup [.int 1, .int a], .tup [.int 2, .int b]]) (r := [(.inl 1, .int a), (.inl 2, .int b)]) rfl, wh0 (kvs := [(.inl 1, .int a), (.inl 2, .int b)]) (by simp [valD_cons, valD_nil])]
theorem gets_own_ok {y : Way} {wants letter : Int} {k1 k2 : Option Int} {hp : Hp8} (hn : 0 < y.n) (hw3 : y.w ≤ 3) : g_gets_own [wayD y, rcvD (wants, k1, k2), .int letter] hp = some (.ok (gotD (getO y.w y.n wants k1 k2 letter)), hp) := by
  by_cases hf : y.w ≤ (letter - wants) % y.n
  · exact gets_own_far hn hf
  · have h0 := Int.emod_nonneg (letter - wants) (b := y.n) (by omega)
    rcases (show (letter - wants) % y.n = 0 ∨ (letter - wants) % y.n = 1 ∨ (letter - wants) % y.n = 2 by omega) with h | h | h <;> rw [h] at hf
    · rcases k1 with _ | a <;> rcases k2 with _ | b
      · exact go_000 hn hf h
      · exact go_010 hn hf h
      · exact go_100 hn hf h
      · exact go_110 hn hf h
    · rcases k1 with _ | a <;> rcases k2 with _ | b
      · exact go_001 hn hf h
      · exact go_011 hn hf h
      · exact go_101 hn hf h
      · exact go_111 hn hf h
    · rcases k1 with _ | a <;> rcases k2 with _ | b
      · exact go_002 hn hf h
      · exact go_012 hn hf h
      · exact go_102 hn hf h
      · exact go_112 hn hf h
end R

namespace R
open PySem L2 PyProof.Rows HI
open C (mx hearB sendB againB getB getO cntA cntA_le hearO sendO pos1 stepM)
theorem cut_from {xs : List D} {k : Nat} (h : k ≤ xs.length) : HI.cutD xs (some (k : Int)) none = xs.drop k := by
  unfold HI.cutD
  rw [HT.sIx_nat, HT.sIx_none, Nat.min_eq_left h, List.take_of_length_le (by simp)]
theorem cut_to {xs : List D} {k : Nat} (h : k ≤ xs.length) : HI.cutD xs none (some (k : Int)) = xs.take k := by
  unfold HI.cutD
  rw [HT.sIx_nat, HT.sIx_none, Nat.min_eq_left h, List.drop_zero, Nat.sub_zero]
theorem pl_ints : ∀ {l : List Int}, pl (l.map .int) = l.isEmpty
  | [] => rfl
  | _ :: _ => rfl
/-! hears_own -/
abbrev wHear : TF := tfAnd (sTst (sOp (sCmp ltD) (sVar 4) (sLen (sCons (sVar 3) sNil)))) (sTst (sOp (sCmp eqD) (sIx (sVar 3) (sVar 4)) (pur (.int (-1)))))
abbrev EH (x0 x1 x2 : Option D) (m : List Int) (j : Nat) : Env8 := [x0, x1, x2, some (.tup (m.map .int)), some (.int (j : Int))]
theorem whH {x0 x1 x2 : Option D} {n : Nat} {hp : Hp8} : ∀ (r pre : List Int), sWhile wHear L_hears_own_1 (n + r.length + 1) (EH x0 x1 x2 (pre ++ r) pre.length) hp = some (.nx, EH x0 x1 x2 (pre ++ r) (pre.length + cntA r), hp)
  | [], pre => by
    rw [e_while]
    simp [cntA]
  | x :: r, pre => by
    rw [e_while]
    have hx : atI ((pre ++ x :: r).map D.int) (pre.length : Int) = some (.int x) := atI_nat (by simp)
    have hl : (pre.length : Int) < ((pre ++ x :: r).length : Int) := by simp; omega
    by_cases h : x = -1
    · have ih := whH (x0 := x0) (x1 := x1) (x2 := x2) (n := n) (hp := hp) r (pre ++ [x])
      simp only [List.append_assoc, List.singleton_append, List.length_append, List.length_cons, List.length_nil, Nat.zero_add] at ih
      have hc : cntA (x :: r) = cntA r + 1 := by simp [cntA, h]
      rw [hc, show pre.length + (cntA r + 1) = pre.length + 1 + cntA r by omega, ← ih]
      subst h
      simp only [wHear, e_tfAnd, e_sTst, e_sOp, e_sVar, List.getElem?_cons_succ, List.getElem?_cons_zero, varK_some, bndK_ok, e_bnd, e_sLen, e_sCall, e_sCons, e_sNil, e_pur, e_g1, e_lenT, List.length_map, rdK_some, e_sCmp, e_ltI, Option.map_some, e_rd, blD_b, hl, decide_true, if_true, e_sIx, e_sRd2, e_ixT, hx, e_eqI, beq_self_eq_true, eK_ok]
      simp only [L_hears_own_1, e_sAug, List.getElem?_cons_succ, List.getElem?_cons_zero, augK_some, e_pur, eK_ok, e_ip, List.set_cons_succ, List.set_cons_zero, whK_nx]
      rfl
    · have hc : cntA (x :: r) = 0 := by simp [cntA, h]
      rw [hc]
      have hb : (x == (-1 : Int)) = false := by simpa using h
      simp only [wHear, e_tfAnd, e_sTst, e_sOp, e_sVar, List.getElem?_cons_succ, List.getElem?_cons_zero, varK_some, bndK_ok, e_bnd, e_sLen, e_sCall, e_sCons, e_sNil, e_pur, e_g1, e_lenT, List.length_map, rdK_some, e_sCmp, e_ltI, Option.map_some, e_rd, blD_b, hl, decide_true, if_true, e_sIx, e_sRd2, e_ixT, hx, e_eqI, hb, eK_ok, Bool.false_eq_true, if_false, e_sSkip, Nat.add_zero]
theorem whH8 {x0 x1 x2 : Option D} {hp : Hp8} {m : List Int} (h : m.length ≤ 10) : sWhile wHear L_hears_own_1 fuel8 (EH x0 x1 x2 m 0) hp = some (.nx, EH x0 x1 x2 m (cntA m), hp) := by
  have hf : fuel8 = (fuel8 - m.length - 1) + m.length + 1 := by
    have : 11 ≤ fuel8 := by decide
    omega
  have := whH (x0 := x0) (x1 := x1) (x2 := x2) (n := fuel8 - m.length - 1) (hp := hp) m []
  rw [hf]
  simpa using this
end R

namespace R
open PySem L2 PyProof.Rows HI
open C (mx hearB sendB againB getB getO cntA cntA_le hearO sendO pos1 stepM)
/-! comprehensions without effects -/
theorem loopC_map {α : Type} {c : CT} {ft : TF} {fe : EF} {env0 : Env8} {hp : Hp8} (enc : α → D) (tb : α → Bool) (yf : α → D) : ∀ (xs : List α) (acc : List D),
    (∀ x ∈ xs, ∃ env1, c.set (enc x) env0 = some env1 ∧ ft env1 hp = some (.ok (tb x), hp) ∧ (tb x = true → fe env1 hp = some (.ok (yf x), hp))) → acc.length + xs.length ≤ 1000000 →
    loopC c ft fe env0 (xs.map enc) acc hp = some (acc ++ (xs.filter tb).map yf, hp)
  | [], acc, _, _ => by simp
  | x :: xs, acc, h, hl => by
    obtain ⟨env1, e1, e2, e3⟩ := h x (List.mem_cons_self ..)
    have hl : acc.length + (xs.length + 1) ≤ 1000000 := hl
    rw [List.map_cons, lc_cons, e1, lcS_some, e2]
    cases q : tb x with
    | false =>
      rw [lcT_false, loopC_map enc tb yf xs acc (fun z hz => h z (List.mem_cons_of_mem _ hz)) (by omega)]
      simp [List.filter_cons, q]
    | true =>
      rw [lcT_true, e3 q, lcE_ok, if_pos (by omega), loopC_map enc tb yf xs (acc ++ [yf x]) (fun z hz => h z (List.mem_cons_of_mem _ hz)) (by simp; omega)]
      simp [List.filter_cons, q]
theorem loopC_all {α : Type} {c : CT} {fe : EF} {env0 : Env8} {hp : Hp8} (enc : α → D) (yf : α → D) (xs : List α)
    (h : ∀ x ∈ xs, ∃ env1, c.set (enc x) env0 = some env1 ∧ fe env1 hp = some (.ok (yf x), hp)) (hl : xs.length ≤ 1000000) :
    loopC c tfYes fe env0 (xs.map enc) [] hp = some (xs.map yf, hp) := by
  rw [loopC_map (ft := tfYes) enc (fun _ => true) yf xs [] (fun x hx => by
    obtain ⟨env1, e1, e2⟩ := h x hx
    exact ⟨env1, e1, rfl, fun _ => e2⟩) (by simpa using hl), List.filter_eq_self.2 (fun _ _ => rfl)]
  simp
theorem eqF_int {a b : Int} : eqF (.int a) (.int b) = (a == b) := rfl
theorem inD_ints {v : Int} {l : List Int} {hp : Hp8} : inD (.int v) (.tup (l.map .int)) hp = some (l.contains v) := by
  have hf : ∀ l : List Int, (l.map D.int).all flatD = true := fun l => by
    induction l with
    | nil => rfl
    | cons x l ih => simp only [List.map_cons, List.all_cons, ih]; rfl
  have ha : ((l.map D.int).any fun y => eqF y (.int v)) = l.contains v := by
    induction l with
    | nil => rfl
    | cons x l ih =>
      simp only [List.map_cons, List.any_cons, List.contains_cons, ih, eqF_int]
      congr 1
      exact Bool.eq_iff_iff.2 ⟨fun h => by simpa using (by simpa using h : x = v).symm, fun h => by simpa using (by simpa using h : v = x).symm⟩
  unfold inD
  split
  · rename_i h
    cases h
  · rw [e_seqT]
    simp only [hf, ha, Bool.and_true]
    rfl
theorem inY_ints {v : Int} {l : List Int} {hp : Hp8} : inY (.int v) (.tup (l.map .int)) hp = some (l.contains v) := by
  show (inD _ _ hp).map _ = _
  rw [inD_ints]; rfl
theorem take_set {α : Type} {l : List α} {j : Nat} {x : α} (h : j < l.length) : l.take j ++ x :: l.drop (j + 1) = l.set j x := by
  rw [List.set_eq_take_append_cons_drop, if_pos h]
theorem addT_ok {a b : List D} {hp : Hp8} (h : a.length + b.length ≤ 1000) (hl : pl (a ++ b) = false) : addD (.tup a) (.tup b) hp = some (.tup (a ++ b)) := by
  have hz : 1000 ≤ sizeLine := by decide
  rw [e_addT, if_pos ⟨by omega, hl⟩]
theorem plI {l : List Int} (h : l ≠ []) : pl (l.map .int) = false := by
  cases l with
  | nil => exact absurd rfl h
  | cons _ _ => rfl
theorem hears_own_ok {y : Way} {s : List Int} {num : Int} {hp : Hp8} (hl : s.length = y.w.toNat) (h0 : 0 ≤ num) (w1 : 1 ≤ y.w) (w3 : y.w ≤ 3) : g_hears_own [wayD y, sndD s, .int num] hp = some (.ok (.tup [sndD (hearO y.w s num).1, .int (hearO y.w s num).2]), hp) := by
  refine pureG_ok (hp0 := []) (by simp) (d := .tup [sndD (hearO y.w s num).1, .int (hearO y.w s num).2]) ?_ (unref_same _ (by simp))
  by_cases hw : y.w ≤ num
  · simp [e_runF, b_hears_own, wayD, sndD, hw, hearO]
  · obtain ⟨j, rfl⟩ : ∃ j : Nat, num = j := ⟨num.toNat, by omega⟩
    have hj : j < s.length := by omega
    have hx : atI (s.map D.int) (j : Int) = some (.int s[j]) := atI_nat (by simp [hj])
    have hv : s.getD j 0 = s[j] := by simp [hj]
    have hi : inY (.int s[j]) (.tup [.int 0, .int (-1)]) [] = some ([0, -1].contains s[j]) := inY_ints (l := [0, -1])
    by_cases hv0 : s[j] = 0 ∨ s[j] = -1
    · have hc : ([0, -1] : List Int).contains s[j] = true := by
        rcases hv0 with h | h <;> rw [h] <;> rfl
      rw [hc] at hi
      have hh : hearO y.w s j = (s, 0) := by
        simp only [hearO, Int.toNat_natCast, hv]
        rw [if_pos (by rcases hv0 with h | h <;> simp [h])]
      simp [e_runF, b_hears_own, wayD, sndD, hw, hh, hx, hi]
    · have hc : ([0, -1] : List Int).contains s[j] = false := by
        simp at hv0 ⊢
        exact ⟨hv0.1, hv0.2⟩
      rw [hc] at hi
      have c1 := cut_to (xs := s.map D.int) (k := j) (by simp; omega)
      have c2 := cut_from (xs := s.map D.int) (k := j + 1) (by simp; omega)
      have hh : hearO y.w s j = ((s.set j (-1)).drop (cntA (s.set j (-1))) ++ List.replicate (cntA (s.set j (-1))) 0, (cntA (s.set j (-1)) : Int)) := by
        simp only [hearO, Int.toNat_natCast, hv]
        rw [if_neg (by rintro (h | h); exact hw h; exact hv0 h)]
      have a1 : addD (.tup ((s.map D.int).take j)) (.tup [.int (-1)]) [] = some (.tup ((s.take j ++ [-1]).map .int)) := by
        rw [addT_ok (by simp; omega)]
        · simp
        · have := plI (l := s.take j ++ [-1]) (by simp)
          simpa using this
      have a2 : addD (.tup ((s.take j ++ [-1]).map .int)) (.tup ((s.map D.int).drop (j + 1))) [] = some (.tup ((s.set j (-1)).map .int)) := by
        rw [addT_ok (by simp; omega)]
        · rw [← take_set hj]; simp
        · rw [← List.map_drop, ← List.map_append]
          exact plI (by simp)
      generalize hm : s.set j (-1) = m at *
      have ml : m.length = s.length := by rw [← hm]; simp
      have c3 := cut_from (xs := m.map D.int) (k := cntA m) (by simpa using cntA_le m)
      have cl := cntA_le m
      have a3 : addD (.tup ((m.map D.int).drop (cntA m))) (.tup (List.replicate (cntA m) (D.int 0))) [] = some (.tup ((m.drop (cntA m) ++ List.replicate (cntA m) 0).map .int)) := by
        rw [addT_ok (by simp; omega)]
        · simp
        · have : pl ((m.drop (cntA m) ++ List.replicate (cntA m) 0).map .int) = false := plI (fun z => by
            have := congrArg List.length z
            simp at this
            omega)
          simpa using this
      have fl : ∀ k : Nat, (List.replicate k [D.int 0]).flatten = List.replicate k (D.int 0) := fun k => by simp
      have h1000 : ((cntA m : Nat) : Int) ≤ 1000 := by omega
      have wh := whH8 (x0 := some (.tup [.str y.kind, .int y.w, .int y.n, .int y.t])) (x1 := some (.tup (s.map D.int))) (x2 := some (.int j)) (hp := []) (m := m) (by omega)
      simp only [EH, wHear, Int.ofNat_zero, Int.natCast_zero] at wh
      simp [-e_addT, -List.map_take, -List.map_drop, -List.map_append, e_runF, b_hears_own, wayD, sndD, hw, hx, hi, c1, a1, hh]
      have c2' : HI.cutD (s.map D.int) (some ((j : Int) + 1)) none = (s.map D.int).drop (j + 1) := by
        rw [← c2]; rfl
      simp [-e_addT, -List.map_take, -List.map_drop, -List.map_append, c2', a2, wh]
      have p0 : pl [D.int 0] = false := rfl
      simp [-e_addT, -List.map_take, -List.map_drop, -List.map_append, c3, h1000, fl, p0, a3]
/-! sends_own -/
theorem e_tupleR {n : Nat} {hp : Hp8} : tupleD (.ref n) hp = (clK hp[n]?).map .tup := rfl
def enI : Nat → List Int → List (Nat × Int)
  | _, [] => []
  | k, x :: l => (k, x) :: enI (k + 1) l
def enIx (p : Nat × Int) : D := .tup [.int p.1, .int p.2]
theorem enum_ints : ∀ (l : List Int) (k : Nat), enF k (l.map .int) = (enI k l).map enIx
  | [], k => rfl
  | x :: l, k => by
    have := enum_ints l (k + 1)
    simp only [List.map_cons, enF, enI, enIx]
    congr 1
theorem pos_eq (v : Int) : ∀ (l : List Int) (k : Nat), ((enI k l).filter fun p => p.2 == v).map (fun p => D.int p.1) = (pos1 v k l).map fun (i : Nat) => D.int i
  | [], k => rfl
  | x :: l, k => by
    have := pos_eq v l (k + 1)
    by_cases h : x = v
    · subst h
      simp [enI, pos1, List.filter_cons]
      simpa using this
    · simp [enI, pos1, List.filter_cons, h]
      simpa using this
theorem enI_len : ∀ (l : List Int) (k : Nat), (enI k l).length = l.length
  | [], _ => rfl
  | x :: l, k => by simp [enI, enI_len l]
theorem pos1_lt {v : Int} : ∀ (l : List Int) (k i : Nat), i ∈ pos1 v k l → i < k + l.length
  | [], k, i, h => by simp [pos1] at h
  | x :: l, k, i, h => by
    unfold pos1 at h
    split at h
    · rcases List.mem_cons.1 h with rfl | h
      · simp
      · have := pos1_lt l (k + 1) i h
        simp; omega
    · have := pos1_lt l (k + 1) i h
      simp; omega
theorem pos1_len {v : Int} : ∀ (l : List Int) (k : Nat), (pos1 v k l).length ≤ l.length
  | [], k => by simp [pos1]
  | x :: l, k => by
    have := pos1_len (v := v) l (k + 1)
    unfold pos1
    split <;> simp <;> omega
theorem eqD_plain {hp : Hp8} {d e : D} {b : Bool} (hd : plain 60 d = true) (he : plain 60 e = true) (hb : b = true ↔ d = e) : eqD d e hp = some b := by
  obtain ⟨c, h, k⟩ := eqD_of (hp := hp) hd he
  rw [h]
  congr 1
  exact Bool.eq_iff_iff.2 (k.trans hb.symm)
theorem neD_plain {hp : Hp8} {d e : D} {b : Bool} (hd : plain 60 d = true) (he : plain 60 e = true) (hb : b = true ↔ d = e) : neD d e hp = some (!b) := by
  simp [neD, eqD_plain hd he hb]
theorem plains_all {n : Nat} {l : List D} : plains n l = l.all (plain n) := by
  induction l with
  | nil => rfl
  | cons x l ih => simp [plains, ih]
theorem plains_map {α : Type} {n : Nat} {f : α → D} {l : List α} (h : ∀ x, plain n (f x) = true) : plains n (l.map f) = true := by
  rw [plains_all]
  simp [h]
theorem neD_nil {l : List D} {hp : Hp8} (h : plains 59 l = true) : neD (.lst l) (.lst []) hp = some (!l.isEmpty) :=
  neD_plain (b := l.isEmpty) h rfl (by simp)
theorem sends_own_ok {y : Way} {s : List Int} {hp : Hp8} (hl : s.length ≤ 3) : g_sends_own [wayD y, sndD s] hp = some (.ok (.tup [oD (sendO y.t s).1, sndD (sendO y.t s).2]), hp) := by
  have e0 : HI.enumL (s.map D.int) = (enI 0 s).map enIx := by rw [enumL_eq]; exact enum_ints s 0
  have l1 : ∀ x1 x2 x3 x4 x5 : Option D, loopC (.tp [6, 7]) (sTst (sOp (sCmp eqD) (sVar 7) (sIx (sVar 0) (pur (.int 3))))) (sVar 6) [some (wayD y), x1, x2, x3, x4, x5, none, none] ((enI 0 s).map enIx) [] [] = some ((pos1 y.t 0 s).map fun (i : Nat) => D.int i, []) := fun x1 x2 x3 x4 x5 => by
    rw [loopC_map enIx (fun p => p.2 == y.t) (fun p => D.int p.1) (enI 0 s) [] (fun p _ => ⟨_, rfl, by simp [wayD], fun _ => by simp⟩) (by simp [enI_len]; omega)]
    simp [pos_eq]
  have l2 : ∀ x1 x2 x3 x4 x5 : Option D, loopC (.tp [6, 7]) (sTst (sOp (sCmp eqD) (sVar 7) (pur (.int 0)))) (sVar 6) [some (wayD y), x1, x2, x3, x4, x5, none, none] ((enI 0 s).map enIx) [] [] = some ((pos1 0 0 s).map fun (i : Nat) => D.int i, []) := fun x1 x2 x3 x4 x5 => by
    rw [loopC_map enIx (fun p => p.2 == 0) (fun p => D.int p.1) (enI 0 s) [] (fun p _ => ⟨_, rfl, by simp, fun _ => by simp⟩) (by simp [enI_len]; omega)]
    simp [pos_eq]
  have l3 : ∀ x1 x2 x3 x4 x5 x6 : Option D, loopC (.nm 7) tfYes (sIf (sTst (sOp (sCmp gtD) (sVar 7) (pur (.int 0)))) (sMin2 (sCons (sAdd (sVar 7) (pur (.int 1))) (sCons (sIx (sVar 0) (pur (.int 3))) sNil))) (sVar 7)) [some (wayD y), x1, x2, x3, x4, x5, x6, none] (s.map D.int) [] [] = some ((s.map (stepM y.t)).map .int, []) := fun x1 x2 x3 x4 x5 x6 => by
    rw [loopC_all D.int (fun x => D.int (stepM y.t x)) s (fun x _ => ⟨_, rfl, by by_cases h : 0 < x <;> simp [wayD, h, stepM]⟩) (by omega)]
    simp
  have ha : ∀ l : List Nat, plains 59 (l.map fun (i : Nat) => D.int i) = true := fun l => plains_map fun _ => rfl
  have p1 := pos1_len (v := y.t) s 0
  have p2 := pos1_len (v := 0) s 0
  have hz : 1000 ≤ sizeLine := by decide
  have ad : (pos1 y.t 0 s).length + (pos1 0 0 s).length ≤ sizeLine := by omega
  have ne : ∀ hp, neD (.lst ((pos1 y.t 0 s ++ pos1 0 0 s).map fun (i : Nat) => D.int i)) (.lst []) hp = some (!(pos1 y.t 0 s ++ pos1 0 0 s).isEmpty) := fun hp => by
    rw [neD_nil (ha _)]
    cases pos1 y.t 0 s ++ pos1 0 0 s <;> rfl
  refine pureG_ok (hp0 := [.lst ((sendO y.t s).2.map .int)]) (by simp) (d := .tup [oD (sendO y.t s).1, sndD (sendO y.t s).2]) ?_ (unref_same _ (by simp))
  have e1 : (wayD y) = .tup [.str y.kind, .int y.w, .int y.n, .int y.t] := rfl
  cases q : pos1 y.t 0 s ++ pos1 0 0 s with
  | nil =>
    rw [q] at ne
    have a1 : addD (.lst ((pos1 y.t 0 s).map fun (i : Nat) => D.int i)) (.lst ((pos1 0 0 s).map fun (i : Nat) => D.int i)) [] = some (.lst []) := by
      rw [e_addL, if_pos (by simpa using ad), ← List.map_append, q]
      rfl
    have n1 : neD (.lst []) (.lst []) [] = some false := ne []
    simp only [sendO, q]
    simp [-e_addL, e_runF, b_sends_own, sndD, e0, l1, l2, l3, a1, n1, oD, e_tupleR]
  | cons i r =>
    rw [q] at ne
    have a1 : addD (.lst ((pos1 y.t 0 s).map fun (i : Nat) => D.int i)) (.lst ((pos1 0 0 s).map fun (i : Nat) => D.int i)) [] = some (.lst (.int i :: r.map fun (i : Nat) => D.int i)) := by
      rw [e_addL, if_pos (by simpa using ad), ← List.map_append, q]
      rfl
    have n1 : neD (.lst (.int i :: r.map fun (i : Nat) => D.int i)) (.lst []) [] = some true := ne []
    have hi : i < s.length := by
      have : i ∈ pos1 y.t 0 s ++ pos1 0 0 s := by rw [q]; exact List.mem_cons_self ..
      rcases List.mem_append.1 this with h | h <;> (have := pos1_lt _ _ _ h; omega)
    simp only [sendO, q]
    have hx : ixN s.length (i : Int) = some i := by simp [ixN]; omega
    simp [-e_addL, e_runF, b_sends_own, sndD, e0, l1, l2, l3, a1, n1, oD, e_tupleR, hx]
theorem again_own_ok {y : Way} {s : List Int} {hp : Hp8} (hk : y.kind = "own") : g_is_again [wayD y, sndD s] hp = some (.ok (.bl (s.contains y.t)), hp) := by
  refine pureG_ok (hp0 := []) (by simp) (d := .bl (s.contains y.t)) ?_ rfl
  have := inY_ints (v := y.t) (l := s) (hp := [])
  simp only [inY] at this
  simp [e_runF, b_is_again, wayD, sndD, hk, this]
end R
namespace R
open PySem L2 PyProof.Rows HI
open C (mx hearB sendB againB getB getO cntA cntA_le hearO sendO pos1 stepM)
def yC (y : Way) : C.Y := ⟨y.kind == "own", y.kind == "quick", y.w, y.n, y.t⟩
theorem yC_own {y : Way} : (yC y).own = true ↔ y.kind = "own" := by simp [yC]
theorem yC_own' {y : Way} : (yC y).own = false ↔ y.kind ≠ "own" := by simp [yC]
theorem WayOk.c {y : Way} (h : WayOk y) : C.Ok (yC y) := ⟨h.w1, h.w3, h.wn, h.n6, h.t1, h.t5, fun z => by
  have := yC_own.1 z
  simp only [yC, this]
  decide⟩
def plD (p : C.Pl) : D := .tup [.int p.turn, sndD p.snd, .tup (p.fr.map oD), .tup (p.an.map oD), rcvD (p.wants, p.k1, p.k2)]
theorem closeds_oD {l : List (Option Int)} : closeds (l.map oD) = true := by
  induction l with
  | nil => rfl
  | cons x l ih => simp [ih]
@[simp] theorem cl_pl {p : C.Pl} : closed (plD p) = true := by simp [plD, closeds_oD]
theorem heard_ok {y : Way} (ok : WayOk y) {s : List Int} {a : Int} {hp : Hp8} (so : (yC y).own = true → s.length = y.w.toNat) (sb : (yC y).own = false → ∃ s' q c a, s = [s', q, c, a]) (h0 : 0 ≤ a) :
    g_heard [wayD y, sndD s, .int a] hp = some (.ok (.tup [sndD (C.hear (yC y) s a).1, .int (C.hear (yC y) s a).2]), hp) := by
  refine pureG_ok (hp0 := []) (by simp) (d := .tup [sndD (C.hear (yC y) s a).1, .int (C.hear (yC y) s a).2]) ?_ (unref_same _ (by simp))
  have ix : ∀ hp, ixD (wayD y) (.int 0) hp = some (.str y.kind) := fun _ => by simp [wayD]
  by_cases h : y.kind = "own"
  · have ho := yC_own.2 h
    have hh := hears_own_ok (hp := []) (so ho) h0 ok.w1 ok.w3
    simp [e_runF, b_heard, ix, h, hh, C.hear, ho]
    simp [yC]
  · have ho := yC_own'.2 h
    obtain ⟨s', q, c, b, rfl⟩ := sb ho
    have hh := hears_back_ok (y := y) (s := s') (p := q) (c := c) (a := b) (num := a) (hp := [])
    simp [e_runF, b_heard, ix, h, hh, C.hear, ho]
    simp [yC]
theorem sent_ok {y : Way} (ok : WayOk y) {s : List Int} {hp : Hp8} (so : (yC y).own = true → s.length = y.w.toNat) (sb : (yC y).own = false → ∃ s' q c a, s = [s', q, c, a]) :
    g_sent_by [wayD y, sndD s] hp = some (.ok (.tup [oD (C.send (yC y) s).1, sndD (C.send (yC y) s).2]), hp) := by
  refine pureG_ok (hp0 := []) (by simp) (d := .tup [oD (C.send (yC y) s).1, sndD (C.send (yC y) s).2]) ?_ (unref_same _ (by simp))
  have ix : ∀ hp, ixD (wayD y) (.int 0) hp = some (.str y.kind) := fun _ => by simp [wayD]
  by_cases h : y.kind = "own"
  · have ho := yC_own.2 h
    have hh := sends_own_ok (y := y) (s := s) (hp := []) (by have := so ho; have := ok.w3; omega)
    simp [e_runF, b_sent_by, ix, h, hh, C.send, ho]
    simp [yC]
  · have ho := yC_own'.2 h
    obtain ⟨s', q, c, b, rfl⟩ := sb ho
    have hh := sends_back_ok (y := y) (s := s') (p := q) (c := c) (a := b) (hp := [])
    simp [e_runF, b_sent_by, ix, h, hh, C.send, ho]
    simp [yC]
theorem again_ok {y : Way} (ok : WayOk y) {s : List Int} {hp : Hp8} (sb : (yC y).own = false → ∃ s' q c a, s = [s', q, c, a]) :
    g_is_again [wayD y, sndD s] hp = some (.ok (.bl (C.again (yC y) s)), hp) := by
  by_cases h : y.kind = "own"
  · have ho := yC_own.2 h
    rw [again_own_ok h]
    simp [C.again, ho]
    simp [yC]
  · have ho := yC_own'.2 h
    obtain ⟨s', q, c, b, rfl⟩ := sb ho
    rw [again_back_ok h]
    simp [C.again, ho]
    simp [yC]
theorem got_ok {y : Way} (ok : WayOk y) {wants l : Int} {k1 k2 : Option Int} {hp : Hp8} (kb : (yC y).own = false → k1 = none ∧ k2 = none) :
    g_got [wayD y, rcvD (wants, k1, k2), .int l] hp = some (.ok (gotD (C.get (yC y) wants k1 k2 l)), hp) := by
  have hn : 0 < y.n := by have := ok.w1; have := ok.wn; omega
  refine pureG_ok (hp0 := []) (by simp) (d := gotD (C.get (yC y) wants k1 k2 l)) ?_ (unref_same _ (by simp))
  have ix : ∀ hp, ixD (wayD y) (.int 0) hp = some (.str y.kind) := fun _ => by simp [wayD]
  by_cases h : y.kind = "own"
  · have ho := yC_own.2 h
    have hh := gets_own_ok (y := y) (wants := wants) (letter := l) (k1 := k1) (k2 := k2) (hp := []) hn ok.w3
    simp [e_runF, b_got, ix, h, hh, C.get, ho]
    simp [yC]
  · have ho := yC_own'.2 h
    obtain ⟨rfl, rfl⟩ := kb ho
    have hh := gets_back_ok (y := y) (wants := wants) (letter := l) (hp := []) hn
    have hr : rcvD (wants, none, none) = .tup [.int wants, .tup []] := rfl
    simp [e_runF, b_got, ix, h, hr, hh, C.get, ho]
    simp [yC, gotD, rcvD, keptD, kpD]
theorem moved_ok {o : Option Int} {m : Int} {hp : Hp8} : g_moved [oD o, .int m] hp = some (.ok (oD (C.sub m o)), hp) := by
  refine pureG_ok (hp0 := []) (by simp) (d := oD (C.sub m o)) ?_ (unref_same _ (by simp))
  cases o <;> simp [e_runF, b_moved, oD, C.sub]
theorem shifted_ok {y : Way} {p : C.Pl} {m : Int} {s : List Int} {hp : Hp8} (hn : 0 < y.n) (hf : p.fr.length ≤ 2) (ha : p.an.length ≤ 2) (ha1 : 1 ≤ p.an.length) :
    g_shifted [wayD y, plD p, .int m, sndD s] hp = some (.ok (plD (C.shift (yC y) p m s)), hp) := by
  refine pureG_ok (hp0 := []) (by simp) (d := plD (C.shift (yC y) p m s)) ?_ (unref_same _ (by simp))
  have c1 : HI.cutD (p.an.map oD) (some 1) none = p.an.tail.map oD := by
    exact (cut_from (xs := p.an.map oD) (k := 1) (by simpa using ha1)).trans (by simp)
  have ix : ∀ hp, ixD (wayD y) (.int 2) hp = some (.int y.n) := fun _ => by simp [wayD]
  have l1 : ∀ x0 x1 x3 x4 x5 x6 x7 x8 x9 x10 x12 x13 : Option D, loopC (.nm 11) tfYes (sCallD g_moved (sCons (sVar 11) (sCons (sVar 2) sNil))) [x0, x1, some (.int m), x3, x4, x5, x6, x7, x8, x9, x10, none, x12, x13] (p.fr.map oD) [] [] = some ((p.fr.map (C.sub m)).map oD, []) := fun x0 x1 x3 x4 x5 x6 x7 x8 x9 x10 x12 x13 => by
    rw [loopC_all oD (fun o => oD (C.sub m o)) p.fr (fun o _ => ⟨_, rfl, by simp [moved_ok]⟩) (by omega)]
    simp
  have l2 : ∀ x0 x1 x3 x5 x6 x7 x8 x9 x10 x12 x13 : Option D, loopC (.nm 11) tfYes (sIf (sTst (sOp (sCmp isD) (sVar 11) (pur .non))) (pur .non) (sMod (sSub (sVar 11) (sVar 2)) (sVar 4))) [x0, x1, some (.int m), x3, some (.int y.n), x5, x6, x7, x8, x9, x10, none, x12, x13] (p.an.tail.map oD) [] [] = some ((p.an.tail.map (Option.map fun a => (a - m) % y.n)).map oD, []) := fun x0 x1 x3 x5 x6 x7 x8 x9 x10 x12 x13 => by
    rw [loopC_all oD (fun o => oD (Option.map (fun a => (a - m) % y.n) o)) p.an.tail (fun o _ => ⟨_, rfl, by cases o <;> simp [oD, hn]⟩) (by simp; omega)]
    simp only [List.map_map, Function.comp_def]
  have l3 : ∀ x0 x1 x3 x4 x5 x6 x7 x8 x9 x10 x11 : Option D, loopC (.tp [12, 13]) tfYes (sTup (sCons (sVar 12) (sCons (sSub (sVar 13) (sVar 2)) sNil))) [x0, x1, some (.int m), x3, x4, x5, x6, x7, x8, x9, x10, x11, none, none] (kpD 1 p.k1 ++ kpD 2 p.k2) [] [] = some (kpD 1 (C.sub m p.k1) ++ kpD 2 (C.sub m p.k2), []) := fun x0 x1 x3 x4 x5 x6 x7 x8 x9 x10 x11 => by
    cases p.k1 <;> cases p.k2 <;> simp [kpD, C.sub, lc_cons, lcS_some, lcT_true, lcE_ok]
  simp [-List.map_tail, e_runF, b_shifted, plD, rcvD, keptD, ix, l1, l2, l3, c1, hn, C.shift]
  simp [yC]
end R

namespace R
open PySem L2 PyProof.Rows HI
open C (mx hearB sendB againB getB getO cntA cntA_le hearO sendO pos1 stepM)
theorem seq_nx {f g : SF} {env env1 : Env8} {hp hp1 : Hp8} {R : Option (Fl × Env8 × Hp8)} (h : f env hp = some (.nx, env1, hp1)) (k : g env1 hp1 = R) : sSeq f g env hp = R := by
  rw [e_sSeq, h, seqK_nx, k]
theorem run_of {X : Option (Fl × Env8 × Hp8)} {env : Env8} {hp : Hp8} {d : D} (h : X = some (.rt d, env, hp)) : runK X = some (.ok d, hp) := by rw [h]; rfl
def lostF (z : Str) : Bool := (["frame", "both"] : List Str).contains z
def lostA (z : Str) : Bool := (["answer", "both"] : List Str).contains z
theorem inD_strsT {z : Str} {l : List Str} {hp : Hp8} : inD (.str z) (.tup (l.map .str)) hp = some (l.contains z) := by
  have f : (flatD (.str z) && (l.map D.str).all flatD) = true := by rw [all_strs]; rfl
  unfold inD
  split
  · rename_i h
    cases h
  · rw [e_seqT]
    simp only [f, if_true, any_strs]
theorem inY_strsT {z : Str} {l : List Str} {hp : Hp8} : inY (.str z) (.tup (l.map .str)) hp = some (l.contains z) := by
  show (inD _ _ hp).map _ = _
  rw [inD_strsT]; rfl
theorem inN_strsT {z : Str} {l : List Str} {hp : Hp8} : inN (.str z) (.tup (l.map .str)) hp = some (!l.contains z) := by
  show (inD _ _ hp).map _ = _
  rw [inD_strsT]; rfl
def rightD (o : C.Out) : D := if o.right then .int o.given.length else .non
def outD (o : C.Out) : D := .tup [plD o.pl, .tup [oD o.seen, oD o.told], .tup [rightD o, .int (if o.again then 1 else 0), .int o.many, .lst (o.given.map .int)]]
@[simp] theorem cl_out {o : C.Out} : closed (outD o) = true := by
  unfold outD rightD
  cases o.right <;> simp [closeds_ints]
theorem plO {l : List (Option Int)} (h : l ≠ []) : pl (l.map oD) = false := by
  cases l with
  | nil => exact absurd rfl h
  | cons x l => cases x <;> rfl
theorem addO {l r : List (Option Int)} {hp : Hp8} (h : l.length + r.length ≤ 100) (hr : r ≠ []) : addD (.tup (l.map oD)) (.tup (r.map oD)) hp = some (.tup ((l ++ r).map oD)) := by
  rw [addT_ok (by simp; omega)]
  · simp
  · rw [← List.map_append]
    exact plO (by simp [hr])
theorem bools_map {α : Type} {f : α → Bool} : ∀ l : List α, bools (l.map fun x => D.bl (f x)) = some (l.map f)
  | [] => rfl
  | x :: l => by simp [bools, bools_map l]
theorem goods_enI : ∀ (l : List Int) (w : Int) (k : Nat), ((enI k l).map fun p => p.2 == w + p.1).all id = C.goods (w + k) l
  | [], w, k => rfl
  | x :: l, w, k => by
    have := goods_enI l w (k + 1)
    simp only [enI, List.map_cons, List.all_cons, C.goods, id, this]
    congr 2
    omega
theorem tick_ok {y : Way} {d : Nat} {p : C.Pl} {z : Str} {wire : D} {hp : Hp8} (ok : WayOk y) (wf : C.Wf (yC y) d p) (hd : d = 1 ∨ d = 2) (cw : closed wire = true) :
    g_tick [wire, wayD y, plD p, .str z] hp = some (.ok (outD (C.tick (yC y) p (lostF z) (lostA z))), hp) := by
  have hn : 0 < y.n := by have := ok.w1; have := ok.wn; omega
  refine pureG_ok (hp0 := []) (by simp [cw]) (d := outD (C.tick (yC y) p (lostF z) (lostA z))) ?_ (unref_same _ (by simp))
  obtain ⟨a0, r, han⟩ : ∃ a0 r, p.an = a0 :: r := by
    have := wf.an
    cases q : p.an with
    | nil => rw [q] at this; simp at this; omega
    | cons a r => exact ⟨a, r, rfl⟩
  have ixn : ∀ hp, ixD (wayD y) (.int 2) hp = some (.int y.n) := fun _ => by simp [wayD]
  have hx0 : atI (p.an.map oD) 0 = some (oD a0) := by rw [han]; simp
  have hh0 : a0 = none → C.heard (yC y) p = (p.snd, 0) := fun e => by subst e; simp [C.heard, han]
  have hh1 : ∀ a, a0 = some a → g_heard [wayD y, sndD p.snd, .int a] [] = some (.ok (.tup [sndD (C.heard (yC y) p).1, .int (C.heard (yC y) p).2]), []) := fun a e => by
    subst e
    have hq : C.heard (yC y) p = C.hear (yC y) p.snd a := by simp [C.heard, han]
    rw [hq]
    exact heard_ok ok (s := p.snd) (a := a) (hp := []) wf.so wf.sb (wf.anb a (by rw [han]; exact List.mem_cons_self ..)).1
  have hs := C.heard_wf wf
  have esh := shifted_ok (y := y) (p := p) (m := (C.heard (yC y) p).2) (s := (C.heard (yC y) p).1) (hp := []) hn (by have := wf.fr; omega) (by have := wf.an; omega) (by have := wf.an; omega)
  have eag := again_ok ok (s := (C.heard (yC y) p).1) (hp := []) hs.2
  have esn := sent_ok ok (s := (C.heard (yC y) p).1) (hp := []) hs.1 hs.2
  have kbq : (yC y).own = false → (C.shift (yC y) p (C.heard (yC y) p).2 (C.heard (yC y) p).1).k1 = none ∧ (C.shift (yC y) p (C.heard (yC y) p).2 (C.heard (yC y) p).1).k2 = none := fun ho => by
    have := wf.kb ho
    simp [C.shift, this.1, this.2, C.sub]
  have lfr : (C.shift (yC y) p (C.heard (yC y) p).2 (C.heard (yC y) p).1).fr.length + 1 = d := by simp [C.shift, wf.fr]
  have lan : (C.shift (yC y) p (C.heard (yC y) p).2 (C.heard (yC y) p).1).an.length + 1 = d := by have := wf.an; simp [C.shift, wf.an]; omega
  have esq : (C.shift (yC y) p (C.heard (yC y) p).2 (C.heard (yC y) p).1).snd = (C.heard (yC y) p).1 := rfl
  rw [← esq] at eag esn
  generalize ho : C.tick (yC y) p (lostF z) (lostA z) = o
  simp only [C.tick] at ho
  generalize hH : C.heard (yC y) p = h at *
  generalize hQ : C.shift (yC y) p h.2 h.1 = q at *
  generalize C.send (yC y) q.snd = s at *
  generalize C.again (yC y) q.snd = ag at *
  obtain ⟨x, hx⟩ : ∃ x, (if lostF z = true then none else s.1) = x := ⟨_, rfl⟩
  rw [hx] at ho
  have hxt : lostF z = true → x = none := fun e => by rw [← hx, if_pos e]
  have hxf : lostF z = false → x = s.1 := fun e => by rw [← hx, e]; rfl
  obtain ⟨c, r2, hcr⟩ : ∃ c r2, q.fr ++ [x] = c :: r2 := by
    cases q.fr with
    | nil => exact ⟨x, [], rfl⟩
    | cons a b => exact ⟨a, b ++ [x], rfl⟩
  have hc : atI ((q.fr ++ [x]).map oD) 0 = some (oD c) := by rw [hcr]; simp
  have lfr2 : (q.fr ++ [x]).length = d := by simp [← lfr]
  have infb : inY (.str z) (.tup [.str "frame", .str "both"]) [] = some (lostF z) := inY_strsT (l := ["frame", "both"])
  have inab : inY (.str z) (.tup [.str "answer", .str "both"]) [] = some (lostA z) := inY_strsT (l := ["answer", "both"])
  have ead : ∀ x, addD (.tup (q.fr.map oD)) (.tup [oD x]) [] = some (.tup ((q.fr ++ [x]).map oD)) := fun x => addO (r := [x]) (by simp; omega) (by simp)
  have ead2 : ∀ x, addD (.tup (q.an.map oD)) (.tup [oD x]) [] = some (.tup ((q.an ++ [x]).map oD)) := fun x => addO (r := [x]) (by simp; omega) (by simp)
  have hg : C.comes (yC y) q.wants q.k1 q.k2 (q.fr ++ [x]) = C.comes (yC y) q.wants q.k1 q.k2 (c :: r2) := by rw [hcr]
  have cut1 : HI.cutD ((q.fr ++ [x]).map oD) (some 1) none = (q.fr ++ [x]).tail.map oD := (cut_from (xs := (q.fr ++ [x]).map oD) (k := 1) (by simp)).trans (by simp)
  have egot : ∀ l, c = some l → g_got [wayD y, rcvD (q.wants, q.k1, q.k2), .int l] [] = some (.ok (gotD (C.get (yC y) q.wants q.k1 q.k2 l)), []) := fun l _ => got_ok ok kbq
  obtain ⟨g, hgg⟩ : ∃ g, C.comes (yC y) q.wants q.k1 q.k2 (q.fr ++ [x]) = g := ⟨_, rfl⟩
  rw [hgg] at ho hg
  have eadn : addD (.tup (q.fr.map oD)) (.tup [.non]) [] = some (.tup ((q.fr ++ [none]).map oD)) := ead none
  have lg : g.2.1.length ≤ 3 := by
    have sh := C.shift_h wf (m := h.2) (s := h.1)
    rw [hQ] at sh
    have ck := C.comes_k ok.c (wants := q.wants) (fr := q.fr ++ [x]) sh.1 sh.2
    have := ck.2.2.1
    rw [hgg] at this
    have h3 : (yC y).w ≤ 3 := ok.w3
    omega
  have eE : HI.enumL (g.2.1.map D.int) = (enI 0 g.2.1).map enIx := by rw [enumL_eq]; exact enum_ints g.2.1 0
  have gl : ∀ x0 x1 x2 x3 x4 x5 x6 x7 x8 x9 x10 x11 x12 x13 x15 x16 x17 x18 x19 x20 : Option D, loopC (.tp [21, 22]) tfYes (sOp (sCmp eqD) (sVar 22) (sAdd (sVar 14) (sVar 21))) [x0, x1, x2, x3, x4, x5, x6, x7, x8, x9, x10, x11, x12, x13, some (.int q.wants), x15, x16, x17, x18, x19, x20, none, none] ((enI 0 g.2.1).map enIx) [] [] = some ((enI 0 g.2.1).map (fun p => D.bl (p.2 == q.wants + p.1)), []) := fun x0 x1 x2 x3 x4 x5 x6 x7 x8 x9 x10 x11 x12 x13 x15 x16 x17 x18 x19 x20 =>
    loopC_all enIx _ (enI 0 g.2.1) (fun p _ => ⟨_, rfl, by simp⟩) (by rw [enI_len]; omega)
  have allG : ∀ hp, allD (.lst ((enI 0 g.2.1).map (fun p => D.bl (p.2 == q.wants + p.1)))) hp = some (.bl (C.goods q.wants g.2.1)) := fun hp => by
    show (bools _).map _ = _
    rw [bools_map, Option.map_some, goods_enI]
    simp
  have hpl : plD o.pl = .tup [.int q.turn, sndD s.2, .tup ((q.fr ++ [x]).tail.map oD), .tup ((q.an ++ [if lostA z then none else g.2.2.map (· % y.n)]).map oD), rcvD g.1] := by rw [← ho]; rfl
  have hout : outD o = .tup [plD o.pl, .tup [oD (s.1.map fun l => (q.turn + l) % y.n), oD (g.2.2.map fun l => (q.turn + l) % y.n)], .tup [if C.goods q.wants g.2.1 then .int g.2.1.length else .non, .int (if ag then 1 else 0), .int h.2, .lst (g.2.1.map .int)]] := by rw [← ho]; rfl
  rw [e_runF (by rfl)]
  simp only [b_tick, List.map_cons, List.map_nil, List.cons_append, List.nil_append, List.replicate]
  refine run_of (env := [some wire, some (wayD y), some (plD p), some (.str z), some (sndD s.2), some (.tup (q.an.map oD)), some (.int h.2), some (.int q.turn), some (.tup ((q.fr ++ [x]).map oD)), some (rcvD g.1), some (.bl ag), some (oD s.1), some (oD (s.1.map fun l => (q.turn + l) % y.n)), some (oD c), some (.int q.wants), some (.lst (g.2.1.map .int)), some (oD g.2.2), some (oD (g.2.2.map fun l => (q.turn + l) % y.n)), some (oD (if lostA z then none else g.2.2.map (· % y.n))), some (.bl (C.goods q.wants g.2.1)), some (plD o.pl), none, none]) ?_
  refine seq_nx (env1 := [some wire, some (wayD y), some (plD p), some (.str z), some (sndD p.snd), some (.tup (p.an.map oD)), some (.int 0), none, none, none, none, none, none, none, none, none, none, none, none, none, none, none, none]) (hp1 := []) (by simp [plD]) ?_
  refine seq_nx (env1 := [some wire, some (wayD y), some (plD p), some (.str z), some (sndD h.1), some (.tup (p.an.map oD)), some (.int h.2), none, none, none, none, none, none, none, none, none, none, none, none, none, none, none, none]) (hp1 := []) (by cases a0 with | none => (rw [hh0 rfl]; simp [hx0, oD]) | some a => (simp [hx0, oD, hh1 a rfl])) ?_
  refine seq_nx (env1 := [some wire, some (wayD y), some (plD p), some (.str z), some (sndD q.snd), some (.tup (q.an.map oD)), some (.int h.2), some (.int q.turn), some (.tup (q.fr.map oD)), some (rcvD (q.wants, q.k1, q.k2)), none, none, none, none, none, none, none, none, none, none, none, none, none]) (hp1 := []) (by simp [esh]; simp [plD]) ?_
  refine seq_nx (env1 := [some wire, some (wayD y), some (plD p), some (.str z), some (sndD q.snd), some (.tup (q.an.map oD)), some (.int h.2), some (.int q.turn), some (.tup (q.fr.map oD)), some (rcvD (q.wants, q.k1, q.k2)), some (.bl ag), none, none, none, none, none, none, none, none, none, none, none, none]) (hp1 := []) (by simp [eag]) ?_
  refine seq_nx (env1 := [some wire, some (wayD y), some (plD p), some (.str z), some (sndD s.2), some (.tup (q.an.map oD)), some (.int h.2), some (.int q.turn), some (.tup (q.fr.map oD)), some (rcvD (q.wants, q.k1, q.k2)), some (.bl ag), some (oD s.1), none, none, none, none, none, none, none, none, none, none, none]) (hp1 := []) (by simp [esn]) ?_
  refine seq_nx (env1 := [some wire, some (wayD y), some (plD p), some (.str z), some (sndD s.2), some (.tup (q.an.map oD)), some (.int h.2), some (.int q.turn), some (.tup (q.fr.map oD)), some (rcvD (q.wants, q.k1, q.k2)), some (.bl ag), some (oD s.1), some (oD (s.1.map fun l => (q.turn + l) % y.n)), none, none, none, none, none, none, none, none, none, none]) (hp1 := []) (by cases s.1 <;> simp [oD, ixn, hn]) ?_
  refine seq_nx (env1 := [some wire, some (wayD y), some (plD p), some (.str z), some (sndD s.2), some (.tup (q.an.map oD)), some (.int h.2), some (.int q.turn), some (.tup ((q.fr ++ [x]).map oD)), some (rcvD (q.wants, q.k1, q.k2)), some (.bl ag), some (oD s.1), some (oD (s.1.map fun l => (q.turn + l) % y.n)), none, none, none, none, none, none, none, none, none, none]) (hp1 := []) (by cases hf : lostF z <;> simp [-e_addT, -List.map_append, infb, hf, ead, eadn, hxt, hxf]) ?_
  refine seq_nx (env1 := [some wire, some (wayD y), some (plD p), some (.str z), some (sndD s.2), some (.tup (q.an.map oD)), some (.int h.2), some (.int q.turn), some (.tup ((q.fr ++ [x]).map oD)), some (rcvD (q.wants, q.k1, q.k2)), some (.bl ag), some (oD s.1), some (oD (s.1.map fun l => (q.turn + l) % y.n)), some (oD c), some (.int q.wants), some (.lst []), some .non, none, none, none, none, none, none]) (hp1 := []) (by simp [-List.map_append, hc, rcvD]) ?_
  refine seq_nx (env1 := [some wire, some (wayD y), some (plD p), some (.str z), some (sndD s.2), some (.tup (q.an.map oD)), some (.int h.2), some (.int q.turn), some (.tup ((q.fr ++ [x]).map oD)), some (rcvD g.1), some (.bl ag), some (oD s.1), some (oD (s.1.map fun l => (q.turn + l) % y.n)), some (oD c), some (.int q.wants), some (.lst (g.2.1.map .int)), some (oD g.2.2), none, none, none, none, none, none]) (hp1 := []) (by cases c with | none => (simp [hg, C.comes, oD]) | some l => (simp [oD, egot l rfl, hg, C.comes, gotD])) ?_
  refine seq_nx (env1 := [some wire, some (wayD y), some (plD p), some (.str z), some (sndD s.2), some (.tup (q.an.map oD)), some (.int h.2), some (.int q.turn), some (.tup ((q.fr ++ [x]).map oD)), some (rcvD g.1), some (.bl ag), some (oD s.1), some (oD (s.1.map fun l => (q.turn + l) % y.n)), some (oD c), some (.int q.wants), some (.lst (g.2.1.map .int)), some (oD g.2.2), some (oD (g.2.2.map fun l => (q.turn + l) % y.n)), none, none, none, none, none]) (hp1 := []) (by cases g.2.2 <;> simp [oD, ixn, hn]) ?_
  refine seq_nx (env1 := [some wire, some (wayD y), some (plD p), some (.str z), some (sndD s.2), some (.tup (q.an.map oD)), some (.int h.2), some (.int q.turn), some (.tup ((q.fr ++ [x]).map oD)), some (rcvD g.1), some (.bl ag), some (oD s.1), some (oD (s.1.map fun l => (q.turn + l) % y.n)), some (oD c), some (.int q.wants), some (.lst (g.2.1.map .int)), some (oD g.2.2), some (oD (g.2.2.map fun l => (q.turn + l) % y.n)), some (oD (if lostA z then none else g.2.2.map (· % y.n))), none, none, none, none]) (hp1 := []) (by cases ha : lostA z <;> cases g.2.2 <;> simp [oD, ixn, hn, inab, ha]) ?_
  refine seq_nx (env1 := [some wire, some (wayD y), some (plD p), some (.str z), some (sndD s.2), some (.tup (q.an.map oD)), some (.int h.2), some (.int q.turn), some (.tup ((q.fr ++ [x]).map oD)), some (rcvD g.1), some (.bl ag), some (oD s.1), some (oD (s.1.map fun l => (q.turn + l) % y.n)), some (oD c), some (.int q.wants), some (.lst (g.2.1.map .int)), some (oD g.2.2), some (oD (g.2.2.map fun l => (q.turn + l) % y.n)), some (oD (if lostA z then none else g.2.2.map (· % y.n))), some (.bl (C.goods q.wants g.2.1)), none, none, none]) (hp1 := []) (by simp [eE, gl, allG]) ?_
  refine seq_nx (env1 := [some wire, some (wayD y), some (plD p), some (.str z), some (sndD s.2), some (.tup (q.an.map oD)), some (.int h.2), some (.int q.turn), some (.tup ((q.fr ++ [x]).map oD)), some (rcvD g.1), some (.bl ag), some (oD s.1), some (oD (s.1.map fun l => (q.turn + l) % y.n)), some (oD c), some (.int q.wants), some (.lst (g.2.1.map .int)), some (oD g.2.2), some (oD (g.2.2.map fun l => (q.turn + l) % y.n)), some (oD (if lostA z then none else g.2.2.map (· % y.n))), some (.bl (C.goods q.wants g.2.1)), some (plD o.pl), none, none]) (hp1 := []) (by simp [-e_addT, -List.map_append, -List.map_tail, cut1, ead2, hpl]) ?_
  rw [hout]
  cases C.goods q.wants g.2.1 <;> cases ag <;> simp
end R

namespace R
open PySem L2 PyProof.Rows HI
def wireD (d r : Int) : D := .tup [.int d, .int r]
@[simp] theorem cl_wire {d r : Int} : closed (wireD d r) = true := rfl
def fl (z : Str) : Bool × Bool := (lostF z, lostA z)
def seenD (k : C.Tk) : D := .tup [oD k.seen, oD k.told]
def givD (k : C.Tk) : D := .lst (k.given.map .int)
theorem closeds_map {α : Type} {f : α → D} (h : ∀ x, closed (f x) = true) (l : List α) : closeds (l.map f) = true := by
  induction l with
  | nil => rfl
  | cons x l ih => simp [h, ih]
@[simp] theorem cl_seen {k : C.Tk} : closed (seenD k) = true := by simp [seenD]
@[simp] theorem cl_giv {k : C.Tk} : closed (givD k) = true := by simp [givD, closeds_ints]
theorem sender_ok {y : Way} (ok : WayOk y) {hp : Hp8} : g_sender_of [wayD y] hp = some (.ok (sndD (if (yC y).own then List.replicate y.w.toNat 0 else [0, 0, 0, 0])), hp) := by
  refine pureG_ok (hp0 := []) (by simp) (d := sndD (if (yC y).own then List.replicate y.w.toNat 0 else [0, 0, 0, 0])) ?_ (unref_same _ (by simp))
  have w1 := ok.w1; have w3 := ok.w3
  by_cases h : y.kind = "own"
  · have ho := yC_own.2 h
    have h0 : 0 ≤ y.w := by omega
    have h1 : y.w ≤ 1000 := by omega
    have p0 : pl [D.int 0] = false := rfl
    simp [e_runF, b_sender_of, wayD, h, h0, h1, p0, ho, sndD]
  · have ho := yC_own'.2 h
    simp [e_runF, b_sender_of, wayD, h, ho, sndD]
theorem begun_ok {y : Way} (ok : WayOk y) {d : Nat} {r : Int} (hd : d = 1 ∨ d = 2) {hp : Hp8} : g_begun [wireD d r, wayD y] hp = some (.ok (plD (C.begun (yC y) d)), hp) := by
  refine pureG_ok (hp0 := []) (by simp) (d := plD (C.begun (yC y) d)) ?_ (unref_same _ (by simp))
  have p0 : pl [D.non] = false := rfl
  have ey : (yC y).w = y.w := rfl
  rcases hd with rfl | rfl
  · simp [e_runF, b_begun, wireD, sender_ok ok, p0, plD, C.begun, oD, rcvD, keptD, kpD, ey]
  · simp [e_runF, b_begun, wireD, sender_ok ok, p0, plD, C.begun, oD, rcvD, keptD, kpD, ey]
theorem run_loop {y : Way} (ok : WayOk y) {d : Nat} (hd : d = 1 ∨ d = 2) {wire : D} (cw : closed wire = true) {x2 x10 : Option D} : ∀ (l : List Str) (p : C.Pl) (b : Int) (aS aG : List D) (x7 x8 x9 : Option D), C.Wf (yC y) d p → aS.length + l.length ≤ 100 → aG.length + l.length ≤ 100 →
    ∃ b' y7 y8 y9, loopL (gNm 7) L_run_1 (l.map .str) [some wire, some (wayD y), x2, some (plD p), some (.int b), some (.ref 0), some (.ref 1), x7, x8, x9, none] [.lst aS, .lst aG] =
      some (.nx, [some wire, some (wayD y), x2, some (plD (C.run (yC y) p b (l.map fl)).2), some (.int b'), some (.ref 0), some (.ref 1), y7, y8, y9, none], [.lst (aS ++ (C.run (yC y) p b (l.map fl)).1.map seenD), .lst (aG ++ (C.run (yC y) p b (l.map fl)).1.map givD)])
  | [], p, b, aS, aG, x7, x8, x9, _, _, _ => ⟨b, x7, x8, x9, by simp [C.run]⟩
  | z :: l, p, b, aS, aG, x7, x8, x9, wf, h1, h2 => by
    have h1 : aS.length + (l.length + 1) ≤ 100 := h1
    have h2 : aG.length + (l.length + 1) ≤ 100 := h2
    have et := tick_ok (z := z) (wire := wire) (hp := [.lst aS, .lst aG]) ok wf hd cw
    have wf' := C.tick_wf ok.c wf (lostF z) (lostA z)
    have hg := (C.tick_given ok.c wf (lostF z) (lostA z)).1
    have h3 : (yC y).w ≤ 3 := ok.w3
    simp only [List.map_cons, C.run, fl]
    generalize C.tick (yC y) p (lostF z) (lostA z) = o at *
    obtain ⟨b', y7, y8, y9, e⟩ := run_loop ok hd cw (x2 := x2) (x10 := x10) l o.pl (b + o.many) (aS ++ [.tup [oD o.seen, oD o.told]]) (aG ++ [.lst ((o.given.map (b + o.many + ·)).map .int)]) (some (.str z)) (some (.tup [oD o.seen, oD o.told])) (some (.tup [rightD o, .int (if o.again then 1 else 0), .int o.many, .lst (o.given.map .int)])) wf' (by simp; omega) (by simp; omega)
    refine ⟨b', y7, y8, y9, ?_⟩
    rw [lp_nm]
    have hl1 : aS.length < 1000000 := by omega
    have hl2 : aG.length < 1000000 := by omega
    have lc : ∀ x0 x1 x3 x5 x6 x7 x8 x9 : Option D, ∀ hp, loopC (.nm 10) tfYes (sAdd (sVar 4) (sVar 10)) [x0, x1, x2, x3, some (.int (b + o.many)), x5, x6, x7, x8, x9, none] (o.given.map .int) [] hp = some ((o.given.map (b + o.many + ·)).map .int, hp) := fun x0 x1 x3 x5 x6 x7 x8 x9 hp => by
      rw [loopC_all D.int (fun g => D.int (b + o.many + g)) o.given (fun g _ => ⟨_, rfl, by simp⟩) (by omega)]
      simp
    have t : L_run_1 [some wire, some (wayD y), x2, some (plD p), some (.int b), some (.ref 0), some (.ref 1), some (.str z), x8, x9, none] [.lst aS, .lst aG] =
      some (.nx, [some wire, some (wayD y), x2, some (plD o.pl), some (.int (b + o.many)), some (.ref 0), some (.ref 1), some (.str z), some (.tup [oD o.seen, oD o.told]), some (.tup [rightD o, .int (if o.again then 1 else 0), .int o.many, .lst (o.given.map .int)]), none],
        [.lst (aS ++ [.tup [oD o.seen, oD o.told]]), .lst (aG ++ [.lst ((o.given.map (b + o.many + ·)).map .int)])]) := by
      simp [-List.map_map, L_run_1, et, outD, lc, hl1, hl2]
    simp only [List.set_cons_succ, List.set_cons_zero]
    rw [t, lpK_nx, e]
    simp [seenD, givD]
theorem run_ok {y : Way} (ok : WayOk y) {d : Nat} {r : Int} (hd : d = 1 ∨ d = 2) {l : List Str} (hl : l.length ≤ 40) {hp : Hp8} : g_run [wireD d r, wayD y, .lst (l.map .str)] hp =
    some (.ok (.tup [.lst ((C.run (yC y) (C.begun (yC y) d) 0 (l.map fl)).1.map seenD), .lst ((C.run (yC y) (C.begun (yC y) d) 0 (l.map fl)).1.map givD), plD (C.run (yC y) (C.begun (yC y) d) 0 (l.map fl)).2]), hp) := by
  obtain ⟨b', y7, y8, y9, e⟩ := run_loop ok hd (wire := wireD d r) (by simp) (x2 := some (.lst (l.map .str))) (x10 := none) l (C.begun (yC y) d) 0 [] [] none none none (C.begun_wf ok.c (by omega)) (by simp; omega) (by simp; omega)
  simp only [List.nil_append] at e
  refine pureG_ok (hp0 := [.lst ((C.run (yC y) (C.begun (yC y) d) 0 (l.map fl)).1.map seenD), .lst ((C.run (yC y) (C.begun (yC y) d) 0 (l.map fl)).1.map givD)]) (by simp [closeds_strs]) (d := .tup [.ref 0, .ref 1, plD (C.run (yC y) (C.begun (yC y) d) 0 (l.map fl)).2]) ?_ ?_
  · simp [e_runF, b_run, begun_ok ok hd, e]
  · have h1 : closeds ((C.run (yC y) (C.begun (yC y) d) 0 (l.map fl)).1.map seenD) = true := closeds_map (by simp) _
    have h2 : closeds ((C.run (yC y) (C.begun (yC y) d) 0 (l.map fl)).1.map givD) = true := closeds_map (by simp) _
    simp [h1, h2, unref_same _ cl_pl]
theorem need_way_ok {y : Way} (ok : WayOk y) {d r : Int} (h1 : 1 ≤ d) (h2 : d ≤ 2) (h3 : 0 ≤ r) (h4 : r ≤ 8) {hp : Hp8} : g_need_way [wireD d r, wayD y] hp = some (.ok .non, hp) := by
  refine pureG_ok (hp0 := []) (by simp) (d := .non) ?_ rfl
  have := is_way_ok (hp := []) ok.kd ok.w1 ok.w3 ok.wn ok.n6 ok.t1 ok.t5
  simp [e_runF, b_need_way, wireD, wayD, need_wire_ok h1 h2 h3 h4, this]
theorem need_fates_ok {d r : Int} {l : List Str} (hl : l.length ≤ 40) (hg : legal r 0 l = true) {hp : Hp8} : g_need_fates [wireD d r, .lst (l.map .str)] hp = some (.ok .non, hp) := by
  refine pureG_ok (hp0 := []) (by simp [closeds_strs]) (d := .non) ?_ rfl
  simp [e_runF, b_need_fates, wireD, arefof_ok hl, hg]
theorem need_run_ok {y : Way} (ok : WayOk y) {d r : Int} (h1 : 1 ≤ d) (h2 : d ≤ 2) (h3 : 0 ≤ r) (h4 : r ≤ 8) {l : List Str} (hl : l.length ≤ 40) (hg : legal r 0 l = true) {hp : Hp8} : g_need_run [wireD d r, wayD y, .lst (l.map .str)] hp = some (.ok .non, hp) := by
  refine pureG_ok (hp0 := []) (by simp [closeds_strs]) (d := .non) ?_ rfl
  simp [e_runF, b_need_run, need_way_ok ok h1 h2 h3 h4, need_fates_ok hl hg]
abbrev ticks (y : Way) (d : Nat) (l : List Str) : List C.Tk := (C.run (yC y) (C.begun (yC y) d) 0 (l.map fl)).1
theorem seen_along_ok {y : Way} (ok : WayOk y) {d : Nat} {r : Int} (hd : d = 1 ∨ d = 2) (h3 : 0 ≤ r) (h4 : r ≤ 8) {l : List Str} (hl : l.length ≤ 40) (hg : legal r 0 l = true) {hp : Hp8} :
    g_seen_along [wireD d r, wayD y, .lst (l.map .str)] hp = some (.ok (.lst ((ticks y d l).map seenD)), hp) := by
  refine pureG_ok (hp0 := []) (by simp [closeds_strs]) (d := .lst ((ticks y d l).map seenD)) ?_ (unref_same _ (by simpa using closeds_map (by simp) _))
  simp [e_runF, b_seen_along, need_run_ok ok (d := (d : Int)) (by omega) (by omega) h3 h4 hl hg, run_ok ok hd hl]
theorem given_along_ok {y : Way} (ok : WayOk y) {d : Nat} {r : Int} (hd : d = 1 ∨ d = 2) (h3 : 0 ≤ r) (h4 : r ≤ 8) {l : List Str} (hl : l.length ≤ 40) (hg : legal r 0 l = true) {hp : Hp8} :
    g_given_along [wireD d r, wayD y, .lst (l.map .str)] hp = some (.ok (.lst ((ticks y d l).map givD)), hp) := by
  refine pureG_ok (hp0 := []) (by simp [closeds_strs]) (d := .lst ((ticks y d l).map givD)) ?_ (unref_same _ (by simpa using closeds_map (by simp) _))
  simp [e_runF, b_given_along, need_run_ok ok (d := (d : Int)) (by omega) (by omega) h3 h4 hl hg, run_ok ok hd hl]
end R

namespace R
open PySem L2 PyProof.Rows HI
def b_bare : SF := (sRet (sAdd (sTup (sCons (pur (.int 0)) sNil)) (sSl (sVar 0) (sPart (pur (.int 1))) (pur none))))
def g_bare : List D → Hp8 → Option (Res D × Hp8) := pureG (runF 1 1 b_bare)
def b_start : SF := (sRet (sTup (sCons (pur (.int 0)) (sCons (sCallD g_begun (sCons (sVar 0) (sCons (sVar 1) sNil))) sNil))))
def g_start : List D → Hp8 → Option (Res D × Hp8) := pureG (runF 2 2 b_start)
def L_steps_1 : SF := (sSeq (sAsg (sCallD g_tick (sCons (sVar 0) (sCons (sVar 1) (sCons (sIx (sVar 2) (pur (.int 1))) (sCons (sVar 4) sNil))))) (gTp 3 (gsCons (gNm 5) (gsCons (gNm 6) (gsCons (gNm 7) gsNil)))))
  (sExpr (sAppend (sVar 3) (sTup (sCons (sVar 4) (sCons (sTup (sCons (sCallD g_rest_behind (sCons (sVar 0) (sCons (sIx (sVar 2) (pur (.int 0))) (sCons (sVar 4) sNil)))) (sCons (sVar 5) sNil))) (sCons (sVar 6) (sCons (sVar 7) sNil))))))))
def b_steps : SF := (sSeq (sAsg (sLstC sNil) (gNm 3))
  (sSeq (sFor (sIt (sCallD g_fates_at (sCons (sIx (sVar 2) (pur (.int 0))) sNil))) (gNm 4)
  L_steps_1)
  (sRet (sVar 3))))
def g_steps : List D → Hp8 → Option (Res D × Hp8) := pureG (runF 8 3 b_steps)
def L_first_wrong_1 : SF := (sSeq (sIfS (sTst (sOp (sCmp isD) (sIx (sVar 10) (pur (.int 0))) (pur .non)))
  (sRet (sAdd (sVar 5) (sLst (sCons (sVar 7) sNil))))
  sSkip)
  (sSeq (sAsg (sTup (sCons (sIx (sVar 8) (pur (.int 0))) (sCons (sCallD g_bare (sCons (sIx (sVar 8) (pur (.int 1))) sNil)) sNil))) (gNm 11))
  (sIfS (sTst (sOp (sCmp (inDn true)) (sVar 11) (sVar 3)))
  (sSeq (sAsg (pur (.bl true)) (gDnx (sVar 3) (sVar 11)))
  (sExpr (sAppend (sVar 4) (sTup (sCons (sAdd (sVar 5) (sLst (sCons (sVar 7) sNil))) (sCons (sVar 11) sNil))))))
  sSkip)))
def L_first_wrong_2 : SF := (sFor (sIt (sCallD g_steps (sCons (sVar 0) (sCons (sVar 1) (sCons (sVar 6) sNil))))) (gTp 4 (gsCons (gNm 7) (gsCons (gNm 8) (gsCons (gNm 9) (gsCons (gNm 10) gsNil)))))
  L_first_wrong_1)
def L_first_wrong_3 : SF := (sSeq (sAsg (sLstC sNil) (gNm 4))
  (sSeq (sSeq (sIce 2) (sFor (sIt (sVar 2)) (gTp 2 (gsCons (gNm 5) (gsCons (gNm 6) gsNil)))
  L_first_wrong_2))
  (sAsg (sVar 4) (gNm 2))))
def b_first_wrong : SF := (sSeq (sPar2 2 3 (sCons (sLstC (sCons (sTup (sCons (sLst sNil) (sCons (sCallD g_start (sCons (sVar 0) (sCons (sVar 1) sNil))) sNil))) sNil)) (sCons sDnNew sNil)))
  (sSeq (sWhile (sTst (sOp (sCmp neD) (sVar 2) (sLst sNil)))
  L_first_wrong_3 fuel8)
  (sRet (pur .non))))
def g_first_wrong : List D → Hp8 → Option (Res D × Hp8) := pureG (runF 12 2 b_first_wrong)
def b_breaking_row : SF := (sSeq (sExpr (sCallD g_need_way (sCons (sVar 0) (sCons (sVar 1) sNil))))
  (sRet (sCallD g_first_wrong (sCons (sVar 0) (sCons (sVar 1) sNil)))))
def g_breaking_row : List D → Hp8 → Option (Res D × Hp8) := pureG (runF 2 2 b_breaking_row)
def b_need_kind : SF := (sIfS (tfNot (sTst (sCallD g_is_kind (sCons (sVar 0) sNil))))
  (sRaise "InvalidKind")
  sSkip)
def g_need_kind : List D → Hp8 → Option (Res D × Hp8) := pureG (runF 1 1 b_need_kind)
def L_enough_numbers_1 : SF := (sIfS (sTst (sOp (sCmp isD) (sCallD g_first_wrong (sCons (sVar 0) (sCons (sTup (sCons (sVar 1) (sCons (sVar 2) (sCons (sVar 4) (sCons (sVar 3) sNil))))) sNil))) (pur .non)))
  (sRet (sVar 4))
  sSkip)
def b_enough_numbers : SF := (sSeq (sExpr (sCallD g_need_wire (sCons (sVar 0) sNil)))
  (sSeq (sExpr (sCallD g_need_kind (sCons (sVar 1) sNil)))
  (sSeq (sIfS (tfOr (tfNot (sTst (sCallD g_is_int (sCons (sVar 2) (sCons (pur (.int 1)) (sCons (pur (.int 3)) sNil)))))) (tfNot (sTst (sCallD g_is_int (sCons (sVar 3) (sCons (pur (.int 1)) (sCons (pur (.int 5)) sNil)))))))
  (sRaise "InvalidCount")
  sSkip)
  (sSeq (sFor (sRng2 (sCons (sVar 2) (sCons (pur (.int 7)) sNil))) (gNm 4)
  L_enough_numbers_1)
  (sRet (pur .non))))))
def g_enough_numbers : List D → Hp8 → Option (Res D × Hp8) := pureG (runF 5 4 b_enough_numbers)
end R

namespace R
open PySem L2 PyProof.Rows HI
def b__law_both : SF := (sSeq (sAsg (sDisp ["base", "next", "sent", "clock", "mark", "clocks", "answered"] [(pur (.int 0)), (pur (.int 0)), (pur (.int 0)), (pur (.int 0)), (pur (.bl false)), sDicNew, (sLstC sNil)]) (gNm 0))
  (sRet (sTup (sCons (sVar 0) (sCons (sDisp ["wants", "kept"] [(pur (.int 0)), sDicNew]) sNil)))))
def g__law_both : List D → Hp8 → Option (Res D × Hp8) := id (runF 1 0 b__law_both)
def b__law_begin : SF := (sSeq (sAsg (sCallD g__law_both sNil) (gTp 2 (gsCons (gNm 1) (gsCons (gNm 2) gsNil))))
  (sRet (sLst (sCons (sVar 1) (sCons (sVar 2) (sCons (sMul (sLst (sCons (pur .non) sNil)) (sSub (sIx (sVar 0) (pur (.int 0))) (pur (.int 1)))) (sCons (sMul (sLst (sCons (pur .non) sNil)) (sIx (sVar 0) (pur (.int 0)))) sNil)))))))
def g__law_begin : List D → Hp8 → Option (Res D × Hp8) := id (runF 3 1 b__law_begin)
def b__law_copy : SF := (sSeq (sPar2 1 2 (sCons (sDicC (sCons (sIx (sVar 0) (pur (.int 0))) sNil)) (sCons (sDicC (sCons (sIx (sVar 0) (pur (.int 1))) sNil)) sNil)))
  (sSeq (sAsg (sTup (sCons (sDicC (sCons (sDGet (sVar 1) (pur (.str "clocks"))) sNil)) (sCons (sListC (sCons (sDGet (sVar 1) (pur (.str "answered"))) sNil)) sNil))) (gTp 2 (gsCons (gDix (sVar 1) (pur (.str "clocks"))) (gsCons (gDix (sVar 1) (pur (.str "answered"))) gsNil))))
  (sSeq (sAsg (sDicC (sCons (sDGet (sVar 2) (pur (.str "kept"))) sNil)) (gDix (sVar 2) (pur (.str "kept"))))
  (sRet (sLst (sCons (sVar 1) (sCons (sVar 2) (sCons (sListC (sCons (sIx (sVar 0) (pur (.int 2))) sNil)) (sCons (sListC (sCons (sIx (sVar 0) (pur (.int 3))) sNil)) sNil)))))))))
def g__law_copy : List D → Hp8 → Option (Res D × Hp8) := id (runF 3 1 b__law_copy)
def L__law_get_1 : SF := (sSeq (sExpr (sAppend (sVar 8) (sDPop (sDGet (sVar 1) (pur (.str "kept"))) (sDGet (sVar 1) (pur (.str "wants"))))))
  (sAugDic (sVar 1) (pur (.str "wants")) (pur (.int 1))))
def b__law_get : SF := (sSeq (sAsg (sVar 0) (gTp 4 (gsCons (gNm 3) (gsCons (gNm 4) (gsCons (gNm 5) (gsCons (gNm 6) gsNil))))))
  (sSeq (sPar2 7 8 (sCons (sMod (sSub (sVar 2) (sDGet (sVar 1) (pur (.str "wants")))) (sVar 5)) (sCons (sLstC sNil) sNil)))
  (sSeq (sIfS (sTst (sOp (sCmp neD) (sVar 3) (pur (.str "own"))))
  (sSeq (sIfS (sTst (sOp (sCmp eqD) (sVar 7) (pur (.int 0))))
  (sSeq (sExpr (sAppend (sVar 8) (sVar 2)))
  (sAugDic (sVar 1) (pur (.str "wants")) (pur (.int 1))))
  sSkip)
  (sRet (sTup (sCons (sVar 8) (sCons (sMod (sDGet (sVar 1) (pur (.str "wants"))) (sVar 5)) sNil)))))
  sSkip)
  (sSeq (sAsg (sAdd (sDGet (sVar 1) (pur (.str "wants"))) (sVar 7)) (gNm 9))
  (sSeq (sIfS (tfAnd (sTst (sOp (sCmp ltD) (sVar 7) (sVar 4))) (sTst (sOp (sCmp (inDic true)) (sVar 9) (sDGet (sVar 1) (pur (.str "kept"))))))
  (sAsg (sVar 2) (gDix (sDGet (sVar 1) (pur (.str "kept"))) (sVar 9)))
  sSkip)
  (sSeq (sWhile (sTst (sOp (sCmp (inDic false)) (sDGet (sVar 1) (pur (.str "wants"))) (sDGet (sVar 1) (pur (.str "kept")))))
  L__law_get_1 fuel8)
  (sRet (sTup (sCons (sVar 8) (sCons (sMod (sVar 2) (sVar 5)) sNil))))))))))
def g__law_get : List D → Hp8 → Option (Res D × Hp8) := id (runF 10 3 b__law_get)
def L__law_hear_1 : SF := (sAugDic (sVar 1) (pur (.str "base")) (pur (.int 1)))
def b__law_hear : SF := (sSeq (sAsg (sVar 0) (gTp 4 (gsCons (gNm 3) (gsCons (gNm 4) (gsCons (gNm 5) (gsCons (gNm 6) gsNil))))))
  (sSeq (sPar2 7 8 (sCons (sDGet (sVar 1) (pur (.str "base"))) (sCons (sMod (sSub (sVar 2) (sDGet (sVar 1) (pur (.str "base")))) (sVar 5)) sNil)))
  (sIfS (sTst (sOp (sCmp eqD) (sVar 3) (pur (.str "own"))))
  (sSeq (sAsg (sAdd (sVar 7) (sVar 8)) (gNm 9))
  (sSeq (sIfS (tfAnd (sTst (sOp (sCmp ltD) (sVar 8) (sVar 4))) (sTst (sOp (sCmp (inDic false)) (sVar 9) (sDGet (sVar 1) (pur (.str "clocks"))))))
  (sSeq (sExpr (sDPop (sDGet (sVar 1) (pur (.str "clocks"))) (sVar 9)))
  (sExpr (sAppend (sDGet (sVar 1) (pur (.str "answered"))) (sVar 9))))
  sSkip)
  (sWhile (sTst (sOp (sCmp inY) (sDGet (sVar 1) (pur (.str "base"))) (sDGet (sVar 1) (pur (.str "answered")))))
  L__law_hear_1 fuel8)))
  (sIfS (sTst (sChain leD leD (pur (.int 1)) (sVar 8) (sSub (sDGet (sVar 1) (pur (.str "sent"))) (sVar 7))))
  (sSeq (sAsg (sAdd (sVar 7) (sVar 8)) (gDix (sVar 1) (pur (.str "base"))))
  (sSeq (sAsg (sMax2 (sCons (sDGet (sVar 1) (pur (.str "next"))) (sCons (sAdd (sVar 7) (sVar 8)) sNil))) (gDix (sVar 1) (pur (.str "next"))))
  (sAsg (sTup (sCons (pur (.int 0)) (sCons (pur (.bl false)) sNil))) (gTp 2 (gsCons (gDix (sVar 1) (pur (.str "clock"))) (gsCons (gDix (sVar 1) (pur (.str "mark"))) gsNil))))))
  (sIfS (tfAnd (sTst (sOp (sCmp eqD) (sVar 3) (pur (.str "quick")))) (tfAnd (sTst (sOp (sCmp eqD) (sVar 8) (pur (.int 0)))) (sTst (sOp (sCmp gtD) (sDGet (sVar 1) (pur (.str "sent"))) (sVar 7)))))
  (sSeq (sIfS (sTst (sDGet (sVar 1) (pur (.str "mark"))))
  (sAsg (sTup (sCons (sVar 7) (sCons (pur (.int 0)) sNil))) (gTp 2 (gsCons (gDix (sVar 1) (pur (.str "next"))) (gsCons (gDix (sVar 1) (pur (.str "clock"))) gsNil))))
  sSkip)
  (sAsg (sNot (sDGet (sVar 1) (pur (.str "mark")))) (gDix (sVar 1) (pur (.str "mark")))))
  sSkip)))))
def g__law_hear : List D → Hp8 → Option (Res D × Hp8) := id (runF 10 3 b__law_hear)
def L__law_send_1 : SF := (sAsg (sMin2 (sCons (sVar 5) (sCons (sAdd (sDGet (sVar 9) (sVar 13)) (pur (.int 1))) sNil))) (gDix (sVar 9) (sVar 13)))
def b__law_send : SF := (sSeq (sAsg (sVar 0) (gTp 4 (gsCons (gNm 2) (gsCons (gNm 3) (gsCons (gNm 4) (gsCons (gNm 5) gsNil))))))
  (sSeq (sAsg (sDGet (sVar 1) (pur (.str "base"))) (gNm 6))
  (sSeq (sIfS (sTst (sOp (sCmp eqD) (sVar 2) (pur (.str "own"))))
  (sSeq (sAsg (sLc (sIt (sSortD (sCons (sDGet (sVar 1) (pur (.str "clocks"))) sNil))) (.nm 13) (sTst (sOp (sCmp eqD) (sDGet (sDGet (sVar 1) (pur (.str "clocks"))) (sVar 13)) (sVar 5))) (sVar 13) [13]) (gNm 7))
  (sSeq (sAsg (sLc (sRng1 (sCons (sVar 3) sNil)) (.nm 14) tfYes (sAdd (sVar 6) (sVar 14)) [14]) (gNm 8))
  (sSeq (sAsg (sTup (sCons (sDGet (sVar 1) (pur (.str "clocks"))) (sCons (sDGet (sVar 1) (pur (.str "answered"))) sNil))) (gTp 2 (gsCons (gNm 9) (gsCons (gNm 10) gsNil))))
  (sSeq (sAsg (sLc (sIt (sVar 8)) (.nm 13) (tfAnd (sTst (sOp (sCmp (inDic true)) (sVar 13) (sVar 9))) (sTst (sOp (sCmp inN) (sVar 13) (sVar 10)))) (sVar 13) [13]) (gNm 11))
  (sSeq (sAsg (sIx (sAdd (sAdd (sVar 7) (sVar 11)) (sLst (sCons (pur .non) sNil))) (pur (.int 0))) (gNm 12))
  (sSeq (sFor (sIt (sSortD (sCons (sVar 9) sNil))) (gNm 13)
  L__law_send_1)
  (sSeq (sIfS (sTst (sOp (sCmp isNotD) (sVar 12) (pur .non)))
  (sAsg (pur (.int 1)) (gDix (sVar 9) (sVar 12)))
  sSkip)
  (sRet (sVar 12)))))))))
  sSkip)
  (sSeq (sIfS (tfAnd (sTst (sOp (sCmp gtD) (sDGet (sVar 1) (pur (.str "sent"))) (sVar 6))) (sTst (sOp (sCmp eqD) (sDGet (sVar 1) (pur (.str "clock"))) (sVar 5))))
  (sAsg (sTup (sCons (sVar 6) (sCons (pur (.int 0)) sNil))) (gTp 2 (gsCons (gDix (sVar 1) (pur (.str "next"))) (gsCons (gDix (sVar 1) (pur (.str "clock"))) gsNil))))
  sSkip)
  (sSeq (sAsg (sIf (sTst (sOp (sCmp ltD) (sDGet (sVar 1) (pur (.str "next"))) (sAdd (sVar 6) (sVar 3)))) (sDGet (sVar 1) (pur (.str "next"))) (pur .non)) (gNm 12))
  (sSeq (sIfS (sTst (sOp (sCmp isNotD) (sVar 12) (pur .non)))
  (sSeq (sAsg (sAdd (sVar 12) (pur (.int 1))) (gDix (sVar 1) (pur (.str "next"))))
  (sAsg (sMax2 (sCons (sDGet (sVar 1) (pur (.str "sent"))) (sCons (sAdd (sVar 12) (pur (.int 1))) sNil))) (gDix (sVar 1) (pur (.str "sent")))))
  sSkip)
  (sSeq (sIfS (sTst (sOp (sCmp gtD) (sDGet (sVar 1) (pur (.str "sent"))) (sVar 6)))
  (sAugDic (sVar 1) (pur (.str "clock")) (pur (.int 1)))
  sSkip)
  (sRet (sVar 12)))))))))
def g__law_send : List D → Hp8 → Option (Res D × Hp8) := id (runF 15 2 b__law_send)
def b__law_tick : SF := (sSeq (sAsg (sCallD g__law_copy (sCons (sVar 1) sNil)) (gLs 4 (gsCons (gNm 3) (gsCons (gNm 4) (gsCons (gNm 5) (gsCons (gNm 6) gsNil))))))
  (sSeq (sAsg (sPopAt (sVar 6) (pur (.int 0))) (gNm 7))
  (sSeq (sIfS (sTst (sOp (sCmp isNotD) (sVar 7) (pur .non)))
  (sExpr (sCallD g__law_hear (sCons (sVar 0) (sCons (sVar 3) (sCons (sVar 7) sNil)))))
  sSkip)
  (sSeq (sAsg (sIf (sTst (sOp (sCmp eqD) (sIx (sVar 0) (pur (.int 0))) (pur (.str "own")))) (sSortD (sCons (sDGet (sVar 3) (pur (.str "clocks"))) sNil)) (sListRng2 (sDGet (sVar 3) (pur (.str "base"))) (sDGet (sVar 3) (pur (.str "sent"))))) (gNm 8))
  (sSeq (sAsg (sCallD g__law_send (sCons (sVar 0) (sCons (sVar 3) sNil))) (gNm 9))
  (sSeq (sExpr (sAppend (sVar 5) (sIf (sTst (sOp (sCmp inY) (sVar 2) (sTup (sCons (pur (.str "frame")) (sCons (pur (.str "both")) sNil))))) (pur .non) (sVar 9))))
  (sSeq (sAsg (sTup (sCons (sPopAt (sVar 5) (pur (.int 0))) (sCons (sLst sNil) (sCons (pur .non) (sCons (sDGet (sVar 4) (pur (.str "wants"))) sNil))))) (gTp 4 (gsCons (gNm 10) (gsCons (gNm 11) (gsCons (gNm 12) (gsCons (gNm 13) gsNil))))))
  (sSeq (sIfS (sTst (sOp (sCmp isNotD) (sVar 10) (pur .non)))
  (sAsg (sCallD g__law_get (sCons (sVar 0) (sCons (sVar 4) (sCons (sVar 10) sNil)))) (gTp 2 (gsCons (gNm 11) (gsCons (gNm 12) gsNil))))
  sSkip)
  (sSeq (sExpr (sAppend (sVar 6) (sIf (sTst (sOp (sCmp inY) (sVar 2) (sTup (sCons (pur (.str "answer")) (sCons (pur (.str "both")) sNil))))) (pur .non) (sVar 12))))
  (sSeq (sAsg (sOp (sCmp eqD) (sVar 11) (sLc (sRng1 (sCons (sLen (sCons (sVar 11) sNil)) sNil)) (.nm 16) tfYes (sAdd (sVar 13) (sVar 16)) [16])) (gNm 14))
  (sSeq (sAsg (sTup (sCons (sIf (sTst (sOp (sCmp isD) (sVar 9) (pur .non))) (pur .non) (sMod (sVar 9) (sIx (sVar 0) (pur (.int 2))))) (sCons (sVar 12) sNil))) (gNm 15))
  (sRet (sTup (sCons (sLst (sCons (sVar 3) (sCons (sVar 4) (sCons (sVar 5) (sCons (sVar 6) sNil))))) (sCons (sVar 15) (sCons (sVar 11) (sCons (sVar 14) (sCons (sOp (sCmp inY) (sVar 9) (sVar 8)) sNil))))))))))))))))))
def g__law_tick : List D → Hp8 → Option (Res D × Hp8) := id (runF 17 3 b__law_tick)
def L__law_play_1 : SF := (sSeq (sAsg (sCallD g__law_tick (sCons (sVar 1) (sCons (sVar 3) (sCons (sVar 5) sNil)))) (gTp 5 (gsCons (gNm 3) (gsCons (gNm 6) (gsCons (gNm 7) (gsCons (gNm 8) (gsCons (gNm 9) gsNil)))))))
  (sExpr (sAppend (sVar 4) (sTup (sCons (sVar 6) (sCons (sVar 7) (sCons (sVar 9) sNil)))))))
def b__law_play : SF := (sSeq (sPar2 3 4 (sCons (sCallD g__law_begin (sCons (sVar 0) sNil)) (sCons (sLstC sNil) sNil)))
  (sSeq (sFor (sIt (sVar 2)) (gNm 5)
  L__law_play_1)
  (sRet (sVar 4))))
def g__law_play : List D → Hp8 → Option (Res D × Hp8) := pureGd (runF 10 3 b__law_play)
end R

namespace R
open PySem L2 PyProof.Rows HI
open C (mx)
/-! the reference's ends: senders that go back -/
def sd (base next sent clock : Int) (mark : Bool) (c a : Nat) : List (Key × D) := [(.inr "base", .int base), (.inr "next", .int next), (.inr "sent", .int sent), (.inr "clock", .int clock), (.inr "mark", .bl mark), (.inr "clocks", .ref c), (.inr "answered", .ref a)]
def rd0 (wants : Int) (k : Nat) : List (Key × D) := [(.inr "wants", .int wants), (.inr "kept", .ref k)]
section
variable {base next sent clock x : Int} {mark b : Bool} {c a k : Nat} {wants : Int}
theorem sd_base : valD (sd base next sent clock mark c a) (.inr "base") = some (.int base) := rfl
theorem sd_next : valD (sd base next sent clock mark c a) (.inr "next") = some (.int next) := rfl
theorem sd_sent : valD (sd base next sent clock mark c a) (.inr "sent") = some (.int sent) := rfl
theorem sd_clock : valD (sd base next sent clock mark c a) (.inr "clock") = some (.int clock) := rfl
theorem sd_mark : valD (sd base next sent clock mark c a) (.inr "mark") = some (.bl mark) := rfl
theorem sd_clocks : valD (sd base next sent clock mark c a) (.inr "clocks") = some (.ref c) := rfl
theorem sd_answered : valD (sd base next sent clock mark c a) (.inr "answered") = some (.ref a) := rfl
theorem sp_base : putD (sd base next sent clock mark c a) (.inr "base") (.int x) = sd x next sent clock mark c a := rfl
theorem sp_next : putD (sd base next sent clock mark c a) (.inr "next") (.int x) = sd base x sent clock mark c a := rfl
theorem sp_sent : putD (sd base next sent clock mark c a) (.inr "sent") (.int x) = sd base next x clock mark c a := rfl
theorem sp_clock : putD (sd base next sent clock mark c a) (.inr "clock") (.int x) = sd base next sent x mark c a := rfl
theorem sp_mark : putD (sd base next sent clock mark c a) (.inr "mark") (.bl b) = sd base next sent clock b c a := rfl
theorem sp_clocks {c' : Nat} : putD (sd base next sent clock mark c a) (.inr "clocks") (.ref c') = sd base next sent clock mark c' a := rfl
theorem sp_answered {a' : Nat} : putD (sd base next sent clock mark c a) (.inr "answered") (.ref a') = sd base next sent clock mark c a' := rfl
theorem rd_wants : valD (rd0 wants k) (.inr "wants") = some (.int wants) := rfl
theorem rd_kept : valD (rd0 wants k) (.inr "kept") = some (.ref k) := rfl
theorem rp_wants : putD (rd0 wants k) (.inr "wants") (.int x) = rd0 x k := rfl
theorem rp_kept {k' : Nat} : putD (rd0 wants k) (.inr "kept") (.ref k') = rd0 wants k' := rfl
theorem sd_len : (sd base next sent clock mark c a).length < 1000000 := by simp [sd]
theorem rd_len : (rd0 wants k).length < 1000000 := by simp [rd0]
end
/-! evaluation -/
def gdicK (x : Option (Nat × List (Key × D))) (k : Option Key) : Option D := match x, k with
  | some (_, kvs), some k => valD kvs k
  | _, _ => none
theorem e_getDic {x y : D} {hp : Hp8} : getDic x y hp = gdicK (dicOf hp x) (keyD y) := rfl
theorem gdicK_s {n : Nat} {kvs : List (Key × D)} {k : Key} : gdicK (some (n, kvs)) (some k) = valD kvs k := rfl
def gdK1 (fi : EF) (d : D) (env : Env8) (r : Option (Res D × Hp8)) : Option (Env8 × Hp8) := match r with
  | some (.ok o, hp1) => match fi env hp1 with
    | some (.ok i, hp2) => match setDic o i d hp2 with
      | some (n, kvs) => some (env, hp2.set n (.dic kvs))
      | none => none
    | _ => none
  | _ => none
def gdK2 (o : D) (d : D) (env : Env8) (r : Option (Res D × Hp8)) : Option (Env8 × Hp8) := match r with
    | some (.ok i, hp2) => match setDic o i d hp2 with
      | some (n, kvs) => some (env, hp2.set n (.dic kvs))
      | none => none
    | _ => none
def gdK3 (d : D) (env : Env8) (hp : Hp8) (x : Option (Nat × List (Key × D))) (k : Option Key) : Option (Env8 × Hp8) := match x, k with
  | some (n, kvs), some k => if kvs.length < 1000000 then some (env, hp.set n (.dic (putD kvs k d))) else none
  | _, _ => none
theorem e_gDix {fo fi : EF} {d : D} {env : Env8} {hp : Hp8} : gDix fo fi d env hp = gdK1 fi d env (fo env hp) := rfl
theorem gdK1_ok {fi : EF} {d o : D} {env : Env8} {hp : Hp8} : gdK1 fi d env (some (.ok o, hp)) = gdK2 o d env (fi env hp) := rfl
theorem gdK2_ok {d o i : D} {env : Env8} {hp : Hp8} : gdK2 o d env (some (.ok i, hp)) = gdK3 d env hp (dicOf hp o) (keyD i) := by
  show (match setDic o i d hp with | some (n, kvs) => some (env, hp.set n (.dic kvs)) | none => none) = _
  cases h1 : dicOf hp o with
  | none => have e : setDic o i d hp = none := by simp [setDic, h1]
            rw [e]; rfl
  | some q =>
    obtain ⟨n, kvs⟩ := q
    cases h2 : keyD i with
    | none => have e : setDic o i d hp = none := by simp [setDic, h2]
              rw [e]; rfl
    | some k =>
      by_cases h3 : kvs.length < 1000000
      · have e : setDic o i d hp = some (n, putD kvs k d) := by simp [setDic, h1, h2, h3]
        rw [e]; simp [gdK3, h3]
      · have e : setDic o i d hp = none := by simp [setDic, h1, h2, h3]
        rw [e]; simp [gdK3, h3]
theorem gdK3_s {d : D} {env : Env8} {hp : Hp8} {n : Nat} {kvs : List (Key × D)} {k : Key} : gdK3 d env hp (some (n, kvs)) (some k) = if kvs.length < 1000000 then some (env, hp.set n (.dic (putD kvs k d))) else none := rfl
def adK (z : Option D) (env : Env8) (hp : Hp8) (x : Option (Nat × List (Key × D))) (k : Option Key) : Option (Fl × Env8 × Hp8) := match z, x, k with
  | some z, some (n, kvs), some k => if kvs.length < 1000000 then some (.nx, env, hp.set n (.dic (putD kvs k z))) else none
  | _, _, _ => none
theorem e_augDicK {o i x y : D} {env : Env8} {hp : Hp8} : augDicK o i x y env hp = adK (ipD .Add x y) env hp (dicOf hp o) (keyD i) := rfl
theorem adK_s {z : D} {env : Env8} {hp : Hp8} {n : Nat} {kvs : List (Key × D)} {k : Key} : adK (some z) env hp (some (n, kvs)) (some k) = if kvs.length < 1000000 then some (.nx, env, hp.set n (.dic (putD kvs k z))) else none := rfl
theorem e_sAugDic {fo fi fe : EF} {env : Env8} {hp : Hp8} : sAugDic fo fi fe env hp = eK (fo env hp) (fun o => sE fi fun i => sE (rd fun hp => getDic o i hp) fun x => sE fe fun y => augDicK o i x y) env := rfl
theorem ipA_i {i j : Int} : ipD .Add (.int i) (.int j) = some (.int (i + j)) := rfl
def par2K (i j : Nat) (env : Env8) (r : Option (Res (List D) × Hp8)) : Option (Fl × Env8 × Hp8) := eK r (fun ds env hp => match ds with
  | [x, y] => some (.nx, (env.set i (some x)).set j (some y), hp)
  | _ => none) env
theorem e_sPar2 {i j : Nat} {fA : AF} {env : Env8} {hp : Hp8} : sPar2 i j fA env hp = par2K i j env (fA env hp) := rfl
theorem par2K_s {i j : Nat} {env : Env8} {hp : Hp8} {x y : D} : par2K i j env (some (.ok [x, y], hp)) = some (.nx, (env.set i (some x)).set j (some y), hp) := rfl
theorem gs_at {hp : Hp8} {n : Nat} {x y : Cell} (h : hp[n]? = some x) : (hp.set n y)[n]? = some y := by
  have hl : n < hp.length := (List.getElem?_eq_some_iff.mp h).1
  simp [hl]
theorem set_same {hp : Hp8} {n : Nat} {x : Cell} (h : hp[n]? = some x) : hp.set n x = hp := by
  obtain ⟨hl, e⟩ := List.getElem?_eq_some_iff.mp h
  subst e
  exact List.set_getElem_self hl
theorem qo : ((Str.ofString "quick" : Str) = Str.ofString "own") = False := by simp only [eq_iff_iff, iff_false]; decide
/-- what an answer makes of such a sender -/
structure SB where
  base : Int
  next : Int
  sent : Int
  clock : Int
  mark : Bool
def sdc (s : SB) (c a : Nat) : Cell := .dic (sd s.base s.next s.sent s.clock s.mark c a)
def hearR (q : Bool) (n : Int) (s : SB) (ans : Int) : SB :=
  let k := (ans - s.base) % n
  if 1 ≤ k ∧ k ≤ s.sent - s.base then ⟨s.base + k, mx s.next (s.base + k), s.sent, 0, false⟩
  else if q = true ∧ k = 0 ∧ s.base < s.sent then (if s.mark then ⟨s.base, s.base, s.sent, 0, false⟩ else ⟨s.base, s.next, s.sent, s.clock, true⟩)
  else s
theorem hearR_ok {y : Way} (hn : 0 < y.n) (ho : y.kind ≠ "own") {s : SB} {c a n : Nat} {ans : Int} {hp : Hp8} (h : hp[n]? = some (sdc s c a)) : g__law_hear [wayD y, .ref n, .int ans] hp = some (.ok .non, hp.set n (sdc (hearR (y.kind == "quick") y.n s ans) c a)) := by
  have hl : n < hp.length := (List.getElem?_eq_some_iff.mp h).1
  unfold sdc at h
  show id (runF 10 3 b__law_hear) _ hp = _
  have ho' : (y.kind == "own") = false := by simpa using ho
  simp only [id]
  by_cases h1 : 1 ≤ (ans - s.base) % y.n
  · by_cases h2 : (ans - s.base) % y.n ≤ s.sent - s.base
    · simp [b__law_hear, hearR, sdc, ho, hn, h1, h2, e_runF, wayD, e_getDic, gdicK_s, e_gDix, gdK1_ok, gdK2_ok, gdK3_s, e_sAugDic, e_augDicK, adK_s, ipA_i, e_sPar2, par2K_s, h, gs_at h, set_same h, qo, sd_base, sd_next, sd_sent, sd_clock, sd_mark, sp_base, sp_next, sp_sent, sp_clock, sp_mark, sd_len, rd_wants, rd_kept, rp_wants, rd_len, -e_maxI, e_mx]
    · have h3 : (ans - s.base) % y.n ≠ 0 := by omega
      by_cases h4 : y.kind = "quick" <;> simp [b__law_hear, hearR, sdc, ho, hn, h1, h2, h3, h4, e_runF, wayD, e_getDic, gdicK_s, e_gDix, gdK1_ok, gdK2_ok, gdK3_s, e_sAugDic, e_augDicK, adK_s, ipA_i, e_sPar2, par2K_s, h, gs_at h, set_same h, qo, sd_base, sd_next, sd_sent, sd_clock, sd_mark, sp_base, sp_next, sp_sent, sp_clock, sp_mark, sd_len, rd_wants, rd_kept, rp_wants, rd_len, -e_maxI, e_mx]
  · by_cases h4 : y.kind = "quick"
    · by_cases h3 : (ans - s.base) % y.n = 0
      · by_cases h5 : s.base < s.sent
        · by_cases h6 : s.mark = true <;> simp [b__law_hear, hearR, sdc, ho, hn, h1, h3, h4, h5, h6, e_runF, wayD, e_getDic, gdicK_s, e_gDix, gdK1_ok, gdK2_ok, gdK3_s, e_sAugDic, e_augDicK, adK_s, ipA_i, e_sPar2, par2K_s, h, gs_at h, set_same h, qo, sd_base, sd_next, sd_sent, sd_clock, sd_mark, sp_base, sp_next, sp_sent, sp_clock, sp_mark, sd_len, rd_wants, rd_kept, rp_wants, rd_len, -e_maxI, e_mx]
        · simp [b__law_hear, hearR, sdc, ho, hn, h1, h3, h4, h5, e_runF, wayD, e_getDic, gdicK_s, e_gDix, gdK1_ok, gdK2_ok, gdK3_s, e_sAugDic, e_augDicK, adK_s, ipA_i, e_sPar2, par2K_s, h, gs_at h, set_same h, qo, sd_base, sd_next, sd_sent, sd_clock, sd_mark, sp_base, sp_next, sp_sent, sp_clock, sp_mark, sd_len, rd_wants, rd_kept, rp_wants, rd_len, -e_maxI, e_mx]
      · simp [b__law_hear, hearR, sdc, ho, hn, h1, h3, h4, e_runF, wayD, e_getDic, gdicK_s, e_gDix, gdK1_ok, gdK2_ok, gdK3_s, e_sAugDic, e_augDicK, adK_s, ipA_i, e_sPar2, par2K_s, h, gs_at h, set_same h, qo, sd_base, sd_next, sd_sent, sd_clock, sd_mark, sp_base, sp_next, sp_sent, sp_clock, sp_mark, sd_len, rd_wants, rd_kept, rp_wants, rd_len, -e_maxI, e_mx]
    · simp [b__law_hear, hearR, sdc, ho, hn, h1, h4, e_runF, wayD, e_getDic, gdicK_s, e_gDix, gdK1_ok, gdK2_ok, gdK3_s, e_sAugDic, e_augDicK, adK_s, ipA_i, e_sPar2, par2K_s, h, gs_at h, set_same h, qo, sd_base, sd_next, sd_sent, sd_clock, sd_mark, sp_base, sp_next, sp_sent, sp_clock, sp_mark, sd_len, rd_wants, rd_kept, rp_wants, rd_len, -e_maxI, e_mx]
def sendR (w t : Int) (s : SB) : Option Int × SB :=
  let s1 : SB := if s.base < s.sent ∧ s.clock = t then ⟨s.base, s.base, s.sent, 0, s.mark⟩ else s
  let s2 : SB := if s1.next < s1.base + w then ⟨s1.base, s1.next + 1, mx s1.sent (s1.next + 1), s1.clock, s1.mark⟩ else s1
  let f : Option Int := if s1.next < s1.base + w then some s1.next else none
  (f, if s2.base < s2.sent then ⟨s2.base, s2.next, s2.sent, s2.clock + 1, s2.mark⟩ else s2)
theorem sendR_ok {y : Way} (ho : y.kind ≠ "own") {s : SB} {c a n : Nat} {hp : Hp8} (h : hp[n]? = some (sdc s c a)) : g__law_send [wayD y, .ref n] hp = some (.ok (oD (sendR y.w y.t s).1), hp.set n (sdc (sendR y.w y.t s).2 c a)) := by
  have hl : n < hp.length := (List.getElem?_eq_some_iff.mp h).1
  unfold sdc at h
  show id (runF 15 2 b__law_send) _ hp = _
  simp only [id]
  by_cases h1 : s.base < s.sent
  · by_cases h2 : s.clock = y.t
    · by_cases h3 : s.base < s.base + y.w
      · by_cases h4 : s.base < mx s.sent (s.base + 1) <;> simp [b__law_send, sendR, sdc, oD, ho, h1, h2, h3, h4, e_runF, wayD, e_getDic, gdicK_s, e_gDix, gdK1_ok, gdK2_ok, gdK3_s, e_sAugDic, e_augDicK, adK_s, ipA_i, e_sPar2, par2K_s, h, gs_at h, set_same h, qo, sd_base, sd_next, sd_sent, sd_clock, sd_mark, sp_base, sp_next, sp_sent, sp_clock, sp_mark, sd_len, rd_wants, rd_kept, rp_wants, rd_len, -e_maxI, e_mx]
      · simp [b__law_send, sendR, sdc, oD, ho, h1, h2, h3, e_runF, wayD, e_getDic, gdicK_s, e_gDix, gdK1_ok, gdK2_ok, gdK3_s, e_sAugDic, e_augDicK, adK_s, ipA_i, e_sPar2, par2K_s, h, gs_at h, set_same h, qo, sd_base, sd_next, sd_sent, sd_clock, sd_mark, sp_base, sp_next, sp_sent, sp_clock, sp_mark, sd_len, rd_wants, rd_kept, rp_wants, rd_len, -e_maxI, e_mx]
    · by_cases h3 : s.next < s.base + y.w
      · by_cases h4 : s.base < mx s.sent (s.next + 1) <;> simp [b__law_send, sendR, sdc, oD, ho, h1, h2, h3, h4, e_runF, wayD, e_getDic, gdicK_s, e_gDix, gdK1_ok, gdK2_ok, gdK3_s, e_sAugDic, e_augDicK, adK_s, ipA_i, e_sPar2, par2K_s, h, gs_at h, set_same h, qo, sd_base, sd_next, sd_sent, sd_clock, sd_mark, sp_base, sp_next, sp_sent, sp_clock, sp_mark, sd_len, rd_wants, rd_kept, rp_wants, rd_len, -e_maxI, e_mx]
      · simp [b__law_send, sendR, sdc, oD, ho, h1, h2, h3, e_runF, wayD, e_getDic, gdicK_s, e_gDix, gdK1_ok, gdK2_ok, gdK3_s, e_sAugDic, e_augDicK, adK_s, ipA_i, e_sPar2, par2K_s, h, gs_at h, set_same h, qo, sd_base, sd_next, sd_sent, sd_clock, sd_mark, sp_base, sp_next, sp_sent, sp_clock, sp_mark, sd_len, rd_wants, rd_kept, rp_wants, rd_len, -e_maxI, e_mx]
  · by_cases h3 : s.next < s.base + y.w
    · by_cases h4 : s.base < mx s.sent (s.next + 1) <;> simp [b__law_send, sendR, sdc, oD, ho, h1, h3, h4, e_runF, wayD, e_getDic, gdicK_s, e_gDix, gdK1_ok, gdK2_ok, gdK3_s, e_sAugDic, e_augDicK, adK_s, ipA_i, e_sPar2, par2K_s, h, gs_at h, set_same h, qo, sd_base, sd_next, sd_sent, sd_clock, sd_mark, sp_base, sp_next, sp_sent, sp_clock, sp_mark, sd_len, rd_wants, rd_kept, rp_wants, rd_len, -e_maxI, e_mx]
    · simp [b__law_send, sendR, sdc, oD, ho, h1, h3, e_runF, wayD, e_getDic, gdicK_s, e_gDix, gdK1_ok, gdK2_ok, gdK3_s, e_sAugDic, e_augDicK, adK_s, ipA_i, e_sPar2, par2K_s, h, gs_at h, set_same h, qo, sd_base, sd_next, sd_sent, sd_clock, sd_mark, sp_base, sp_next, sp_sent, sp_clock, sp_mark, sd_len, rd_wants, rd_kept, rp_wants, rd_len, -e_maxI, e_mx]
def getR (n wants letter : Int) : List Int × Int × Int := if (letter - wants) % n = 0 then ([letter], (wants + 1) % n, wants + 1) else ([], wants % n, wants)
theorem set_app {hp : Hp8} {n : Nat} {x y : Cell} (hl : n < hp.length) : (hp ++ [x]).set n y = hp.set n y ++ [x] := by rw [List.set_append_left _ _ hl]
theorem getR_ok {y : Way} (hn : 0 < y.n) (ho : y.kind ≠ "own") {wants letter : Int} {k n : Nat} {hp : Hp8} (h : hp[n]? = some (.dic (rd0 wants k))) : g__law_get [wayD y, .ref n, .int letter] hp = some (.ok (.tup [.ref hp.length, .int (getR y.n wants letter).2.1]), hp.set n (.dic (rd0 (getR y.n wants letter).2.2 k)) ++ [.lst ((getR y.n wants letter).1.map .int)]) := by
  have hl : n < hp.length := (List.getElem?_eq_some_iff.mp h).1
  show id (runF 10 3 b__law_get) _ hp = _
  simp only [id]
  have h0 : (hp ++ [Cell.lst []])[n]? = some (.dic (rd0 wants k)) := by rw [List.getElem?_append_left hl]; exact h
  have h9 : ∀ x : Cell, (hp ++ [x])[n]? = some (.dic (rd0 wants k)) := fun x => by rw [List.getElem?_append_left hl]; exact h
  have h10 : ∀ x z : Cell, (hp.set n z ++ [x])[n]? = some z := fun x z => by rw [List.getElem?_append_left (by simpa using hl)]; exact gs_at h
  by_cases h1 : (letter - wants) % y.n = 0
  · simp [b__law_get, getR, ho, hn, h1, h9, h10, set_app hl, e_runF, wayD, e_getDic, gdicK_s, e_gDix, gdK1_ok, gdK2_ok, gdK3_s, e_sAugDic, e_augDicK, adK_s, ipA_i, e_sPar2, par2K_s, h, gs_at h, set_same h, qo, sd_base, sd_next, sd_sent, sd_clock, sd_mark, sp_base, sp_next, sp_sent, sp_clock, sp_mark, sd_len, rd_wants, rd_kept, rp_wants, rd_len, -e_maxI, e_mx]
  · simp [b__law_get, getR, ho, hn, h1, h9, h10, set_app hl, e_runF, wayD, e_getDic, gdicK_s, e_gDix, gdK1_ok, gdK2_ok, gdK3_s, e_sAugDic, e_augDicK, adK_s, ipA_i, e_sPar2, par2K_s, h, gs_at h, set_same h, qo, sd_base, sd_next, sd_sent, sd_clock, sd_mark, sp_base, sp_next, sp_sent, sp_clock, sp_mark, sd_len, rd_wants, rd_kept, rp_wants, rd_len, -e_maxI, e_mx]
end R

namespace R
open PySem L2 PyProof.Rows HI
open C (mx)
/-! heaps that grow -/
theorem ga_old {hp : Hp8} {m : Nat} {x : Cell} {l : List Cell} (h : hp[m]? = some x) : (hp ++ l)[m]? = some x := by
  rw [List.getElem?_append_left (List.getElem?_eq_some_iff.mp h).1]; exact h
theorem ga_n0 {hp : Hp8} {l : List Cell} : (hp ++ l)[hp.length]? = l[0]? := by rw [List.getElem?_append_right (Nat.le_refl _)]; simp
theorem ga_ni {hp : Hp8} {l : List Cell} {i : Nat} : (hp ++ l)[hp.length + i]? = l[i]? := by rw [List.getElem?_append_right (by omega)]; congr 1; omega
theorem gs_n0 {hp : Hp8} {l : List Cell} {x : Cell} : (hp ++ l).set hp.length x = hp ++ l.set 0 x := by rw [List.set_append_right _ _ (Nat.le_refl _)]; simp
theorem gs_ni {hp : Hp8} {l : List Cell} {i : Nat} {x : Cell} : (hp ++ l).set (hp.length + i) x = hp ++ l.set i x := by rw [List.set_append_right _ _ (by omega)]; congr 2; omega
theorem seqOf_app {hp : Hp8} {d : D} {xs : List D} {l : List Cell} (h : seqOf hp d = some xs) : seqOf (hp ++ l) d = some xs := by
  cases d with
  | ref n =>
    have h : (match hp[n]? with | some (.lst ds) => some ds | _ => none) = some xs := h
    show (match (hp ++ l)[n]? with | some (.lst ds) => some ds | _ => none) = some xs
    cases e : hp[n]? with
    | none => rw [e] at h; cases h
    | some c => rw [ga_old e]; rw [e] at h; exact h
  | _ => exact h
def dcK (hp : Hp8) (x : Option (Nat × List (Key × D))) : Option (Res D × Hp8) := match x with
    | some (_, kvs) => some (.ok (.ref hp.length), hp ++ [.dic kvs])
    | none => none
theorem e_sDicC {fA : AF} {env : Env8} {hp : Hp8} : sDicC fA env hp = bndK (fA env hp) gDicC env := rfl
theorem e_gDicC {d : D} {env : Env8} {hp : Hp8} : gDicC [d] env hp = dcK hp (dicOf hp d) := rfl
theorem dcK_s {hp : Hp8} {n : Nat} {kvs : List (Key × D)} : dcK hp (some (n, kvs)) = some (.ok (.ref hp.length), hp ++ [.dic kvs]) := rfl
def lsCK (hp : Hp8) (x : Option (List D)) : Option (Res D × Hp8) := match x with
    | some xs => some (.ok (.ref hp.length), hp ++ [.lst xs])
    | none => none
theorem e_sListC {fA : AF} {env : Env8} {hp : Hp8} : sListC fA env hp = bndK (fA env hp) gListC env := rfl
theorem e_gListC {d : D} {env : Env8} {hp : Hp8} : gListC [d] env hp = lsCK hp (seqOf hp d) := rfl
theorem lsCK_s {hp : Hp8} {xs : List D} : lsCK hp (some xs) = some (.ok (.ref hp.length), hp ++ [.lst xs]) := rfl
theorem seqOf_ref {hp : Hp8} {n : Nat} {xs : List D} (h : hp[n]? = some (.lst xs)) : seqOf hp (.ref n) = some xs := by
  show (match hp[n]? with | some (.lst ds) => some ds | _ => none) = some xs
  rw [h]
/-- a state of the reference in the heap -/
structure StAt (x : Nat) (hp : Hp8) (d : D) (sc : Nat → Nat → Cell) (rc : Nat → Cell) (ck : List (Key × D)) (aw : List D) (kp : List (Key × D)) (fr an : List D) : Prop where
  ex : ∃ s r c a k fd ad, d = .lst [.ref s, .ref r, fd, ad] ∧ hp[s]? = some (sc c a) ∧ hp[r]? = some (rc k) ∧ hp[c]? = some (.dic ck) ∧ hp[a]? = some (.lst aw) ∧ hp[k]? = some (.dic kp) ∧ seqOf hp fd = some fr ∧ seqOf hp ad = some an ∧ s ≠ x ∧ r ≠ x ∧ c ≠ x ∧ a ≠ x ∧ k ≠ x ∧ fd ≠ .ref x ∧ ad ≠ .ref x
def news (hp : Hp8) (s : SB) (wants : Int) (ck : List (Key × D)) (aw : List D) (kp : List (Key × D)) (fr an : List D) : List Cell := [sdc s (hp.length + 2) (hp.length + 3), .dic (rd0 wants (hp.length + 4)), .dic ck, .lst aw, .dic kp, .lst fr, .lst an]
theorem copy_ok {x : Nat} {hp : Hp8} {d : D} {s : SB} {wants : Int} {ck : List (Key × D)} {aw : List D} {kp : List (Key × D)} {fr an : List D} (h : StAt x hp d (sdc s) (fun k => .dic (rd0 wants k)) ck aw kp fr an) :
    g__law_copy [d] hp = some (.ok (.lst [.ref hp.length, .ref (hp.length + 1), .ref (hp.length + 5), .ref (hp.length + 6)]), hp ++ news hp s wants ck aw kp fr an) := by
  obtain ⟨i, r, c, a, k, fd, ad, rfl, h1, h2, h3, h4, h5, h6, h7, _⟩ := h.ex
  show id (runF 3 1 b__law_copy) _ hp = _
  unfold sdc at h1
  simp only [id]
  simp [b__law_copy, news, sdc, e_runF, e_getDic, gdicK_s, e_gDix, gdK1_ok, gdK2_ok, gdK3_s, e_sPar2, par2K_s, e_sDicC, e_gDicC, dcK_s, e_sListC, e_gListC, lsCK_s, h1, ga_old h1, ga_old h2, ga_old h3, ga_old h4, ga_old h5, ga_n0, ga_ni, gs_n0, gs_ni, seqOf_ref (ga_old h4), seqOf_app h6, seqOf_app h7, sd_clocks, sd_answered, sp_clocks, sp_answered, sd_len, rd_kept, rp_kept, rd_len]
theorem gset_ne {hp : Hp8} {i x : Nat} {c : Cell} (h : i ≠ x) : (hp.set x c)[i]? = hp[i]? := by
  rw [List.getElem?_set_ne (by omega)]
theorem seqOf_set {hp : Hp8} {d : D} {x : Nat} {c : Cell} (h : d ≠ .ref x) : seqOf (hp.set x c) d = seqOf hp d := by
  cases d with
  | ref n =>
    have : n ≠ x := fun e => h (by rw [e])
    show (match (hp.set x c)[n]? with | some (.lst ds) => some ds | _ => none) = (match hp[n]? with | some (.lst ds) => some ds | _ => none)
    rw [gset_ne this]
  | _ => rfl
theorem StAt.set {x : Nat} {hp : Hp8} {d : D} {sc : Nat → Nat → Cell} {rc : Nat → Cell} {ck : List (Key × D)} {aw : List D} {kp : List (Key × D)} {fr an : List D} {cl : Cell} (h : StAt x hp d sc rc ck aw kp fr an) : StAt x (hp.set x cl) d sc rc ck aw kp fr an := by
  obtain ⟨i, r, c, a, k, fd, ad, e, h1, h2, h3, h4, h5, h6, h7, n1, n2, n3, n4, n5, n6, n7⟩ := h.ex
  exact ⟨i, r, c, a, k, fd, ad, e, by rw [gset_ne n1]; exact h1, by rw [gset_ne n2]; exact h2, by rw [gset_ne n3]; exact h3, by rw [gset_ne n4]; exact h4, by rw [gset_ne n5]; exact h5, by rw [seqOf_set n6]; exact h6, by rw [seqOf_set n7]; exact h7, n1, n2, n3, n4, n5, n6, n7⟩
end R

namespace R
open PySem L2 PyProof.Rows HI
open C (mx)
theorem hear_at {y : Way} (hn : 0 < y.n) (ho : y.kind ≠ "own") {s : SB} {c a : Nat} {ans : Int} {hp : Hp8} {l : List Cell} : g__law_hear [wayD y, .ref hp.length, .int ans] (hp ++ sdc s c a :: l) = some (.ok .non, hp ++ sdc (hearR (y.kind == "quick") y.n s ans) c a :: l) := by
  rw [hearR_ok (n := hp.length) (s := s) (c := c) (a := a) hn ho (by simp [ga_n0]), gs_n0]; rfl
theorem send_at {y : Way} (ho : y.kind ≠ "own") {s : SB} {c a : Nat} {hp : Hp8} {l : List Cell} : g__law_send [wayD y, .ref hp.length] (hp ++ sdc s c a :: l) = some (.ok (oD (sendR y.w y.t s).1), hp ++ sdc (sendR y.w y.t s).2 c a :: l) := by
  rw [sendR_ok (n := hp.length) (s := s) (c := c) (a := a) ho (by simp [ga_n0]), gs_n0]; rfl
theorem get_at {y : Way} (hn : 0 < y.n) (ho : y.kind ≠ "own") {wants letter : Int} {k : Nat} {hp : Hp8} {x : Cell} {l : List Cell} : g__law_get [wayD y, .ref (hp.length + 1), .int letter] (hp ++ x :: .dic (rd0 wants k) :: l) = some (.ok (.tup [.ref (hp.length + (l.length + 2)), .int (getR y.n wants letter).2.1]), hp ++ x :: .dic (rd0 (getR y.n wants letter).2.2 k) :: (l ++ [.lst ((getR y.n wants letter).1.map .int)])) := by
  rw [getR_ok (n := hp.length + 1) (wants := wants) (k := k) hn ho (by simp [ga_ni]), gs_ni]
  simp
theorem eqD_ref {hp : Hp8} {m : Nat} {ds : List D} {es : List D} (h : hp[m]? = some (.lst ds)) : eqD (.ref m) (.lst es) hp = eqD (.lst ds) (.lst es) hp := by
  have e : toP hp (.ref m) = toP hp (.lst ds) := by
    show (match hp[m]? with | some (.lst ds) => ((toPs0 ds).map PyData.list : Option PyData) | _ => (none : Option PyData)) = _
    rw [h]; rfl
  show (match toP hp (.ref m), toP hp (.lst es) with | some p, some q => if SeqAt.shaped p && SeqAt.shaped q then some (p.eqv q) else none | _, _ => none) = (match toP hp (.lst ds), toP hp (.lst es) with | some p, some q => if SeqAt.shaped p && SeqAt.shaped q then some (p.eqv q) else none | _, _ => none)
  rw [e]
theorem plain_int' {n : Nat} {i : Int} : HI.plain n (.int i) = true := by cases n <;> rfl
theorem eqD_ints {hp : Hp8} {as bs : List Int} : ∃ b, eqD (.lst (as.map .int)) (.lst (bs.map .int)) hp = some b := by
  have p : ∀ l : List Int, HI.plain 60 (.lst (l.map .int)) = true := fun l => by
    show plains 59 (l.map .int) = true
    exact plains_map fun _ => plain_int'
  obtain ⟨b, e, _⟩ := eqD_of (hp := hp) (p as) (p bs)
  exact ⟨b, e⟩
theorem all_ints : ∀ l : List Int, (l.map D.int).all flatD = true
  | [] => rfl
  | x :: l => by simp only [List.map_cons, List.all_cons, all_ints l]; rfl
def isIn (o : Option Int) (l : List Int) : Bool := match o with
  | some i => l.contains i
  | none => false
theorem inD_oD {o : Option Int} {l : List Int} {hp : Hp8} : inD (oD o) (.lst (l.map .int)) hp = some (isIn o l) := by
  cases o with
  | none =>
    have : (l.map D.int).any (fun z => eqF z .non) = false := by
      induction l with
      | nil => rfl
      | cons x l ih => simp only [List.map_cons, List.any_cons, ih]; rfl
    show (if flatD .non && (l.map D.int).all flatD then some ((l.map D.int).any fun z => eqF z .non) else _) = _
    rw [all_ints, this]; rfl
  | some i =>
    have : (l.map D.int).any (fun z => eqF z (.int i)) = l.contains i := by
      induction l with
      | nil => rfl
      | cons x l ih =>
        simp only [List.map_cons, List.any_cons, ih, List.contains_cons]
        congr 1
        show (x == i) = (i == x)
        exact Bool.eq_iff_iff.2 ⟨fun h => by simpa using (by simpa using h : x = i).symm, fun h => by simpa using (by simpa using h : i = x).symm⟩
    show (if flatD (.int i) && (l.map D.int).all flatD then some ((l.map D.int).any fun z => eqF z (.int i)) else _) = _
    rw [all_ints, this]; rfl
def pop1 (x : D) (ds : List D) (hp : Hp8) : Option (Nat × List D × D) := match ds with
  | [y] => popD x y hp
  | _ => none
theorem e_sPopAt {fo fa : EF} {env : Env8} {hp : Hp8} : sPopAt fo fa env hp = bndK (fo env hp) (fun x => bnd (rd fun hp => cellL hp x) fun _ => bnd (sCons fa sNil) fun ds => wr (pop1 x ds)) env := rfl
def popK (c : Option (Nat × List D)) : Option (Nat × List D × D) := match c with
  | some (n, d :: ds) => some (n, ds, d)
  | _ => none
theorem pop1_e {x : D} {hp : Hp8} : pop1 x [.int 0] hp = popK (cellL hp x) := by
  show popD x (.int 0) hp = _
  unfold popD popK
  cases cellL hp x with
  | none => rfl
  | some q => obtain ⟨n, ds⟩ := q; cases ds <;> rfl
theorem popK_s {n : Nat} {d : D} {ds : List D} : popK (some (n, d :: ds)) = some (n, ds, d) := rfl
theorem e_sListRng2 {fa fb : EF} {env : Env8} {hp : Hp8} : sListRng2 fa fb env hp = bndK (fa env hp) (fun x => bnd fb fun y => rd fun _ => lrg2D x y) env := rfl
theorem lrg2_i {i j : Int} : lrg2D (.int i) (.int j) = if i.natAbs ≤ 1000000 ∧ j.natAbs ≤ 1000000 then some (.lst (rngD i (j - i).toNat)) else none := rfl
def rgI (i j : Int) : List Int := (List.range (j - i).toNat).map fun (k : Nat) => i + (k : Int)
theorem rngD_i {i j : Int} : rngD i (j - i).toNat = (rgI i j).map .int := by simp [rngD, rgI]
theorem e_gLs {n : Nat} {r : Gs8} {ds : List D} {env : Env8} {hp : Hp8} : gLs n r (.lst ds) env hp = if ds.length = n then r ds env hp else none := rfl
/-- one tick of the reference, plain -/
structure RS where
  s : SB
  wants : Int
  fr : List (Option Int)
  an : List (Option Int)
structure RO where
  st : RS
  seen : Option Int
  told : Option Int
  given : List Int
  again : Bool
def hdR (q : Bool) (n : Int) (S : RS) : SB := match S.an with
  | some a :: _ => hearR q n S.s a
  | _ => S.s
def comeR (n wants : Int) : List (Option Int) → List Int × Option Int × Int
  | some c :: _ => ((getR n wants c).1, some (getR n wants c).2.1, (getR n wants c).2.2)
  | _ => ([], none, wants)
def tickR (y : Way) (S : RS) (lf la : Bool) : RO :=
  let s1 := hdR (y.kind == "quick") y.n S
  let q := sendR y.w y.t s1
  let frs := S.fr ++ [if lf then none else q.1]
  let g := comeR y.n S.wants frs
  ⟨⟨q.2, g.2.2, frs.tail, S.an.tail ++ [if la then none else g.2.1]⟩, q.1.map (· % y.n), g.2.1, g.1, isIn q.1 (rgI s1.base s1.sent)⟩
theorem non_oD {o : Option Int} : isNon (oD o) = o.isNone := by cases o <;> rfl
end R

namespace R
open PySem L2 PyProof.Rows HI
open C (mx)
theorem oDn : oD none = .non := rfl
theorem oDs {i : Int} : oD (some i) = .int i := rfl
theorem dicK_sdc {s : SB} {c a n : Nat} : dicK (some (sdc s c a)) n = some (n, sd s.base s.next s.sent s.clock s.mark c a) := rfl
theorem eqI {hp : Hp8} {as bs : List Int} : eqD (.lst (as.map .int)) (.lst (bs.map .int)) hp = some (decide (as = bs)) := by
  have p : ∀ l : List Int, HI.plain 60 (.lst (l.map .int)) = true := fun l => by
    show plains 59 (l.map .int) = true
    exact plains_map fun _ => plain_int'
  obtain ⟨b, e, k⟩ := eqD_of (hp := hp) (p as) (p bs)
  rw [e]
  congr 1
  have inj : ∀ as bs : List Int, as.map D.int = bs.map D.int → as = bs := by
    intro as
    induction as with
    | nil => intro bs h; cases bs <;> simp_all
    | cons a as ih =>
      intro bs h
      cases bs with
      | nil => simp at h
      | cons b bs => simp only [List.map_cons, List.cons.injEq, D.int.injEq] at h; rw [h.1, ih bs h.2]
  refine Bool.eq_iff_iff.2 (k.trans ?_)
  simp only [D.lst.injEq, decide_eq_true_eq]
  exact ⟨inj as bs, fun h => by rw [h]⟩
theorem eqI0 {hp : Hp8} : eqD (.lst []) (.lst []) hp = some true := eqI (as := []) (bs := [])
theorem eqI1 {hp : Hp8} {i j : Int} : eqD (.lst [.int i]) (.lst [.int j]) hp = some (decide (i = j)) := by
  have := eqI (hp := hp) (as := [i]) (bs := [j])
  simpa using this
theorem eqR {hp : Hp8} {n : Nat} {l : List Cell} {ds es : List D} {i : Nat} (h : l[i]? = some (.lst ds)) : eqD (.ref (hp.length + i)) (.lst es) (hp ++ l) = eqD (.lst ds) (.lst es) (hp ++ l) := eqD_ref (by rw [ga_ni]; exact h)
theorem eqR7 {hp : Hp8} {a0 a1 a2 a3 a4 a5 a6 : Cell} {ds es : List D} : eqD (.ref (hp.length + 7)) (.lst es) (hp ++ [a0, a1, a2, a3, a4, a5, a6, .lst ds]) = eqD (.lst ds) (.lst es) (hp ++ [a0, a1, a2, a3, a4, a5, a6, .lst ds]) := eqR (n := 0) rfl
theorem rng00 : rngD 0 0 = [] := rfl
theorem okR0 : okRng 0 = true := by decide
theorem okR1 : okRng 1 = true := by decide
theorem rng01 : rngD 0 1 = [.int 0] := rfl
theorem tickR_ok {y : Way} (ok : WayOk y) (ho : y.kind ≠ "own") {hp : Hp8} {d : D} {S : RS} {ck : List (Key × D)} {aw : List D} {kp : List (Key × D)} {z : Str} {x0 : Nat} (h : StAt x0 hp d (sdc S.s) (fun k => .dic (rd0 S.wants k)) ck aw kp (S.fr.map oD) (S.an.map oD))
    (ha : S.an ≠ []) (hf : S.fr.length ≤ 100) (ha2 : S.an.length ≤ 100) (b1 : (hdR (y.kind == "quick") y.n S).base.natAbs ≤ 1000000) (b2 : (hdR (y.kind == "quick") y.n S).sent.natAbs ≤ 1000000) :
    ∃ rt gd l st, g__law_tick [wayD y, d, .str z] hp = some (.ok (.tup [st, .tup [oD (tickR y S (lostF z) (lostA z)).seen, oD (tickR y S (lostF z) (lostA z)).told], gd, .bl rt, .bl (tickR y S (lostF z) (lostA z)).again]), hp ++ l) ∧
      (∀ x, x < hp.length → gd ≠ .ref x ∧ StAt x (hp ++ l) st (sdc (tickR y S (lostF z) (lostA z)).st.s) (fun k => .dic (rd0 (tickR y S (lostF z) (lostA z)).st.wants k)) ck aw kp ((tickR y S (lostF z) (lostA z)).st.fr.map oD) ((tickR y S (lostF z) (lostA z)).st.an.map oD)) ∧ lstM (hp ++ l) gd = some ((tickR y S (lostF z) (lostA z)).given.map .int) := by
  have hn : 0 < y.n := by have := ok.w1; have := ok.wn; omega
  have ec := copy_ok h
  obtain ⟨x, an', ea⟩ : ∃ x an', S.an = x :: an' := by
    cases e : S.an with
    | nil => exact absurd e ha
    | cons x l => exact ⟨x, l, rfl⟩
  have infb : ∀ hp, inD (.str z) (.tup [.str "frame", .str "both"]) hp = some (lostF z) := fun hp => inD_strsT (l := ["frame", "both"])
  have inab : ∀ hp, inD (.str z) (.tup [.str "answer", .str "both"]) hp = some (lostA z) := fun hp => inD_strsT (l := ["answer", "both"])
  generalize hs1 : hdR (y.kind == "quick") y.n S = s1 at *
  have hear1 : ∀ l a, x = some a → g__law_hear [wayD y, .ref hp.length, .int a] (hp ++ sdc S.s (hp.length + 2) (hp.length + 3) :: l) = some (.ok .non, hp ++ sdc s1 (hp.length + 2) (hp.length + 3) :: l) := fun l a e => by
    rw [← hs1]
    subst e
    simp [hdR, ea, hear_at hn ho]
  have hear0 : x = none → S.s = s1 := fun e => by
    rw [← hs1]
    subst e
    simp [hdR, ea]
  have hl100 : S.fr.length < 1000000 := by omega
  have hl101 : an'.length < 1000000 := by
    have := congrArg List.length ea
    simp at this ⊢
    omega
  obtain ⟨q1, q2, hq⟩ : ∃ q1 q2, sendR y.w y.t s1 = (q1, q2) := ⟨_, _, rfl⟩
  have send1 : ∀ l, g__law_send [wayD y, .ref hp.length] (hp ++ sdc s1 (hp.length + 2) (hp.length + 3) :: l) = some (.ok (oD q1), hp ++ sdc q2 (hp.length + 2) (hp.length + 3) :: l) := fun l => by rw [send_at ho, hq]
  obtain ⟨f, fs, hfs⟩ : ∃ f fs, S.fr ++ [if lostF z then none else q1] = f :: fs := by
    cases e : S.fr ++ [if lostF z then none else q1] with
    | nil => simp at e
    | cons f fs => exact ⟨f, fs, rfl⟩
  have hfD : S.fr.map oD ++ [oD (if lostF z then none else q1)] = oD f :: fs.map oD := by
    have := congrArg (List.map oD) hfs
    simpa using this
  have et : tickR y S (lostF z) (lostA z) = ⟨⟨q2, (comeR y.n S.wants (f :: fs)).2.2, fs, an' ++ [if lostA z then none else (comeR y.n S.wants (f :: fs)).2.1]⟩, q1.map (· % y.n), (comeR y.n S.wants (f :: fs)).2.1, (comeR y.n S.wants (f :: fs)).1, isIn q1 (rgI s1.base s1.sent)⟩ := by
    simp [tickR, hs1, hq, hfs, ea]
  rw [et]
  have hin : ∀ hp, inD (oD q1) (.lst ((rgI s1.base s1.sent).map .int)) hp = some (isIn q1 (rgI s1.base s1.sent)) := fun _ => inD_oD
  have hw : ∀ {hp}, ixD (wayD y) (.int 0) hp = some (.str y.kind) := rfl
  have hw2 : ∀ {hp}, ixD (wayD y) (.int 2) hp = some (.int y.n) := rfl
  cases f with
  | none =>
    refine ⟨true, .lst [], [sdc q2 (hp.length + 2) (hp.length + 3), .dic (rd0 S.wants (hp.length + 4)), .dic ck, .lst aw, .dic kp, .lst (fs.map oD), .lst (an'.map oD ++ [.non])], .lst [.ref hp.length, .ref (hp.length + 1), .ref (hp.length + 5), .ref (hp.length + 6)], ?_, ?_, ?_⟩
    · show id (runF 17 3 b__law_tick) _ hp = _
      simp only [id, comeR]
      cases x <;> cases hlf : lostF z <;> cases hla : lostA z <;> cases q1 <;> simp only [hlf, if_true, if_false, Bool.false_eq_true, oDn, oDs] at hfD hin <;> simp [-List.map_map, b__law_tick, e_runF, ec, news, e_gLs, ea, e_sPopAt, pop1_e, popK_s, ga_n0, ga_ni, gs_n0, gs_ni, oDn, oDs, hear0, hear1, send1, e_sListRng2, lrg2_i, rngD_i, e_getDic, gdicK_s, dicK_sdc, sd_base, sd_sent, rd_wants, b1, b2, hw, hw2, ho, hn, infb, inab, hlf, hla, hfD, hl100, hl101, hin, eqI0, rng00, okR0]
    · refine fun x hx => ⟨by simp; try omega, hp.length, hp.length + 1, hp.length + 2, hp.length + 3, hp.length + 4, .ref (hp.length + 5), .ref (hp.length + 6), rfl, by simp [ga_n0], by simp [ga_ni, comeR], by simp [ga_ni], by simp [ga_ni], by simp [ga_ni], seqOf_ref (by simp [ga_ni]), seqOf_ref (by simp [ga_ni, comeR, oDn]), by omega, by omega, by omega, by omega, by omega, by simp; omega, by simp; omega⟩
    · rfl
  | some c =>
    by_cases hg : (c - S.wants) % y.n = 0
    · refine ⟨decide (c = S.wants), .ref (hp.length + 7), [sdc q2 (hp.length + 2) (hp.length + 3), .dic (rd0 (S.wants + 1) (hp.length + 4)), .dic ck, .lst aw, .dic kp, .lst (fs.map oD), .lst (an'.map oD ++ [oD (if lostA z then none else some ((S.wants + 1) % y.n))]), .lst [.int c]], .lst [.ref hp.length, .ref (hp.length + 1), .ref (hp.length + 5), .ref (hp.length + 6)], ?_, ?_, ?_⟩
      · show id (runF 17 3 b__law_tick) _ hp = _
        simp only [id, comeR]
        cases x <;> cases hlf : lostF z <;> cases hla : lostA z <;> cases q1 <;> simp only [hlf, if_true, if_false, Bool.false_eq_true, oDn, oDs] at hfD hin <;> simp [-List.map_map, b__law_tick, e_runF, ec, news, e_gLs, ea, e_sPopAt, pop1_e, popK_s, ga_n0, ga_ni, gs_n0, gs_ni, oDn, oDs, hear0, hear1, send1, e_sListRng2, lrg2_i, rngD_i, e_getDic, gdicK_s, dicK_sdc, sd_base, sd_sent, rd_wants, b1, b2, hw, hw2, ho, hn, infb, inab, hlf, hla, hfD, hl100, hl101, hin, get_at hn ho, getR, hg, eqI0, eqR7, rng01, rng00, okR0, okR1, eqI1, lc_cons, lcS_some, lcT_true, lcE_ok]
      · refine fun x hx => ⟨by simp; try omega, hp.length, hp.length + 1, hp.length + 2, hp.length + 3, hp.length + 4, .ref (hp.length + 5), .ref (hp.length + 6), rfl, by simp [ga_n0], by simp [ga_ni, comeR, getR, hg], by simp [ga_ni], by simp [ga_ni], by simp [ga_ni], seqOf_ref (by simp [ga_ni]), seqOf_ref (by simp [ga_ni, comeR, getR, hg]), by omega, by omega, by omega, by omega, by omega, by simp; omega, by simp; omega⟩
      · show (match (hp ++ _)[hp.length + 7]? with | some (.lst ds) => some ds | _ => none) = _
        simp [ga_ni, comeR, getR, hg]
    · refine ⟨true, .ref (hp.length + 7), [sdc q2 (hp.length + 2) (hp.length + 3), .dic (rd0 S.wants (hp.length + 4)), .dic ck, .lst aw, .dic kp, .lst (fs.map oD), .lst (an'.map oD ++ [oD (if lostA z then none else some (S.wants % y.n))]), .lst []], .lst [.ref hp.length, .ref (hp.length + 1), .ref (hp.length + 5), .ref (hp.length + 6)], ?_, ?_, ?_⟩
      · show id (runF 17 3 b__law_tick) _ hp = _
        simp only [id, comeR]
        cases x <;> cases hlf : lostF z <;> cases hla : lostA z <;> cases q1 <;> simp only [hlf, if_true, if_false, Bool.false_eq_true, oDn, oDs] at hfD hin <;> simp [-List.map_map, b__law_tick, e_runF, ec, news, e_gLs, ea, e_sPopAt, pop1_e, popK_s, ga_n0, ga_ni, gs_n0, gs_ni, oDn, oDs, hear0, hear1, send1, e_sListRng2, lrg2_i, rngD_i, e_getDic, gdicK_s, dicK_sdc, sd_base, sd_sent, rd_wants, b1, b2, hw, hw2, ho, hn, infb, inab, hlf, hla, hfD, hl100, hl101, hin, get_at hn ho, getR, hg, eqI0, eqR7, rng01, rng00, okR0, okR1, eqI1, lc_cons, lcS_some, lcT_true, lcE_ok]
      · refine fun x hx => ⟨by simp; try omega, hp.length, hp.length + 1, hp.length + 2, hp.length + 3, hp.length + 4, .ref (hp.length + 5), .ref (hp.length + 6), rfl, by simp [ga_n0], by simp [ga_ni, comeR, getR, hg], by simp [ga_ni], by simp [ga_ni], by simp [ga_ni], seqOf_ref (by simp [ga_ni]), seqOf_ref (by simp [ga_ni, comeR, getR, hg]), by omega, by omega, by omega, by omega, by omega, by simp; omega, by simp; omega⟩
      · show (match (hp ++ _)[hp.length + 7]? with | some (.lst ds) => some ds | _ => none) = _
        simp [ga_ni, comeR, getR, hg]
end R

namespace R
open PySem L2 PyProof.Rows HI
open C (mx)
structure Bd (S : RS) (m : Int) (d : Nat) : Prop where
  b0 : 0 ≤ S.s.base
  bs : S.s.base ≤ S.s.sent
  sm : S.s.sent ≤ m
  an : S.an.length = d
  fr : S.fr.length + 1 = d
theorem hearR_bd {q : Bool} {n : Int} {s : SB} {a : Int} (h0 : 0 ≤ s.base) (h1 : s.base ≤ s.sent) : 0 ≤ (hearR q n s a).base ∧ (hearR q n s a).base ≤ (hearR q n s a).sent ∧ (hearR q n s a).sent = s.sent := by
  unfold hearR
  simp only
  split
  · exact ⟨by show 0 ≤ s.base + _; omega, by show s.base + _ ≤ s.sent; omega, rfl⟩
  · split
    · split
      · exact ⟨h0, h1, rfl⟩
      · exact ⟨h0, h1, rfl⟩
    · exact ⟨h0, h1, rfl⟩
theorem hdR_bd {q : Bool} {n : Int} {S : RS} (h0 : 0 ≤ S.s.base) (h1 : S.s.base ≤ S.s.sent) : 0 ≤ (hdR q n S).base ∧ (hdR q n S).base ≤ (hdR q n S).sent ∧ (hdR q n S).sent = S.s.sent := by
  unfold hdR
  split
  · exact hearR_bd h0 h1
  · exact ⟨h0, h1, rfl⟩
theorem sendR_bd {w t : Int} {s : SB} (w3 : w ≤ 3) (h0 : 0 ≤ s.base) (h1 : s.base ≤ s.sent) : 0 ≤ (sendR w t s).2.base ∧ (sendR w t s).2.base ≤ (sendR w t s).2.sent ∧ (sendR w t s).2.sent ≤ s.sent + 3 := by
  unfold sendR mx
  simp only
  split <;> split <;> (try split) <;> (try split) <;> simp_all <;> (try omega)
theorem tickR_bd {y : Way} {S : RS} {m : Int} {d : Nat} {lf la : Bool} (w3 : y.w ≤ 3) (hd : 1 ≤ d) (h : Bd S m d) : Bd (tickR y S lf la).st (m + 3) d := by
  have h1 := hdR_bd (q := y.kind == "quick") (n := y.n) h.b0 h.bs
  have h2 := sendR_bd (t := y.t) w3 h1.1 h1.2.1
  have := h.sm
  have e1 := h.an
  have e2 := h.fr
  refine ⟨h2.1, h2.2.1, by show (sendR y.w y.t (hdR (y.kind == "quick") y.n S)).2.sent ≤ m + 3; omega, ?_, ?_⟩
  · simp [tickR]; omega
  · simp [tickR]; omega
def runR (y : Way) : RS → List (Bool × Bool) → List RO
  | S, [] => []
  | S, f :: fs => tickR y S f.1 f.2 :: runR y (tickR y S f.1 f.2).st fs
def rowD (o : RO) : D := .tup [.tup [oD o.seen, oD o.told], .lst (o.given.map .int), .bl o.again]
/-- a row that is found, in the heap -/
def Rw (hp : Hp8) (d : D) (o : RO) : Prop := ∃ gd, d = .tup [.tup [oD o.seen, oD o.told], gd, .bl o.again] ∧ lstM hp gd = some (o.given.map .int) ∧ gd ≠ .ref 5
def Rws (hp : Hp8) : List D → List RO → Prop
  | [], [] => True
  | d :: ds, o :: os => Rw hp d o ∧ Rws hp ds os
  | _, _ => False
theorem lstM_app {hp : Hp8} {d : D} {xs : List D} {l : List Cell} (h : lstM hp d = some xs) : lstM (hp ++ l) d = some xs := by
  cases d with
  | ref n =>
    have h : (match hp[n]? with | some (.lst ds) => some ds | _ => none) = some xs := h
    show (match (hp ++ l)[n]? with | some (.lst ds) => some ds | _ => none) = some xs
    cases e : hp[n]? with
    | none => rw [e] at h; cases h
    | some c => rw [ga_old e]; rw [e] at h; exact h
  | _ => exact h
theorem lstM_set {hp : Hp8} {d : D} {x : Nat} {c : Cell} (h : d ≠ .ref x) : lstM (hp.set x c) d = lstM hp d := by
  cases d with
  | ref n =>
    have : n ≠ x := fun e => h (by rw [e])
    show (match (hp.set x c)[n]? with | some (.lst ds) => some ds | _ => none) = (match hp[n]? with | some (.lst ds) => some ds | _ => none)
    rw [gset_ne this]
  | _ => rfl
theorem Rw.mono {hp : Hp8} {d : D} {o : RO} {l : List Cell} {c : Cell} (h : Rw hp d o) : Rw ((hp ++ l).set 5 c) d o := by
  obtain ⟨gd, e, h1, h2⟩ := h
  exact ⟨gd, e, by rw [lstM_set h2]; exact lstM_app h1, h2⟩
theorem Rws.mono {hp : Hp8} {l : List Cell} {c : Cell} : ∀ {ds : List D} {os : List RO}, Rws hp ds os → Rws ((hp ++ l).set 5 c) ds os
  | [], [], _ => trivial
  | d :: ds, o :: os, h => ⟨h.1.mono, Rws.mono h.2⟩
theorem Rws.snoc {hp : Hp8} {d : D} {o : RO} (h : Rw hp d o) : ∀ {ds : List D} {os : List RO}, Rws hp ds os → Rws hp (ds ++ [d]) (os ++ [o])
  | [], [], _ => ⟨h, trivial⟩
  | _ :: _, _ :: _, g => ⟨g.1, Rws.snoc h g.2⟩
theorem mapO_ints {hp : Hp8} {k : Nat} : ∀ l : List Int, mapO (unD hp k) (l.map .int) = some (l.map .int)
  | [] => rfl
  | i :: l => by
    have : unD hp k (.int i) = some (.int i) := by cases k <;> rfl
    simp [mapO, this, mapO_ints l]
theorem unD_oD {hp : Hp8} {k : Nat} {o : Option Int} : unD hp k (oD o) = some (oD o) := by cases o <;> cases k <;> rfl
theorem unD_bl {hp : Hp8} {k : Nat} {b : Bool} : unD hp k (.bl b) = some (.bl b) := by cases k <;> rfl
theorem unD_lst {hp : Hp8} {k : Nat} {gd : D} {l : List Int} (h : lstM hp gd = some (l.map .int)) : unD hp (k + 1) gd = some (.lst (l.map .int)) := by
  cases gd with
  | lst ds =>
    cases h
    show (mapO (unD hp k) (l.map .int)).map D.lst = _
    rw [mapO_ints]; rfl
  | ref n =>
    have h : (match hp[n]? with | some (.lst ds) => some ds | _ => none) = some (l.map .int) := h
    show (match hp[n]? with | some (.lst ds) => ((mapO (unD hp k) ds).map D.lst : Option D) | _ => (none : Option D)) = _
    split at h
    · rename_i ds e
      cases h
      show (mapO (unD hp k) (l.map .int)).map D.lst = _
      rw [mapO_ints]; rfl
    · cases h
  | _ => cases h
theorem Rw.un {hp : Hp8} {d : D} {o : RO} {k : Nat} (h : Rw hp d o) : unD hp (k + 3) d = some (rowD o) := by
  obtain ⟨gd, rfl, h1, _⟩ := h
  show (mapO (unD hp (k + 2)) [.tup [oD o.seen, oD o.told], gd, .bl o.again]).map D.tup = _
  have e1 : unD hp (k + 2) (.tup [oD o.seen, oD o.told]) = some (.tup [oD o.seen, oD o.told]) := by
    show (mapO (unD hp (k + 1)) [oD o.seen, oD o.told]).map D.tup = _
    simp [mapO, unD_oD]
  simp [mapO, e1, unD_lst h1, unD_bl, rowD]
theorem Rws.un {hp : Hp8} {k : Nat} : ∀ {ds : List D} {os : List RO}, Rws hp ds os → mapO (unD hp (k + 3)) ds = some (os.map rowD)
  | [], [], _ => rfl
  | d :: ds, o :: os, h => by simp [mapO, h.1.un, Rws.un h.2]
end R

namespace R
open PySem L2 PyProof.Rows HI
open C (mx)
theorem play_loop {y : Way} (ok : WayOk y) (ho : y.kind ≠ "own") {d : Nat} (hd : d = 1 ∨ d = 2) {x0 x2 : Option D} {ck : List (Key × D)} {aw : List D} {kp : List (Key × D)} : ∀ (l : List Str) (S : RS) (m : Int) (st : D) (hp : Hp8) (ds : List D) (os : List RO) (x5 x6 x7 x8 x9 : Option D),
    Bd S m d → m + 3 * (l.length : Int) ≤ 1000 → StAt 5 hp st (sdc S.s) (fun k => .dic (rd0 S.wants k)) ck aw kp (S.fr.map oD) (S.an.map oD) → hp[5]? = some (.lst ds) → Rws hp ds os → ds.length + l.length ≤ 1000 →
    ∃ st' hp' ds' y5 y6 y7 y8 y9, loopL (gNm 5) L__law_play_1 (l.map .str) [x0, some (wayD y), x2, some st, some (.ref 5), x5, x6, x7, x8, x9] hp = some (.nx, [x0, some (wayD y), x2, some st', some (.ref 5), y5, y6, y7, y8, y9], hp') ∧ hp'[5]? = some (.lst ds') ∧ Rws hp' ds' (os ++ runR y S (l.map fl))
  | [], S, m, st, hp, ds, os, x5, x6, x7, x8, x9, bd, _, h, h5, hr, _ => ⟨st, hp, ds, x5, x6, x7, x8, x9, by simp, h5, by simpa [runR] using hr⟩
  | z :: l, S, m, st, hp, ds, os, x5, x6, x7, x8, x9, bd, hm, h, h5, hr, hl => by
    have hm : m + 3 * ((l.length + 1 : Nat) : Int) ≤ 1000 := hm
    have hl : ds.length + (l.length + 1) ≤ 1000 := hl
    have b1 := hdR_bd (q := y.kind == "quick") (n := y.n) bd.b0 bd.bs
    have b2 := bd.sm
    have e1 := bd.an
    have e2 := bd.fr
    have h6 : 5 < hp.length := (List.getElem?_eq_some_iff.mp h5).1
    obtain ⟨rt, gd, nl, st1, et, hs, hg⟩ := tickR_ok (z := z) ok ho h (by intro e; rw [e] at e1; simp at e1; omega) (by omega) (by omega) (by omega) (by omega)
    have bd' := tickR_bd (y := y) (lf := lostF z) (la := lostA z) ok.w3 (by omega) bd
    obtain ⟨g1, s1⟩ := hs 5 h6
    generalize ho' : tickR y S (lostF z) (lostA z) = o at *
    have h5' : (hp ++ nl)[5]? = some (.lst ds) := ga_old h5
    have t : L__law_play_1 [x0, some (wayD y), x2, some st, some (.ref 5), some (.str z), x6, x7, x8, x9] hp = some (.nx, [x0, some (wayD y), x2, some st1, some (.ref 5), some (.str z), some (.tup [oD o.seen, oD o.told]), some gd, some (.bl rt), some (.bl o.again)], (hp ++ nl).set 5 (.lst (ds ++ [.tup [.tup [oD o.seen, oD o.told], gd, .bl o.again]]))) := by
      have : ds.length < 1000000 := by omega
      simp [L__law_play_1, et, h5', this]
    obtain ⟨st', hp', ds', y5, y6, y7, y8, y9, e, q5, qr⟩ := play_loop ok ho hd (x0 := x0) (x2 := x2) (ck := ck) (aw := aw) (kp := kp) l o.st (m + 3) st1 ((hp ++ nl).set 5 (.lst (ds ++ [.tup [.tup [oD o.seen, oD o.told], gd, .bl o.again]]))) (ds ++ [.tup [.tup [oD o.seen, oD o.told], gd, .bl o.again]]) (os ++ [o]) (some (.str z)) (some (.tup [oD o.seen, oD o.told])) (some gd) (some (.bl rt)) (some (.bl o.again)) bd' (by omega) s1.set (gs_at h5') (Rws.snoc ⟨gd, rfl, by rw [lstM_set g1]; exact hg, g1⟩ (Rws.mono hr)) (by simp; omega)
    refine ⟨st', hp', ds', y5, y6, y7, y8, y9, ?_, q5, ?_⟩
    · rw [List.map_cons, lp_nm]
      show lpK (gNm 5) L__law_play_1 (l.map .str) (L__law_play_1 [x0, some (wayD y), x2, some st, some (.ref 5), some (.str z), x6, x7, x8, x9] hp) = _
      rw [t, lpK_nx, e]
    · have : runR y S ((z :: l).map fl) = o :: runR y o.st (l.map fl) := by
        simp only [List.map_cons, runR, fl, ho']
      rw [this]
      simpa using qr
def beginR (d : Nat) : RS := ⟨⟨0, 0, 0, 0, false⟩, 0, List.replicate (d - 1) none, List.replicate d none⟩
theorem e_sDisp {zs : List Str} {fs : List EF} {env : Env8} {hp : Hp8} {ds : List D} {hp' : Hp8} (h : sVals fs env (hp ++ [.dic []]) = some (.ok ds, hp')) (h2 : hp'[hp.length]? = some (.dic [])) (h3 : zs.length ≤ 15) : sDisp zs fs env hp = some (.ok (.ref hp.length), hp'.set hp.length (.dic (mergeD [] ((zs.map Sum.inr).zip ds)))) := by
  simp only [sDisp, h, h2, if_pos h3]
theorem both_ok : g__law_both [] [] = some (.ok (.tup [.ref 0, .ref 3]), [sdc ⟨0, 0, 0, 0, false⟩ 1 2, .dic [], .lst [], .dic (rd0 0 4), .dic []]) := by
  rfl
theorem begin_ok {d : Nat} {r : Int} (hd : d = 1 ∨ d = 2) : g__law_begin [wireD d r] [] = some (.ok (.lst [.ref 0, .ref 3, .lst ((beginR d).fr.map oD), .lst ((beginR d).an.map oD)]), [sdc ⟨0, 0, 0, 0, false⟩ 1 2, .dic [], .lst [], .dic (rd0 0 4), .dic []]) := by
  show id (runF 3 1 b__law_begin) _ [] = _
  simp only [id]
  have p0 : pl [D.non] = false := rfl
  have sl1 : 1 ≤ sizeLine := by decide +kernel
  have sl2 : 2 ≤ sizeLine := by decide +kernel
  rcases hd with rfl | rfl
  · simp [e_runF, b__law_begin, both_ok, wireD, beginR, p0, oDn, sl1, sl2]
  · simp [e_runF, b__law_begin, both_ok, wireD, beginR, p0, oDn, sl1, sl2]
theorem play_ok {y : Way} (ok : WayOk y) (ho : y.kind ≠ "own") {d : Nat} {r : Int} (hd : d = 1 ∨ d = 2) {l : List Str} (hl : l.length ≤ 40) {hp : Hp8} : g__law_play [wireD d r, wayD y, .lst (l.map .str)] hp = some (.ok (.lst ((runR y (beginR d) (l.map fl)).map rowD)), hp) := by
  have hs : StAt 5 [sdc ⟨0, 0, 0, 0, false⟩ 1 2, .dic [], .lst [], .dic (rd0 0 4), .dic [], .lst []] (.lst [.ref 0, .ref 3, .lst ((beginR d).fr.map oD), .lst ((beginR d).an.map oD)]) (sdc (beginR d).s) (fun k => .dic (rd0 (beginR d).wants k)) [] [] [] ((beginR d).fr.map oD) ((beginR d).an.map oD) :=
    ⟨0, 3, 1, 2, 4, _, _, rfl, rfl, rfl, rfl, rfl, rfl, rfl, rfl, by decide, by decide, by decide, by decide, by decide, by simp, by simp⟩
  obtain ⟨st', hp', ds', y5, y6, y7, y8, y9, e, q5, qr⟩ := play_loop ok ho hd (x0 := some (wireD d r)) (x2 := some (.lst (l.map .str))) l (beginR d) 0 _ _ [] [] none none none none none ⟨by simp [beginR], by simp [beginR], by simp [beginR], by simp [beginR], by simp [beginR]; omega⟩ (by omega) hs rfl trivial (by simp; omega)
  refine pureGd_ok (hp0 := hp') (d := .ref 5) (by simp [closeds_strs]) ?_ ?_
  · simp [e_runF, b__law_play, begin_ok hd, e_sPar2, par2K_s, e]
  · show (match hp'[5]? with | some (.lst ds) => ((mapO (unD hp' 19) ds).map D.lst : Option D) | _ => (none : Option D)) = _
    rw [q5]
    show (mapO (unD hp' (16 + 3)) ds').map D.lst = _
    rw [Rws.un qr]; simp
end R

namespace R
open PySem L2 PyProof.Rows HI
open C (mx)
/-! the reference and the program's ticks, plain -/
structure Sn (b : Int) (s : SB) (l : List Int) : Prop where
  ex : ∃ t q c a, l = [t, q, c, a] ∧ s = ⟨b, b + q, b + t, c, decide (a = 1)⟩ ∧ 0 ≤ q ∧ q ≤ t ∧ (t = 0 → c = 0) ∧ (a = 0 ∨ a = 1)
theorem hear_sim {b n A : Int} {s : SB} {l : List Int} {y : C.Y} (ho : y.own = false) (hn : 0 < n) (h : Sn b s l) : Sn (b + (C.hear y l ((A - b) % n)).2) (hearR y.quick n s A) (C.hear y l ((A - b) % n)).1 := by
  obtain ⟨t, q, c, a, rfl, rfl, h1, h2, h3, h4⟩ := h.ex
  have k0 := Int.emod_nonneg (A - b) (b := n) (by omega)
  simp only [C.hear, ho, Bool.false_eq_true, if_false, hearR, C.hearB]
  generalize (A - b) % n = k at *
  by_cases g : 1 ≤ k ∧ k ≤ b + t - b
  · rw [if_pos g, if_pos (show 0 < k ∧ k ≤ t by omega)]
    refine ⟨t - k, mx 0 (q - k), 0, 0, rfl, ?_, ?_, ?_, by simp, .inl rfl⟩
    · simp only [mx, SB.mk.injEq, decide_eq_false_iff_not, true_and]
      refine ⟨?_, by omega, by simp⟩
      split <;> split <;> omega
    · simp only [mx]; split <;> omega
    · simp only [mx]; split <;> omega
  · rw [if_neg g, if_neg (show ¬ (0 < k ∧ k ≤ t) by omega)]
    by_cases g2 : y.quick = true ∧ k = 0 ∧ b < b + t
    · rw [if_pos g2, if_neg (by simp [g2.1, g2.2.1]; omega)]
      by_cases g3 : a = 1
      · simp only [g3, decide_true, if_true]
        exact ⟨t, 0, 0, 0, rfl, by simp, by omega, by omega, fun _ => rfl, .inl rfl⟩
      · simp only [g3, decide_false, Bool.false_eq_true, if_false]
        exact ⟨t, q, c, 1, rfl, by simp, h1, h2, fun e => h3 e, .inr rfl⟩
    · rw [if_neg g2, if_pos (by
        by_cases g4 : y.quick = true
        · by_cases g5 : k = 0
          · right; right
            by_cases g6 : t = 0
            · exact g6
            · exact absurd ⟨g4, g5, by omega⟩ g2
          · right; left; exact g5
        · left; simpa using g4)]
      exact ⟨t, q, c, a, rfl, by simp, h1, h2, h3, h4⟩
theorem send_sim {b w t0 : Int} {s : SB} {l : List Int} {y : C.Y} (ho : y.own = false) (h : Sn b s l) : Sn b (sendR y.w y.t s).2 (C.send y l).2 ∧ (sendR y.w y.t s).1 = (C.send y l).1.map (b + ·) := by
  obtain ⟨t, q, c, a, rfl, rfl, h1, h2, h3, h4⟩ := h.ex
  simp only [C.send, ho, Bool.false_eq_true, if_false, sendR, C.sendB]
  by_cases g1 : 0 < t ∧ c = y.t
  · rw [if_pos (show b < b + t ∧ c = y.t by omega), if_pos g1, if_pos g1]
    by_cases g2 : 0 < y.w
    · simp only [g2, if_true, show b < b + y.w by omega]
      have e1 : mx (b + t) (b + 1) = b + mx t 1 := by simp only [mx]; split <;> split <;> omega
      have e2 : 0 < mx t 1 := by simp only [mx]; split <;> omega
      simp only [e1, show b < b + mx t 1 by omega, if_true, show (0 : Int) + 1 = 1 from rfl, e2]
      refine ⟨⟨mx t 1, 1, 0 + 1, a, rfl, by simp, by omega, by simp only [mx]; split <;> omega, by omega, h4⟩, by simp⟩
    · simp only [g2, if_false, show ¬ b < b + y.w by omega]
      have e1 : mx t 0 = t := by simp only [mx]; split <;> omega
      simp only [e1, show b < b + t by omega, if_true, g1.1]
      exact ⟨⟨t, 0, 0 + 1, a, rfl, by simp, by omega, by omega, by omega, h4⟩, rfl⟩
  · rw [if_neg (show ¬ (b < b + t ∧ c = y.t) by omega), if_neg g1, if_neg g1]
    by_cases g2 : q < y.w
    · simp only [g2, if_true, show b + q < b + y.w by omega]
      have e1 : mx (b + t) (b + q + 1) = b + mx t (q + 1) := by simp only [mx]; split <;> split <;> omega
      have e2 : 0 < mx t (q + 1) := by simp only [mx]; split <;> omega
      simp only [e1, show b < b + mx t (q + 1) by omega, if_true, e2]
      refine ⟨⟨mx t (q + 1), q + 1, c + 1, a, rfl, by simp; omega, by omega, by simp only [mx]; split <;> omega, by omega, h4⟩, by simp⟩
    · simp only [g2, if_false, show ¬ b + q < b + y.w by omega]
      have e1 : mx t q = t := by simp only [mx]; split <;> omega
      simp only [e1]
      by_cases g3 : 0 < t
      · simp only [g3, show b < b + t by omega, if_true]
        exact ⟨⟨t, q, c + 1, a, rfl, by simp, by omega, by omega, by omega, h4⟩, rfl⟩
      · simp only [g3, show ¬ b < b + t by omega, if_false]
        exact ⟨⟨t, q, 0, a, rfl, by simp [h3 (by omega)], by omega, by omega, by omega, h4⟩, rfl⟩
end R

namespace R
open PySem L2 PyProof.Rows HI
open C (mx)
structure Sm (n : Int) (p : C.Pl) (b : Int) (S : RS) : Prop where
  sn : Sn b S.s p.snd
  wants : S.wants = b + p.wants
  fr : S.fr = p.fr.map (Option.map (b + ·))
  an : p.an = S.an.map (Option.map fun A => (A - b) % n)
  turn : p.turn = b % n
theorem heard_sim {y : Way} (ho : y.kind ≠ "own") (hn : 0 < y.n) {p : C.Pl} {b : Int} {S : RS} (h : Sm y.n p b S) : Sn (b + (C.heard (yC y) p).2) (hdR (y.kind == "quick") y.n S) (C.heard (yC y) p).1 := by
  have eo : (yC y).own = false := yC_own'.2 ho
  have eq : (yC y).quick = (y.kind == "quick") := rfl
  have ea := h.an
  unfold C.heard hdR
  cases e : S.an with
  | nil => rw [e] at ea; simp only [List.map_nil] at ea; rw [ea]; simpa using h.sn
  | cons x l =>
    rw [e] at ea
    simp only [List.map_cons] at ea
    rw [ea]
    cases x with
    | none => simpa using h.sn
    | some A => rw [← eq]; exact hear_sim eo hn h.sn
theorem comes_sim {y : Way} (ho : y.kind ≠ "own") {b w : Int} {l : List (Option Int)} : comeR y.n (b + w) (l.map (Option.map (b + ·))) = ((C.comes (yC y) w none none l).2.1.map (b + ·), (C.comes (yC y) w none none l).2.2.map (fun v => (b + v) % y.n), b + (C.comes (yC y) w none none l).1.1) := by
  have eo : (yC y).own = false := yC_own'.2 ho
  have en : (yC y).n = y.n := rfl
  cases l with
  | nil => rfl
  | cons x l =>
    cases x with
    | none => rfl
    | some c =>
      simp only [List.map_cons, Option.map_some, comeR, C.comes, C.get, eo, Bool.false_eq_true, if_false, getR, C.getB, en, show b + c - (b + w) = c - w by omega]
      split <;> simp [Int.add_assoc]
theorem tick_sim {y : Way} (ho : y.kind ≠ "own") (hn : 0 < y.n) {p : C.Pl} {b : Int} {S : RS} {lf la : Bool} (h : Sm y.n p b S) (hk : p.k1 = none ∧ p.k2 = none) :
    Sm y.n (C.tick (yC y) p lf la).pl (b + (C.tick (yC y) p lf la).many) (tickR y S lf la).st ∧ (tickR y S lf la).seen = (C.tick (yC y) p lf la).seen ∧ (tickR y S lf la).told = (C.tick (yC y) p lf la).told ∧ (tickR y S lf la).given = (C.tick (yC y) p lf la).given.map (b + (C.tick (yC y) p lf la).many + ·) := by
  have eo : (yC y).own = false := yC_own'.2 ho
  have en : (yC y).n = y.n := rfl
  have h1 := heard_sim ho hn h
  have h2 := send_sim (w := 0) (t0 := 0) eo h1
  have em : (C.tick (yC y) p lf la).many = (C.heard (yC y) p).2 := rfl
  rw [em]
  generalize hm : (C.heard (yC y) p).2 = m at *
  generalize hl : (C.heard (yC y) p).1 = l at *
  generalize hs : hdR (y.kind == "quick") y.n S = s1 at *
  have ew : (yC y).w = y.w := rfl
  have et : (yC y).t = y.t := rfl
  rw [ew, et] at h2
  have f1 : S.fr = (p.fr.map (C.sub m)).map (Option.map (b + m + ·)) := by
    rw [h.fr, List.map_map]
    apply List.map_congr_left
    intro o _
    cases o with
    | none => rfl
    | some v => simp only [Function.comp, C.sub, Option.map_some]; congr 1; omega
  have w1 : S.wants = b + m + (p.wants - m) := by rw [h.wants]; omega
  have fr2 : S.fr ++ [if lf then none else (sendR y.w y.t s1).1] = (p.fr.map (C.sub m) ++ [if lf then none else (C.send (yC y) l).1]).map (Option.map (b + m + ·)) := by
    rw [List.map_append, ← f1, h2.2]
    cases lf <;> simp
  have k1 : C.sub m p.k1 = none := by rw [hk.1]; rfl
  have k2 : C.sub m p.k2 = none := by rw [hk.2]; rfl
  have cs := comes_sim (y := y) ho (b := b + m) (w := p.wants - m) (l := p.fr.map (C.sub m) ++ [if lf then none else (C.send (yC y) l).1])
  rw [← fr2, ← w1] at cs
  have eC : C.tick (yC y) p lf la = { pl := ⟨(p.turn + m) % y.n, (C.send (yC y) l).2, (p.fr.map (C.sub m) ++ [if lf then none else (C.send (yC y) l).1]).tail, p.an.tail.map (Option.map fun a => (a - m) % y.n) ++ [if la then none else (C.comes (yC y) (p.wants - m) none none (p.fr.map (C.sub m) ++ [if lf then none else (C.send (yC y) l).1])).2.2.map (· % y.n)], (C.comes (yC y) (p.wants - m) none none (p.fr.map (C.sub m) ++ [if lf then none else (C.send (yC y) l).1])).1.1, (C.comes (yC y) (p.wants - m) none none (p.fr.map (C.sub m) ++ [if lf then none else (C.send (yC y) l).1])).1.2.1, (C.comes (yC y) (p.wants - m) none none (p.fr.map (C.sub m) ++ [if lf then none else (C.send (yC y) l).1])).1.2.2⟩
                                      seen := (C.send (yC y) l).1.map fun v => ((p.turn + m) % y.n + v) % y.n
                                      told := (C.comes (yC y) (p.wants - m) none none (p.fr.map (C.sub m) ++ [if lf then none else (C.send (yC y) l).1])).2.2.map fun v => ((p.turn + m) % y.n + v) % y.n
                                      right := C.goods (p.wants - m) (C.comes (yC y) (p.wants - m) none none (p.fr.map (C.sub m) ++ [if lf then none else (C.send (yC y) l).1])).2.1
                                      again := C.again (yC y) l
                                      many := m
                                      given := (C.comes (yC y) (p.wants - m) none none (p.fr.map (C.sub m) ++ [if lf then none else (C.send (yC y) l).1])).2.1 } := by
    simp only [C.tick, C.shift, hm, hl, k1, k2, en]
  rw [eC]
  simp only [tickR, hs, cs]
  generalize C.comes (yC y) (p.wants - m) none none (p.fr.map (C.sub m) ++ [if lf then none else (C.send (yC y) l).1]) = g at *
  have tm : (p.turn + m) % y.n = (b + m) % y.n := by rw [h.turn]; simp
  refine ⟨⟨h2.1, rfl, ?_, ?_, tm⟩, ?_, ?_, trivial⟩
  · rw [fr2, List.map_tail]
  · rw [h.an]
    simp only [List.map_append, ← List.map_tail, List.map_map]
    congr 1
    · apply List.map_congr_left
      intro o _
      cases o with
      | none => rfl
      | some v => simp only [Function.comp, Option.map_some, Int.emod_sub_emod]; congr 2; omega
    · cases la with
      | true => rfl
      | false =>
        cases g.2.2 with
        | none => rfl
        | some v =>
          simp only [Bool.false_eq_true, if_false, Option.map_some, List.map_cons, List.map_nil, Int.emod_sub_emod]
          congr 3; omega
  · rw [h2.2, tm]
    cases (C.send (yC y) l).1 with
    | none => rfl
    | some v => simp
  · rw [tm]
    cases g.2.2 with
    | none => rfl
    | some v => simp
end R

namespace R
open PySem L2 PyProof.Rows HI
def toTk (o : RO) : C.Tk := ⟨o.seen, o.told, o.given⟩
theorem run_sim {y : Way} (ok : WayOk y) (ho : y.kind ≠ "own") {d : Nat} : ∀ (fs : List (Bool × Bool)) (p : C.Pl) (b : Int) (S : RS), C.Wf (yC y) d p → Sm y.n p b S → (runR y S fs).map toTk = (C.run (yC y) p b fs).1
  | [], p, b, S, _, _ => rfl
  | f :: fs, p, b, S, wf, h => by
    have hn : 0 < y.n := by have := ok.w1; have := ok.wn; omega
    have eo : (yC y).own = false := yC_own'.2 ho
    obtain ⟨h1, h2, h3, h4⟩ := tick_sim ho hn (lf := f.1) (la := f.2) h (wf.kb eo)
    have ih := run_sim ok ho fs _ _ _ (C.tick_wf ok.c wf f.1 f.2) h1
    simp only [runR, C.run, List.map_cons, ih, toTk, h2, h3, h4]
theorem begin_sim {y : Way} (ho : y.kind ≠ "own") {d : Nat} : Sm y.n (C.begun (yC y) d) 0 (beginR d) := by
  have eo : (yC y).own = false := yC_own'.2 ho
  refine ⟨⟨0, 0, 0, 0, ?_, rfl, by omega, by omega, fun _ => rfl, .inl rfl⟩, ?_, ?_, ?_, ?_⟩
  · simp [C.begun, eo]
  · rfl
  · simp [beginR, C.begun]
  · simp [beginR, C.begun]
  · simp [C.begun]
theorem ticks_sim {y : Way} (ok : WayOk y) (ho : y.kind ≠ "own") {d : Nat} (hd : d = 1 ∨ d = 2) (l : List Str) : (runR y (beginR d) (l.map fl)).map toTk = ticks y d l :=
  run_sim ok ho _ _ _ _ (C.begun_wf ok.c (by omega)) (begin_sim ho)
theorem row_seen {o : RO} {hp : Hp8} : ixD (rowD o) (.int 0) hp = some (seenD (toTk o)) := rfl
theorem row_given {o : RO} {hp : Hp8} : ixD (rowD o) (.int 1) hp = some (givD (toTk o)) := rfl
end R

namespace R
open PySem L2 PyProof.Rows HI
open C (mx)
/-! dicts by their keys -/
theorem valD_put {kvs : List (Key × D)} {k k' : Key} {d : D} : valD (putD kvs k d) k' = if k = k' then some d else valD kvs k' := by
  have gen : ∀ l : List (Key × D), valD (l.map fun kv => if kv.1 = k then (kv.1, d) else kv) k' = if k = k' ∧ (l.any fun kv => decide (kv.1 = k)) = true then some d else valD l k' := by
    intro l
    induction l with
    | nil => simp [valD]
    | cons x l ih =>
      obtain ⟨a, e⟩ := x
      simp only [List.map_cons, List.any_cons]
      by_cases h1 : a = k
      · subst h1
        simp only [if_true, valD_cons, decide_true, Bool.true_or, and_true]
        by_cases h2 : a = k'
        · simp [h2]
        · simp [h2, ih]
      · simp only [h1, if_false, valD_cons, decide_false, Bool.false_or]
        by_cases h2 : a = k'
        · have : ¬ k = k' := fun e => h1 (by rw [h2, e])
          simp [h2, this]
        · simp [h2, ih]
  have app : ∀ l : List (Key × D), (l.any fun kv => decide (kv.1 = k)) = false → valD (l ++ [(k, d)]) k' = if k = k' then some d else valD l k' := by
    intro l
    induction l with
    | nil => intro _; simp [valD_cons, valD_nil]
    | cons x l ih =>
      obtain ⟨a, e⟩ := x
      intro h
      simp only [List.any_cons, Bool.or_eq_false_iff, decide_eq_false_iff_not] at h
      simp only [List.cons_append, valD_cons, ih h.2]
      by_cases h2 : a = k'
      · have : ¬ k = k' := fun e => h.1 (by rw [h2, e])
        simp [h2, this]
      · simp [h2]
  unfold putD
  split
  · rename_i h
    rw [gen, h]; simp
  · rename_i h
    exact app _ (Bool.eq_false_iff.2 h)
theorem valD_drop {kvs : List (Key × D)} {k k' : Key} : valD (dropD kvs k) k' = if k = k' then none else valD kvs k' := by
  induction kvs with
  | nil => simp [dropD, valD]
  | cons x l ih =>
    obtain ⟨a, e⟩ := x
    by_cases h1 : a = k
    · have : dropD ((a, e) :: l) k = dropD l k := by simp [dropD, h1]
      rw [this, ih, valD_cons]
      by_cases h2 : k = k'
      · simp [h2]
      · have : ¬ a = k' := fun e => h2 (by rw [← h1, e])
        simp [h2, this]
    · have : dropD ((a, e) :: l) k = (a, e) :: dropD l k := by simp [dropD, h1]
      rw [this, valD_cons, valD_cons, ih]
      by_cases h2 : a = k'
      · have : ¬ k = k' := fun e => h1 (by rw [h2, e])
        simp [h2, this]
      · simp [h2]
/-- a dict's keys are these whole numbers -/
def keysI (kvs : List (Key × D)) (ks : List Int) : Prop := kvs.map (·.1) = ks.map Sum.inl
theorem intKeys_of : ∀ {kvs : List (Key × D)} {ks : List Int}, keysI kvs ks → intKeys kvs = some ks
  | [], [], _ => rfl
  | (k, d) :: kvs, [], h => by simp [keysI] at h
  | [], k :: ks, h => by simp [keysI] at h
  | (k, d) :: kvs, i :: ks, h => by
    simp only [keysI, List.map_cons, List.cons.injEq] at h
    obtain ⟨rfl, h⟩ := h
    have := intKeys_of (kvs := kvs) (ks := ks) h
    simp [intKeys, this]
theorem any_key {kvs : List (Key × D)} {ks : List Int} {i : Int} (h : keysI kvs ks) : (kvs.any fun kv => decide (kv.1 = .inl i)) = ks.contains i := by
  have e : (kvs.any fun kv => decide (kv.1 = .inl i)) = (kvs.map (·.1)).any fun k => decide (k = .inl i) := by simp [List.any_map, Function.comp_def]
  rw [e, h]
  simp only [List.any_map, Function.comp_def, Sum.inl.injEq]
  rw [Bool.eq_iff_iff]
  simp
theorem keysI_put {kvs : List (Key × D)} {ks : List Int} {i : Int} {d : D} (h : keysI kvs ks) : keysI (putD kvs (.inl i) d) (if ks.contains i then ks else ks ++ [i]) := by
  unfold putD keysI
  rw [any_key h]
  split
  · rw [← h, List.map_map]
    apply List.map_congr_left
    intro kv _
    simp only [Function.comp]
    split <;> rfl
  · rw [List.map_append, List.map_append, show kvs.map (·.1) = ks.map Sum.inl from h]; rfl
theorem keysI_drop {kvs : List (Key × D)} {ks : List Int} {i : Int} (h : keysI kvs ks) : keysI (dropD kvs (.inl i)) (ks.filter fun j => decide (j ≠ i)) := by
  unfold dropD keysI at *
  have e : (kvs.filter fun kv => decide (kv.1 ≠ .inl i)).map (·.1) = (kvs.map (·.1)).filter fun k => decide (k ≠ .inl i) := by
    rw [List.filter_map]; rfl
  rw [e, h, List.filter_map]
  congr 1
  apply List.filter_congr
  intro j _
  simp
end R

namespace R
open PySem L2 PyProof.Rows HI
open C (mx)
theorem inD_listR {hp : Hp8} {n : Nat} {i : Int} {aw : List Int} (h : hp[n]? = some (.lst (aw.map .int))) : inD (.int i) (.ref n) hp = some (aw.contains i) := by
  have e : inD (.int i) (.ref n) hp = inD (.int i) (.lst (aw.map .int)) hp := by
    have e1 : seqOf hp (.ref n) = some (aw.map .int) := seqOf_ref h
    have e2 : seqOf hp (.lst (aw.map .int)) = some (aw.map .int) := rfl
    have f : (flatD (.int i) && (aw.map D.int).all flatD) = true := by rw [all_ints]; rfl
    show (match seqOf hp (.ref n) with | some ys => if flatD (.int i) && ys.all flatD then some (ys.any fun z => eqF z (.int i)) else _ | none => none) = (match seqOf hp (.lst (aw.map .int)) with | some ys => if flatD (.int i) && ys.all flatD then some (ys.any fun z => eqF z (.int i)) else _ | none => none)
    rw [e1, e2]
    simp only [f, if_true]
  rw [e]
  exact inD_oD (o := some i)
def dpK (x : Option (Nat × List (Key × D))) (k : Option Key) (hp : Hp8) : Option (Res D × Hp8) := match x, k with
  | some (n, kvs), some k => match valD kvs k with
    | some d => some (.ok d, hp.set n (.dic (dropD kvs k)))
    | none => none
  | _, _ => none
theorem e_dpopD {x y : D} {env : Env8} {hp : Hp8} : dpopD x y env hp = dpK (dicOf hp x) (keyD y) hp := rfl
theorem dpK_s {n : Nat} {kvs : List (Key × D)} {k : Key} {hp : Hp8} {d : D} (h : valD kvs k = some d) : dpK (some (n, kvs)) (some k) hp = some (.ok d, hp.set n (.dic (dropD kvs k))) := by simp [dpK, h]
theorem e_sDPop {fo fi : EF} {env : Env8} {hp : Hp8} : sDPop fo fi env hp = bndK (fo env hp) (fun x => bnd (rd fun hp => dicOf hp x) fun _ => bnd fi fun y => dpopD x y) env := rfl
def idK (neg : Bool) (x : Option (Nat × List (Key × D))) (k : Option Key) : Option Bool := match x, k with
  | some (_, kvs), some k => some (if neg then !(valD kvs k).isSome else (valD kvs k).isSome)
  | _, _ => none
theorem e_inDic {neg : Bool} {x y : D} {hp : Hp8} : inDic neg x y hp = idK neg (dicOf hp y) (keyD x) := by
  unfold inDic idK
  cases dicOf hp y with
  | none => rfl
  | some q => cases keyD x <;> rfl
theorem idK_s {neg : Bool} {n : Nat} {kvs : List (Key × D)} {k : Key} : idK neg (some (n, kvs)) (some k) = some (if neg then !(valD kvs k).isSome else (valD kvs k).isSome) := rfl
def sAt (s : SB) (b : Int) : SB := ⟨b, s.next, s.sent, s.clock, s.mark⟩
theorem sp_sAt {s : SB} {x : Int} {c a : Nat} : Cell.dic (sd x s.next s.sent s.clock s.mark c a) = sdc (sAt s x) c a := rfl
theorem hear_while {aw : List Int} {hp : Hp8} {c : Nat} {r x : Cell} {l : List Cell} {env : Env8} (he : env[1]? = some (some (.ref hp.length))) : ∀ (j fuel : Nat) (s : SB), (∀ i : Nat, i < j → aw.contains (s.base + (i : Int)) = true) → aw.contains (s.base + (j : Int)) = false → j < fuel →
    sWhile (sTst (sOp (sCmp inY) (sDGet (sVar 1) (pur (.str "base"))) (sDGet (sVar 1) (pur (.str "answered"))))) L__law_hear_1 fuel env (hp ++ sdc s c (hp.length + 3) :: r :: x :: .lst (aw.map .int) :: l) = some (.nx, env, hp ++ sdc (sAt s (s.base + (j : Int))) c (hp.length + 3) :: r :: x :: .lst (aw.map .int) :: l)
  | j, 0, s, _, _, h => by omega
  | 0, fuel + 1, s, _, h2, _ => by
    have h2 : aw.contains s.base = false := by simpa using h2
    have hin : inD (.int s.base) (.ref (hp.length + 3)) (hp ++ sdc s c (hp.length + 3) :: r :: x :: .lst (aw.map .int) :: l) = some (aw.contains s.base) := inD_listR (by rw [ga_ni]; rfl)
    have h2' : ¬ s.base ∈ aw := by simpa using h2
    rw [e_while]
    simp [he, e_getDic, gdicK_s, dicK_sdc, ga_n0, sd_base, sd_answered, hin, h2', sAt]
  | j + 1, fuel + 1, s, h1, h2, h3 => by
    have h0 : aw.contains s.base = true := by simpa using h1 0 (by omega)
    have hin : inD (.int s.base) (.ref (hp.length + 3)) (hp ++ sdc s c (hp.length + 3) :: r :: x :: .lst (aw.map .int) :: l) = some (aw.contains s.base) := inD_listR (by rw [ga_ni]; rfl)
    have ih := hear_while (aw := aw) (hp := hp) (c := c) (r := r) (x := x) (l := l) he j fuel (sAt s (s.base + 1)) (fun i hi => by have := h1 (i + 1) (by omega); rw [show (sAt s (s.base + 1)).base + (i : Int) = s.base + ((i + 1 : Nat) : Int) by simp [sAt]; omega]; exact this) (by rw [show (sAt s (s.base + 1)).base + (j : Int) = s.base + ((j + 1 : Nat) : Int) by simp [sAt]; omega]; exact h2) (by omega)
    have t : L__law_hear_1 env (hp ++ sdc s c (hp.length + 3) :: r :: x :: .lst (aw.map .int) :: l) = some (.nx, env, hp ++ sdc (sAt s (s.base + 1)) c (hp.length + 3) :: r :: x :: .lst (aw.map .int) :: l) := by
      simp [L__law_hear_1, e_sAugDic, e_augDicK, adK_s, ipA_i, he, e_getDic, gdicK_s, dicK_sdc, ga_n0, gs_n0, sd_base, sp_base, sd_len, sp_sAt]
    have e9 : sAt (sAt s (s.base + 1)) ((sAt s (s.base + 1)).base + (j : Int)) = sAt s (s.base + ((j + 1 : Nat) : Int)) := by
      simp only [sAt, SB.mk.injEq, and_true]; omega
    rw [e9] at ih
    have hinY : inY (.int s.base) (.ref (hp.length + 3)) (hp ++ sdc s c (hp.length + 3) :: r :: x :: .lst (aw.map .int) :: l) = some true := by simp only [inY, hin, h0]; rfl
    rw [e_while]
    simp only [e_sTst, e_sOp, e_sVar, he, varK_some, bndK_ok, e_bnd, e_pur, e_sDGet, e_sRd2, e_getDic, e_dicOf, ga_n0, List.getElem?_cons_zero, dicK_sdc, keyD_s, gdicK_s, sd_base, sd_answered, rdK_some, e_sCmp, hinY, Option.map_some, e_rd, blD_b, eK_ok, if_true, Bool.false_eq_true, if_false, t, whK_nx, ih]
end R

namespace R
open PySem L2 PyProof.Rows HI
open C (mx)
def hitO (w n b : Int) (ck : List (Key × D)) (ans : Int) : Bool := decide ((ans - b) % n < w) && (valD ck (.inl (b + (ans - b) % n))).isSome
def ckO (w n b : Int) (ck : List (Key × D)) (ans : Int) : List (Key × D) := if hitO w n b ck ans then dropD ck (.inl (b + (ans - b) % n)) else ck
def awO (w n b : Int) (ck : List (Key × D)) (aw : List Int) (ans : Int) : List Int := if hitO w n b ck ans then aw ++ [b + (ans - b) % n] else aw
theorem hearO_at {y : Way} (hn : 0 < y.n) (ho : y.kind = "own") {s : SB} {ans : Int} {hp : Hp8} {r : Cell} {ck : List (Key × D)} {aw : List Int} {l : List Cell} {j : Nat} (hck : ck.length < 1000) (haw : aw.length < 1000) (hj : j < fuel8)
    (h1 : ∀ i : Nat, i < j → (awO y.w y.n s.base ck aw ans).contains (s.base + (i : Int)) = true) (h2 : (awO y.w y.n s.base ck aw ans).contains (s.base + (j : Int)) = false) :
    g__law_hear [wayD y, .ref hp.length, .int ans] (hp ++ sdc s (hp.length + 2) (hp.length + 3) :: r :: .dic ck :: .lst (aw.map .int) :: l) =
      some (.ok .non, hp ++ sdc (sAt s (s.base + (j : Int))) (hp.length + 2) (hp.length + 3) :: r :: .dic (ckO y.w y.n s.base ck ans) :: .lst ((awO y.w y.n s.base ck aw ans).map .int) :: l) := by
  show id (runF 10 3 b__law_hear) _ _ = _
  simp only [id]
  have hw := fun env he => hear_while (aw := awO y.w y.n s.base ck aw ans) (hp := hp) (c := hp.length + 2) (r := r) (x := .dic (ckO y.w y.n s.base ck ans)) (l := l) (env := env) he j fuel8 s h1 h2 hj
  generalize hk : (ans - s.base) % y.n = k at *
  have haw' : aw.length < 1000000 := by omega
  cases hh : hitO y.w y.n s.base ck ans with
  | true =>
    have e1 : ckO y.w y.n s.base ck ans = dropD ck (.inl (s.base + k)) := by simp [ckO, hh, hk]
    have e2 : awO y.w y.n s.base ck aw ans = aw ++ [s.base + k] := by simp [awO, hh, hk]
    rw [e1, e2] at hw ⊢
    simp only [hitO, hk, Bool.and_eq_true, decide_eq_true_eq, Option.isSome_iff_exists] at hh
    obtain ⟨g1, v, g2⟩ := hh
    have hw' := fun env he => hw env he
    simp [b__law_hear, e_runF, wayD, ho, hn, hk, e_sPar2, par2K_s, e_getDic, gdicK_s, dicK_sdc, ga_n0, ga_ni, gs_ni, sd_base, sd_clocks, sd_answered, g1, e_inDic, idK_s, g2, e_sDPop, e_dpopD, dpK_s g2, haw']
    rw [show (aw.map D.int ++ [D.int (s.base + k)]) = (aw ++ [s.base + k]).map .int by simp] at *
    rw [hw _ rfl]
    simp
  | false =>
    have e1 : ckO y.w y.n s.base ck ans = ck := by simp [ckO, hh]
    have e2 : awO y.w y.n s.base ck aw ans = aw := by simp [awO, hh]
    rw [e1, e2] at hw ⊢
    simp only [hitO, hk, Bool.and_eq_false_iff, decide_eq_false_iff_not] at hh
    by_cases g1 : k < y.w
    · have g2 : (valD ck (.inl (s.base + k))).isSome = false := by rcases hh with h | h; exact absurd g1 h; exact h
      simp [-Option.isSome_eq_false_iff, b__law_hear, e_runF, wayD, ho, hn, hk, e_sPar2, par2K_s, e_getDic, gdicK_s, dicK_sdc, ga_n0, ga_ni, gs_ni, sd_base, sd_clocks, sd_answered, g1, e_inDic, idK_s, g2]
      rw [hw _ rfl]
      simp
    · simp [b__law_hear, e_runF, wayD, ho, hn, hk, e_sPar2, par2K_s, e_getDic, gdicK_s, dicK_sdc, ga_n0, ga_ni, gs_ni, sd_base, sd_clocks, sd_answered, g1]
      rw [hw _ rfl]
      simp
end R

namespace R
open PySem L2 PyProof.Rows HI
open C (mx)
def mnI (a b : Int) : Int := if b < a then b else a
theorem e_mn {i j : Int} {hp : Hp8} : minD (.int i) (.int j) hp = some (.int (mnI i j)) := rfl
def valI (ck : List (Key × D)) (j : Int) : Int := match valD ck (.inl j) with
  | some (.int v) => v
  | _ => 0
def stepCk (t : Int) (ck : List (Key × D)) (j : Int) : List (Key × D) := putD ck (.inl j) (.int (mnI t (valI ck j + 1)))
theorem send_loop {y : Way} {hp : Hp8} {a0 a1 : Cell} {l : List Cell} {x0 x1 x2 x3 x4 x6 x7 x8 x10 x11 x12 x14 : Option D} : ∀ (js : List Int) (ck : List (Key × D)) (x13 : Option D), (∀ j, j ∈ js → ∃ v, valD ck (.inl j) = some (.int v)) → ck.length + js.length < 1000 →
    ∃ y13, loopL (gNm 13) L__law_send_1 (js.map .int) [x0, x1, x2, x3, x4, some (.int y.t), x6, x7, x8, some (.ref (hp.length + 2)), x10, x11, x12, x13, x14] (hp ++ a0 :: a1 :: .dic ck :: l) =
      some (.nx, [x0, x1, x2, x3, x4, some (.int y.t), x6, x7, x8, some (.ref (hp.length + 2)), x10, x11, x12, y13, x14], hp ++ a0 :: a1 :: .dic (js.foldl (stepCk y.t) ck) :: l)
  | [], ck, x13, _, _ => ⟨x13, by simp⟩
  | j :: js, ck, x13, h, hl => by
    have hl : ck.length + (js.length + 1) < 1000 := hl
    obtain ⟨v, hv⟩ := h j (by simp)
    have hvI : valI ck j = v := by simp [valI, hv]
    have hlen : ck.length < 1000000 := by omega
    have t : L__law_send_1 [x0, x1, x2, x3, x4, some (.int y.t), x6, x7, x8, some (.ref (hp.length + 2)), x10, x11, x12, some (.int j), x14] (hp ++ a0 :: a1 :: .dic ck :: l) = some (.nx, [x0, x1, x2, x3, x4, some (.int y.t), x6, x7, x8, some (.ref (hp.length + 2)), x10, x11, x12, some (.int j), x14], hp ++ a0 :: a1 :: .dic (stepCk y.t ck j) :: l) := by
      simp [-e_minI, e_mn, L__law_send_1, e_getDic, gdicK_s, e_gDix, gdK1_ok, gdK2_ok, gdK3_s, ga_ni, gs_ni, hv, hlen, stepCk, hvI]
    obtain ⟨y13, e⟩ := send_loop (y := y) (hp := hp) (a0 := a0) (a1 := a1) (l := l) (x0 := x0) (x1 := x1) (x2 := x2) (x3 := x3) (x4 := x4) (x6 := x6) (x7 := x7) (x8 := x8) (x10 := x10) (x11 := x11) (x12 := x12) (x14 := x14) js (stepCk y.t ck j) (some (.int j)) (fun i hi => by
      by_cases e : j = i
      · exact ⟨mnI y.t (valI ck j + 1), by simp [stepCk, valD_put, e]⟩
      · obtain ⟨u, hu⟩ := h i (by simp [hi])
        exact ⟨u, by simp [stepCk, valD_put, e, hu]⟩) (by
      have := putD_len (kvs := ck) (k := .inl j) (d := .int (mnI y.t (valI ck j + 1)))
      simp only [stepCk]; omega)
    refine ⟨y13, ?_⟩
    rw [List.map_cons, lp_nm]
    show lpK (gNm 13) L__law_send_1 (js.map .int) (L__law_send_1 [x0, x1, x2, x3, x4, some (.int y.t), x6, x7, x8, some (.ref (hp.length + 2)), x10, x11, x12, some (.int j), x14] (hp ++ a0 :: a1 :: .dic ck :: l)) = _
    rw [t, lpK_nx, e]
    rfl
end R

namespace R
open PySem L2 PyProof.Rows HI
open C (mx)
def dueO (t : Int) (ck : List (Key × D)) (ks : List Int) : List Int := (srt ks).filter fun j => valI ck j == t
def someO (b w : Int) : List Int := (List.range w.toNat).map fun (i : Nat) => b + (i : Int)
def freshO (b w : Int) (ck : List (Key × D)) (aw : List Int) : List Int := (someO b w).filter fun j => !(valD ck (.inl j)).isSome && !aw.contains j
def foundO (t b w : Int) (ck : List (Key × D)) (ks aw : List Int) : Option Int := (dueO t ck ks ++ freshO b w ck aw).head?
def ck1O (t : Int) (ck : List (Key × D)) (ks : List Int) : List (Key × D) := (srt ks).foldl (stepCk t) ck
def ck2O (t b w : Int) (ck : List (Key × D)) (ks aw : List Int) : List (Key × D) := match foundO t b w ck ks aw with
  | some f => putD (ck1O t ck ks) (.inl f) (.int 1)
  | none => ck1O t ck ks
theorem sendO_at {y : Way} (ok : WayOk y) (ho : y.kind = "own") {s : SB} {hp : Hp8} {r : Cell} {ck : List (Key × D)} {ks aw : List Int} {l : List Cell} (hk : keysI ck ks) (hv : ∀ j, j ∈ ks → ∃ v, valD ck (.inl j) = some (.int v)) (hl : ks.length < 64) (hl1 : (ck1O y.t ck ks).length < 1000000) :
    g__law_send [wayD y, .ref hp.length] (hp ++ sdc s (hp.length + 2) (hp.length + 3) :: r :: .dic ck :: .lst (aw.map .int) :: l) =
      some (.ok (oD (foundO y.t s.base y.w ck ks aw)), hp ++ sdc s (hp.length + 2) (hp.length + 3) :: r :: .dic (ck2O y.t s.base y.w ck ks aw) :: .lst (aw.map .int) :: l) := by
  show id (runF 15 2 b__law_send) _ _ = _
  simp only [id]
  have w1 := ok.w1; have w3 := ok.w3
  have hik := intKeys_of hk
  have hs : ∀ (x : List Cell), sortD (.ref (hp.length + 2)) (hp ++ sdc s (hp.length + 2) (hp.length + 3) :: r :: .dic ck :: x) = some (.lst ((srt ks).map .int)) := fun x => sortD_e (n := hp.length + 2) (by simp [ga_ni]) hik hl
  have hv' : ∀ j, j ∈ srt ks → valD ck (.inl j) = some (.int (valI ck j)) := fun j hj => by
    obtain ⟨v, e⟩ := hv j ((srt_perm ks).mem_iff.1 hj)
    simp [valI, e]
  have hls : (srt ks).length < 64 := by rw [(srt_perm ks).length_eq]; exact hl
  have lc1 : ∀ x0 x2 x3 x4 x6 : Option D, loopC (.nm 13) (sTst (sOp (sCmp eqD) (sDGet (sDGet (sVar 1) (pur (.str "clocks"))) (sVar 13)) (sVar 5))) (sVar 13) [x0, some (.ref hp.length), x2, x3, x4, some (.int y.t), x6, none, none, none, none, none, none, none, none] ((srt ks).map .int) [] (hp ++ sdc s (hp.length + 2) (hp.length + 3) :: r :: .dic ck :: .lst (aw.map .int) :: l) = some ((dueO y.t ck ks).map .int, hp ++ sdc s (hp.length + 2) (hp.length + 3) :: r :: .dic ck :: .lst (aw.map .int) :: l) := fun x0 x2 x3 x4 x6 => by
    rw [loopC_map D.int (fun j => valI ck j == y.t) D.int _ [] (fun j hj => ⟨_, rfl, by simp [e_getDic, gdicK_s, dicK_sdc, ga_n0, ga_ni, sd_clocks, hv' j hj], fun _ => by simp⟩) (by simp; omega)]
    simp [dueO]
  have er : rngD 0 y.w.toNat = ((List.range y.w.toNat).map fun (i : Nat) => (i : Int)).map .int := by simp [rngD, Function.comp_def]
  have okw : okRng y.w = true := by simp [okRng]; omega
  have lc2 : ∀ x0 x1 x2 x3 x4 x5 x7 : Option D, ∀ h, loopC (.nm 14) tfYes (sAdd (sVar 6) (sVar 14)) [x0, x1, x2, x3, x4, x5, some (.int s.base), x7, none, none, none, none, none, none, none] (((List.range y.w.toNat).map fun (i : Nat) => (i : Int)).map .int) [] h = some ((someO s.base y.w).map .int, h) := fun x0 x1 x2 x3 x4 x5 x7 h => by
    rw [loopC_all D.int (fun i => D.int (s.base + i)) _ (fun i _ => ⟨_, rfl, by simp⟩) (by simp; omega)]
    simp [someO, Function.comp_def]
  have hin : ∀ j, inD (.int j) (.ref (hp.length + 3)) (hp ++ sdc s (hp.length + 2) (hp.length + 3) :: r :: .dic ck :: .lst (aw.map .int) :: l) = some (aw.contains j) := fun j => inD_listR (by rw [ga_ni]; rfl)
  have lc3 : ∀ x0 x2 x3 x4 x5 x6 x7 x8 : Option D, loopC (.nm 13) (tfAnd (sTst (sOp (sCmp (inDic true)) (sVar 13) (sVar 9))) (sTst (sOp (sCmp inN) (sVar 13) (sVar 10)))) (sVar 13) [x0, some (.ref hp.length), x2, x3, x4, x5, x6, x7, x8, some (.ref (hp.length + 2)), some (.ref (hp.length + 3)), none, none, none, none] ((someO s.base y.w).map .int) [] (hp ++ sdc s (hp.length + 2) (hp.length + 3) :: r :: .dic ck :: .lst (aw.map .int) :: l) = some ((freshO s.base y.w ck aw).map .int, hp ++ sdc s (hp.length + 2) (hp.length + 3) :: r :: .dic ck :: .lst (aw.map .int) :: l) := fun x0 x2 x3 x4 x5 x6 x7 x8 => by
    rw [loopC_map D.int (fun j => !(valD ck (.inl j)).isSome && !aw.contains j) D.int _ [] (fun j hj => ⟨_, rfl, by
      cases q : (valD ck (.inl j)).isSome with
      | true => simp [e_inDic, idK_s, ga_ni, q]
      | false => simp [-Option.isSome_eq_false_iff, e_inDic, idK_s, ga_ni, q, hin], fun _ => by simp⟩) (by simp [someO]; omega)]
    simp [freshO]
  obtain ⟨y13, lp⟩ := send_loop (y := y) (hp := hp) (a0 := sdc s (hp.length + 2) (hp.length + 3)) (a1 := r) (l := .lst (aw.map .int) :: l) (x0 := some (wayD y)) (x1 := some (.ref hp.length)) (x2 := some (.str "own")) (x3 := some (.int y.w)) (x4 := some (.int y.n)) (x6 := some (.int s.base)) (x7 := some (.lst ((dueO y.t ck ks).map .int))) (x8 := some (.lst ((someO s.base y.w).map .int))) (x10 := some (.ref (hp.length + 3))) (x11 := some (.lst ((freshO s.base y.w ck aw).map .int))) (x12 := some (oD (foundO y.t s.base y.w ck ks aw))) (x14 := none) (srt ks) ck none (fun j hj => ⟨_, hv' j hj⟩) (by
    have := congrArg List.length hk
    simp at this
    omega)
  have szl : (dueO y.t ck ks).length + (freshO s.base y.w ck aw).length + 1 ≤ sizeLine := by
    have h1 : (dueO y.t ck ks).length ≤ 64 := by
      have := List.length_filter_le (fun j => valI ck j == y.t) (srt ks)
      simp only [dueO]; omega
    have h2 : (freshO s.base y.w ck aw).length ≤ 3 := by
      have := List.length_filter_le (fun j => !(valD ck (.inl j)).isSome && !aw.contains j) (someO s.base y.w)
      have e : (someO s.base y.w).length = y.w.toNat := by simp [someO]
      simp only [freshO]; omega
    have h3 : 1000 ≤ sizeLine := by decide +kernel
    omega
  have szl' : (dueO y.t ck ks).length + (freshO s.base y.w ck aw).length ≤ sizeLine := by omega
  have hd : atI ((dueO y.t ck ks).map D.int ++ (freshO s.base y.w ck aw).map D.int ++ [D.non]) 0 = some (oD (foundO y.t s.base y.w ck ks aw)) := by
    unfold foundO
    cases e1 : dueO y.t ck ks with
    | cons a as => simp [oD]
    | nil =>
      cases e2 : freshO s.base y.w ck aw with
      | cons a as => simp [oD]
      | nil => simp [oD]
  have ew : wayD y = .tup [.str "own", .int y.w, .int y.n, .int y.t] := by simp [wayD, ho]
  rw [ew] at lp ⊢
  cases hf : foundO y.t s.base y.w ck ks aw with
  | none =>
    rw [hf] at lp hd
    simp only [oDn] at lp hd
    have e2 : ck2O y.t s.base y.w ck ks aw = (srt ks).foldl (stepCk y.t) ck := by simp [ck2O, hf, ck1O]
    rw [e2]
    simp [-List.map_map, -List.append_assoc, b__law_send, e_runF, e_getDic, gdicK_s, dicK_sdc, ga_n0, ga_ni, gs_ni, sd_base, sd_clocks, sd_answered, hs, lc1, lc2, lc3, er, okw, szl, szl', lp, hd, oDn]
    done
  | some f =>
    rw [hf] at lp hd
    simp only [oDs] at lp hd
    have e2 : ck2O y.t s.base y.w ck ks aw = putD ((srt ks).foldl (stepCk y.t) ck) (.inl f) (.int 1) := by simp [ck2O, hf, ck1O]
    rw [e2]
    have hl1' : ((srt ks).foldl (stepCk y.t) ck).length < 1000000 := hl1
    simp [-List.map_map, -List.append_assoc, b__law_send, e_runF, e_getDic, gdicK_s, dicK_sdc, e_gDix, gdK1_ok, gdK2_ok, gdK3_s, ga_n0, ga_ni, gs_ni, sd_base, sd_clocks, sd_answered, hs, lc1, lc2, lc3, er, okw, szl, szl', lp, hd, oDs, hl1']
    done
end R

namespace R
open PySem L2 PyProof.Rows HI
open C (mx)
/-! an own receiver gets a letter; the cell of what is given lies behind the others -/
def kpO (w n wants : Int) (kp : List (Key × D)) (letter : Int) : List (Key × D) :=
  if decide ((letter - wants) % n < w) && !(valD kp (.inl (wants + (letter - wants) % n))).isSome then putD kp (.inl (wants + (letter - wants) % n)) (.int letter) else kp
def dropsO (kp : List (Key × D)) (wants : Int) : Nat → List (Key × D)
  | 0 => kp
  | j + 1 => dropsO (dropD kp (.inl wants)) (wants + 1) j
def givesO (kp : List (Key × D)) (wants : Int) : Nat → List D
  | 0 => []
  | j + 1 => (match valD kp (.inl wants) with | some d => d | none => .non) :: givesO (dropD kp (.inl wants)) (wants + 1) j
/-- j letters are there in turn -/
def runsO (kp : List (Key × D)) (wants : Int) : Nat → Prop
  | 0 => (valD kp (.inl wants)).isSome = false
  | j + 1 => (valD kp (.inl wants)).isSome = true ∧ runsO (dropD kp (.inl wants)) (wants + 1) j
theorem get_while {hp : Hp8} {a0 a2 a3 : Cell} {l m : List Cell} {env : Env8} (he : env[1]? = some (some (.ref (hp.length + 1)))) (he8 : env[8]? = some (some (.ref (hp.length + (l.length + 5))))) : ∀ (j fuel : Nat) (kp : List (Key × D)) (wants : Int) (gv : List D), runsO kp wants j → j < fuel → gv.length + j < 1000 →
    sWhile (sTst (sOp (sCmp (inDic false)) (sDGet (sVar 1) (pur (.str "wants"))) (sDGet (sVar 1) (pur (.str "kept"))))) L__law_get_1 fuel env (hp ++ a0 :: .dic (rd0 wants (hp.length + 4)) :: a2 :: a3 :: .dic kp :: (l ++ [.lst gv])) =
      some (.nx, env, hp ++ a0 :: .dic (rd0 (wants + (j : Int)) (hp.length + 4)) :: a2 :: a3 :: .dic (dropsO kp wants j) :: (l ++ [.lst (gv ++ givesO kp wants j)]))
  | j, 0, kp, wants, gv, _, h, _ => by omega
  | 0, fuel + 1, kp, wants, gv, h1, _, _ => by
    have h1 : (valD kp (.inl wants)).isSome = false := h1
    rw [e_while]
    simp [-Option.isSome_eq_false_iff, he, e_getDic, gdicK_s, ga_ni, rd_wants, rd_kept, e_inDic, idK_s, h1, dropsO, givesO]
  | j + 1, fuel + 1, kp, wants, gv, h1, h2, h3 => by
    obtain ⟨g1, g2⟩ := h1
    obtain ⟨v, hv⟩ := Option.isSome_iff_exists.1 g1
    have ih := get_while (a0 := a0) (a2 := a2) (a3 := a3) (l := l) (m := m) he he8 j fuel (dropD kp (.inl wants)) (wants + 1) (gv ++ [v]) g2 (by omega) (by simp; omega)
    have hg : (a0 :: Cell.dic (rd0 wants (hp.length + 4)) :: a2 :: a3 :: .dic kp :: (l ++ [.lst gv]))[l.length + 5]? = some (.lst gv) := by simp
    have hlen : gv.length < 1000000 := by omega
    have t : L__law_get_1 env (hp ++ a0 :: .dic (rd0 wants (hp.length + 4)) :: a2 :: a3 :: .dic kp :: (l ++ [.lst gv])) = some (.nx, env, hp ++ a0 :: .dic (rd0 (wants + 1) (hp.length + 4)) :: a2 :: a3 :: .dic (dropD kp (.inl wants)) :: (l ++ [.lst (gv ++ [v])])) := by
      simp [L__law_get_1, he, he8, e_getDic, gdicK_s, ga_ni, gs_ni, rd_wants, rd_kept, rp_wants, rd_len, e_sDPop, e_dpopD, dpK_s hv, e_sAugDic, e_augDicK, adK_s, ipA_i, hlen]
    have e9 : wants + 1 + (j : Int) = wants + ((j + 1 : Nat) : Int) := by omega
    rw [e9] at ih
    rw [e_while]
    simp [-List.append_assoc, he, e_getDic, gdicK_s, ga_ni, rd_wants, rd_kept, e_inDic, idK_s, hv, t]
    rw [ih]
    simp [dropsO, givesO, hv]
theorem getO_at {y : Way} (hn : 0 < y.n) (ho : y.kind = "own") {wants letter : Int} {hp : Hp8} {a0 a2 a3 : Cell} {kp : List (Key × D)} {l : List Cell} {j : Nat} (hj : j < fuel8) (hj2 : j < 100) (hkp : kp.length < 1000) (hr : runsO (kpO y.w y.n wants kp letter) wants j) :
    g__law_get [wayD y, .ref (hp.length + 1), .int letter] (hp ++ a0 :: .dic (rd0 wants (hp.length + 4)) :: a2 :: a3 :: .dic kp :: l) =
      some (.ok (.tup [.ref (hp.length + (l.length + 5)), .int (letter % y.n)]), hp ++ a0 :: .dic (rd0 (wants + (j : Int)) (hp.length + 4)) :: a2 :: a3 :: .dic (dropsO (kpO y.w y.n wants kp letter) wants j) :: (l ++ [.lst (givesO (kpO y.w y.n wants kp letter) wants j)])) := by
  show id (runF 10 3 b__law_get) _ _ = _
  simp only [id]
  have hw := fun env he he8 => get_while (hp := hp) (a0 := a0) (a2 := a2) (a3 := a3) (l := l) (m := []) (env := env) he he8 j fuel8 (kpO y.w y.n wants kp letter) wants [] hr hj (by simp; omega)
  generalize hk : (letter - wants) % y.n = k at *
  have hlen : kp.length < 1000000 := by omega
  have hl5 : l.length + 1 + 1 + 1 + 1 + 1 = l.length + 5 := rfl
  by_cases g1 : k < y.w
  · cases g2 : (valD kp (.inl (wants + k))).isSome with
    | true =>
      have e1 : kpO y.w y.n wants kp letter = kp := by simp [kpO, hk, g1, g2]
      rw [e1] at hw ⊢
      obtain ⟨v, hv⟩ := Option.isSome_iff_exists.1 g2
      simp [b__law_get, e_runF, wayD, ho, hn, hk, e_sPar2, par2K_s, e_getDic, gdicK_s, ga_ni, gs_ni, hl5, rd_wants, rd_kept, g1, e_inDic, idK_s, hv]
      rw [hw _ rfl (by simp)]
      simp [hn]
    | false =>
      have e1 : kpO y.w y.n wants kp letter = putD kp (.inl (wants + k)) (.int letter) := by simp [-Option.isSome_eq_false_iff, kpO, hk, g1, g2]
      rw [e1] at hw ⊢
      simp [-Option.isSome_eq_false_iff, b__law_get, e_runF, wayD, ho, hn, hk, e_sPar2, par2K_s, e_getDic, gdicK_s, e_gDix, gdK1_ok, gdK2_ok, gdK3_s, ga_ni, gs_ni, hl5, rd_wants, rd_kept, g1, e_inDic, idK_s, g2, hlen]
      rw [hw _ rfl (by simp)]
      simp [hn]
  · have e1 : kpO y.w y.n wants kp letter = kp := by simp [kpO, hk, g1]
    rw [e1] at hw ⊢
    simp [b__law_get, e_runF, wayD, ho, hn, hk, e_sPar2, par2K_s, e_getDic, gdicK_s, ga_ni, gs_ni, hl5, rd_wants, rd_kept, g1]
    rw [hw _ rfl (by simp)]
    simp [hn]
end R

namespace R
open PySem L2 PyProof.Rows HI
open C (mx)
/-- one tick of kind own, by what its parts do -/
theorem tickO_ok {y : Way} (ok : WayOk y) (ho : y.kind = "own") {hp : Hp8} {d : D} {s s1 s2 : SB} {wants wants' : Int} {ck ck1 ck2 kp kp' : List (Key × D)} {aw aw1 : List Int} {fr an : List (Option Int)} {x : Option Int} {an' : List (Option Int)} {q1 : Option Int} {ks1 : List Int} {gv : List Int} {ret : Int} {f : Option Int} {fs : List (Option Int)} {z : Str} {x0 : Nat}
    (h : StAt x0 hp d (sdc s) (fun k => .dic (rd0 wants k)) ck (aw.map .int) kp (fr.map oD) (an.map oD)) (ea : an = x :: an') (hf : fr.length ≤ 100) (ha : an'.length ≤ 100)
    (hear1 : ∀ a r l, x = some a → g__law_hear [wayD y, .ref hp.length, .int a] (hp ++ sdc s (hp.length + 2) (hp.length + 3) :: r :: .dic ck :: .lst (aw.map .int) :: l) = some (.ok .non, hp ++ sdc s1 (hp.length + 2) (hp.length + 3) :: r :: .dic ck1 :: .lst (aw1.map .int) :: l))
    (hear0 : x = none → s = s1 ∧ ck = ck1 ∧ aw = aw1) (hk : keysI ck1 ks1) (hkl : ks1.length < 64)
    (send1 : ∀ r l, g__law_send [wayD y, .ref hp.length] (hp ++ sdc s1 (hp.length + 2) (hp.length + 3) :: r :: .dic ck1 :: .lst (aw1.map .int) :: l) = some (.ok (oD q1), hp ++ sdc s2 (hp.length + 2) (hp.length + 3) :: r :: .dic ck2 :: .lst (aw1.map .int) :: l))
    (hfs : fr ++ [if lostF z then none else q1] = f :: fs)
    (get1 : ∀ c a0 a2 a3 l, f = some c → g__law_get [wayD y, .ref (hp.length + 1), .int c] (hp ++ a0 :: .dic (rd0 wants (hp.length + 4)) :: a2 :: a3 :: .dic kp :: l) = some (.ok (.tup [.ref (hp.length + (l.length + 5)), .int ret]), hp ++ a0 :: .dic (rd0 wants' (hp.length + 4)) :: a2 :: a3 :: .dic kp' :: (l ++ [.lst (gv.map .int)])))
    (hgv : gv.length ≤ 100) (get0 : f = none → wants' = wants ∧ kp' = kp ∧ gv = []) :
    ∃ rt gd l st, g__law_tick [wayD y, d, .str z] hp = some (.ok (.tup [st, .tup [oD (q1.map (· % y.n)), oD (f.map fun _ => ret)], gd, .bl rt, .bl (isIn q1 (srt ks1))]), hp ++ l) ∧
      (∀ x, x < hp.length → gd ≠ .ref x ∧ StAt x (hp ++ l) st (sdc s2) (fun k => .dic (rd0 wants' k)) ck2 (aw1.map .int) kp' (fs.map oD) ((an' ++ [if lostA z then none else f.map fun _ => ret]).map oD)) ∧ lstM (hp ++ l) gd = some (gv.map .int) := by
  have hn : 0 < y.n := by have := ok.w1; have := ok.wn; omega
  have ec := copy_ok h
  have infb : ∀ hp, inD (.str z) (.tup [.str "frame", .str "both"]) hp = some (lostF z) := fun hp => inD_strsT (l := ["frame", "both"])
  have inab : ∀ hp, inD (.str z) (.tup [.str "answer", .str "both"]) hp = some (lostA z) := fun hp => inD_strsT (l := ["answer", "both"])
  have hl100 : fr.length < 1000000 := by omega
  have hl101 : an'.length < 1000000 := by omega
  have hfD : fr.map oD ++ [oD (if lostF z then none else q1)] = oD f :: fs.map oD := by
    have := congrArg (List.map oD) hfs
    simpa using this
  have hin : ∀ hp, inD (oD q1) (.lst ((srt ks1).map .int)) hp = some (isIn q1 (srt ks1)) := fun _ => inD_oD
  have hw : ∀ {hp}, ixD (wayD y) (.int 0) hp = some (.str "own") := by intro hp; simp [wayD, ho]
  have hw2 : ∀ {hp}, ixD (wayD y) (.int 2) hp = some (.int y.n) := rfl
  have hs : ∀ (a1 : Cell) (x : List Cell), sortD (.ref (hp.length + 2)) (hp ++ sdc s1 (hp.length + 2) (hp.length + 3) :: a1 :: .dic ck1 :: x) = some (.lst ((srt ks1).map .int)) := fun a1 x => sortD_e (n := hp.length + 2) (by simp [ga_ni]) (intKeys_of hk) hkl
  cases f with
  | none =>
    obtain ⟨rfl, rfl, rfl⟩ := get0 rfl
    refine ⟨true, .lst [], [sdc s2 (hp.length + 2) (hp.length + 3), .dic (rd0 wants' (hp.length + 4)), .dic ck2, .lst (aw1.map .int), .dic kp', .lst (fs.map oD), .lst (an'.map oD ++ [.non])], .lst [.ref hp.length, .ref (hp.length + 1), .ref (hp.length + 5), .ref (hp.length + 6)], ?_, ?_, ?_⟩
    · show id (runF 17 3 b__law_tick) _ hp = _
      simp only [id]
      cases x with
      | none =>
        obtain ⟨rfl, rfl, rfl⟩ := hear0 rfl
        cases hlf : lostF z <;> cases hla : lostA z <;> cases q1 <;> simp only [hlf, if_true, if_false, Bool.false_eq_true, oDn, oDs] at hfD hin <;> simp [-List.map_map, b__law_tick, e_runF, ec, news, e_gLs, ea, e_sPopAt, pop1_e, popK_s, ga_n0, ga_ni, gs_n0, gs_ni, oDn, oDs, send1, e_getDic, gdicK_s, dicK_sdc, sd_clocks, rd_wants, hw, hw2, hn, infb, inab, hlf, hla, hfD, hl100, hl101, hin, hs, eqI0, rng00, okR0]
      | some a =>
        cases hlf : lostF z <;> cases hla : lostA z <;> cases q1 <;> simp only [hlf, if_true, if_false, Bool.false_eq_true, oDn, oDs] at hfD hin <;> simp [-List.map_map, b__law_tick, e_runF, ec, news, e_gLs, ea, e_sPopAt, pop1_e, popK_s, ga_n0, ga_ni, gs_n0, gs_ni, oDn, oDs, hear1, send1, e_getDic, gdicK_s, dicK_sdc, sd_clocks, rd_wants, hw, hw2, hn, infb, inab, hlf, hla, hfD, hl100, hl101, hin, hs, eqI0, rng00, okR0]
    · refine fun x hx => ⟨by simp, hp.length, hp.length + 1, hp.length + 2, hp.length + 3, hp.length + 4, .ref (hp.length + 5), .ref (hp.length + 6), rfl, by simp [ga_n0], by simp [ga_ni], by simp [ga_ni], by simp [ga_ni], by simp [ga_ni], seqOf_ref (by simp [ga_ni]), seqOf_ref (by simp [ga_ni, oDn]), by omega, by omega, by omega, by omega, by omega, by simp; omega, by simp; omega⟩
    · rfl
  | some c =>
    have okg : okRng (gv.length : Int) = true := by simp [okRng]; omega
    have rg : rngD 0 gv.length = ((List.range gv.length).map fun (i : Nat) => (i : Int)).map .int := by simp [rngD, Function.comp_def]
    have lcr : ∀ x0 x1 x2 x3 x4 x5 x6 x7 x8 x9 x10 x11 x12 x14 x15 : Option D, ∀ h, loopC (.nm 16) tfYes (sAdd (sVar 13) (sVar 16)) [x0, x1, x2, x3, x4, x5, x6, x7, x8, x9, x10, x11, x12, some (.int wants), x14, x15, none] (((List.range gv.length).map fun (i : Nat) => (i : Int)).map .int) [] h = some (((List.range gv.length).map fun (i : Nat) => wants + (i : Int)).map .int, h) := fun x0 x1 x2 x3 x4 x5 x6 x7 x8 x9 x10 x11 x12 x14 x15 h => by
      rw [loopC_all D.int (fun i => D.int (wants + i)) _ (fun i _ => ⟨_, rfl, by simp⟩) (by simp; omega)]
      simp [Function.comp_def]
    refine ⟨decide (gv = (List.range gv.length).map fun (i : Nat) => wants + (i : Int)), .ref (hp.length + 7), [sdc s2 (hp.length + 2) (hp.length + 3), .dic (rd0 wants' (hp.length + 4)), .dic ck2, .lst (aw1.map .int), .dic kp', .lst (fs.map oD), .lst (an'.map oD ++ [oD (if lostA z then none else some ret)]), .lst (gv.map .int)], .lst [.ref hp.length, .ref (hp.length + 1), .ref (hp.length + 5), .ref (hp.length + 6)], ?_, ?_, ?_⟩
    · show id (runF 17 3 b__law_tick) _ hp = _
      simp only [id]
      cases x with
      | none =>
        obtain ⟨rfl, rfl, rfl⟩ := hear0 rfl
        cases hlf : lostF z <;> cases hla : lostA z <;> cases q1 <;> simp only [hlf, if_true, if_false, Bool.false_eq_true, oDn, oDs] at hfD hin <;> simp [-List.map_map, b__law_tick, e_runF, ec, news, e_gLs, ea, e_sPopAt, pop1_e, popK_s, ga_n0, ga_ni, gs_n0, gs_ni, oDn, oDs,  send1, e_getDic, gdicK_s, dicK_sdc, sd_clocks, rd_wants, hw, hw2, hn, infb, inab, hlf, hla, hfD, hl100, hl101, hin, hs, get1, eqR7, okg, rg, lcr, eqI]
      | some a =>
        cases hlf : lostF z <;> cases hla : lostA z <;> cases q1 <;> simp only [hlf, if_true, if_false, Bool.false_eq_true, oDn, oDs] at hfD hin <;> simp [-List.map_map, b__law_tick, e_runF, ec, news, e_gLs, ea, e_sPopAt, pop1_e, popK_s, ga_n0, ga_ni, gs_n0, gs_ni, oDn, oDs, hear1, send1, e_getDic, gdicK_s, dicK_sdc, sd_clocks, rd_wants, hw, hw2, hn, infb, inab, hlf, hla, hfD, hl100, hl101, hin, hs, get1, eqR7, okg, rg, lcr, eqI]
    · refine fun x hx => ⟨by simp; omega, hp.length, hp.length + 1, hp.length + 2, hp.length + 3, hp.length + 4, .ref (hp.length + 5), .ref (hp.length + 6), rfl, by simp [ga_n0], by simp [ga_ni], by simp [ga_ni], by simp [ga_ni], by simp [ga_ni], seqOf_ref (by simp [ga_ni]), seqOf_ref (by simp [ga_ni]), by omega, by omega, by omega, by omega, by omega, by simp; omega, by simp; omega⟩
    · show (match (hp ++ _)[hp.length + 7]? with | some (.lst ds) => some ds | _ => none) = _
      simp [ga_ni]
end R

namespace C
/-! slots of an own sender, by absolute letters -/
def atZ (b : Int) (l : List Int) (j : Int) : Int := if b ≤ j then l.getD (j - b).toNat 0 else 0
theorem atZ_base {b : Int} {l : List Int} {i : Nat} : atZ b l (b + (i : Int)) = l.getD i 0 := by
  have : (b + (i : Int) - b).toNat = i := by omega
  simp [atZ, this, show b ≤ b + (i : Int) by omega]
theorem atZ_out {b : Int} {l : List Int} {j : Int} (h : ¬ (b ≤ j ∧ j < b + l.length)) : atZ b l j = 0 := by
  unfold atZ
  split
  · rw [List.getD_eq_getElem?_getD, List.getElem?_eq_none (by omega)]; rfl
  · rfl
theorem atZ_in {b : Int} {l : List Int} {j : Int} (h : b ≤ j ∧ j < b + l.length) : ∃ i : Nat, i < l.length ∧ j = b + i ∧ atZ b l j = l.getD i 0 :=
  ⟨(j - b).toNat, by omega, by omega, by simp [atZ, h.1]⟩
theorem atZ_set {b : Int} {l : List Int} {i : Nat} {x j : Int} (h : i < l.length) : atZ b (l.set i x) j = if b + (i : Int) = j then x else atZ b l j := by
  unfold atZ
  by_cases hj : b ≤ j
  · simp only [hj, if_true, List.getD_eq_getElem?_getD, List.getElem?_set]
    by_cases e : b + (i : Int) = j
    · have : i = (j - b).toNat := by omega
      simp [e, ← this, h]
    · have : ¬ i = (j - b).toNat := by omega
      simp [e, this]
  · have : ¬ b + (i : Int) = j := by omega
    simp [hj, this]
theorem atZ_drop {b : Int} {m : List Int} {c : Nat} {j : Int} (h : c ≤ m.length) : atZ (b + (c : Int)) (m.drop c ++ List.replicate c 0) j = if b + (c : Int) ≤ j then atZ b m j else 0 := by
  unfold atZ
  by_cases hj : b + (c : Int) ≤ j
  · simp only [hj, if_true, show b ≤ j by omega, List.getD_eq_getElem?_getD]
    have e : (j - b).toNat = c + (j - (b + c)).toNat := by omega
    rw [e]
    generalize (j - (b + c)).toNat = k
    by_cases hk : k < m.length - c
    · rw [List.getElem?_append_left (by simpa using hk), List.getElem?_drop]
    · rw [List.getElem?_append_right (by simp; omega), List.getElem?_eq_none (l := m) (by omega)]
      rw [List.getElem?_replicate]
      split <;> rfl
  · simp [hj]
theorem atZ_map {b : Int} {l : List Int} {f : Int → Int} {j : Int} (h : f 0 = 0) : atZ b (l.map f) j = f (atZ b l j) := by
  unfold atZ
  split
  · simp only [List.getD_eq_getElem?_getD, List.getElem?_map]
    cases l[(j - b).toNat]? <;> simp [h]
  · exact h.symm
theorem cntA_lt : ∀ {m : List Int} {i : Nat}, i < cntA m → m.getD i 0 = -1
  | [], i, h => by simp [cntA] at h
  | x :: l, i, h => by
    unfold cntA at h
    split at h
    · rename_i e
      cases i with
      | zero => simpa using e
      | succ i => simpa using cntA_lt (m := l) (i := i) (by omega)
    · omega
theorem cntA_at : ∀ {m : List Int}, m.getD (cntA m) 0 ≠ -1
  | [] => by simp [cntA]
  | x :: l => by
    unfold cntA
    split
    · simpa using cntA_at (m := l)
    · rename_i e; simpa using e
theorem pos1_eq : ∀ (l : List Int) (v : Int) (k : Nat), pos1 v k l = ((List.range l.length).filter fun i => l.getD i 0 == v).map (k + ·)
  | [], v, k => rfl
  | x :: l, v, k => by
    have ih := pos1_eq l v (k + 1)
    have e : (((List.range l.length).map Nat.succ).filter fun i => (x :: l).getD i 0 == v).map (k + ·) = pos1 v (k + 1) l := by
      rw [ih, List.filter_map, List.map_map]
      have : (fun i => (x :: l).getD i 0 == v) ∘ Nat.succ = fun i => l.getD i 0 == v := by funext i; simp
      rw [this]
      apply List.map_congr_left
      intro i _
      simp only [Function.comp]
      omega
    rw [List.length_cons, List.range_succ_eq_map, List.filter_cons, List.getD_cons_zero]
    unfold pos1
    by_cases h : x = v
    · subst h
      simp only [if_true, beq_self_eq_true, List.map_cons]
      rw [e]; rfl
    · simp only [h, if_false, beq_iff_eq]
      rw [e]
theorem stepM_neg {t x : Int} (ht : 1 ≤ t) (hx : -1 ≤ x) : stepM t x = -1 ↔ x = -1 := by
  unfold stepM
  split
  · split <;> omega
  · rfl
theorem stepM_lo {t x : Int} (ht : 1 ≤ t) (hx : -1 ≤ x) : -1 ≤ stepM t x := by
  unfold stepM
  split
  · split <;> omega
  · exact hx
theorem getD_lo {l : List Int} (h : ∀ x, x ∈ l → -1 ≤ x) (i : Nat) : -1 ≤ l.getD i 0 := by
  rw [List.getD_eq_getElem?_getD]
  cases e : l[i]? with
  | none => simp
  | some v => exact h v (List.mem_of_getElem? e)
theorem atZ_lo {b : Int} {l : List Int} (h : ∀ x, x ∈ l → -1 ≤ x) (j : Int) : -1 ≤ atZ b l j := by
  unfold atZ
  split
  · exact getD_lo h _
  · omega
end C

namespace R
open PySem L2 PyProof.Rows HI
open C (mx atZ)
/-! an own sender: the reference's dict and list against the program's slots -/
structure On (b : Int) (l : List Int) (ck : List (Key × D)) (ks aw : List Int) : Prop where
  hk : keysI ck ks
  nd : ks.Nodup
  hv : ∀ j, valD ck (.inl j) = if 0 < atZ b l j then some (.int (atZ b l j)) else none
  ha : ∀ j, b ≤ j → aw.contains j = decide (atZ b l j = -1)
  h0 : atZ b l b ≠ -1
  hr : ∀ x, x ∈ l → -1 ≤ x
theorem mem_keys : ∀ {ck : List (Key × D)} {ks : List Int} {j : Int}, keysI ck ks → (j ∈ ks ↔ (valD ck (.inl j)).isSome = true)
  | [], [], j, _ => by simp [valD]
  | (k, d) :: kvs, [], j, h => by simp [keysI] at h
  | [], k :: ks, j, h => by simp [keysI] at h
  | (k, d) :: kvs, i :: ks, j, h => by
    simp only [keysI, List.map_cons, List.cons.injEq] at h
    obtain ⟨rfl, h⟩ := h
    have ih := mem_keys (j := j) (ck := kvs) (ks := ks) h
    rw [valD_cons, List.mem_cons, ih]
    by_cases e : i = j
    · simp [e]
    · have : ¬ j = i := fun z => e z.symm
      simp [e, this]
theorem On.mem {b : Int} {l : List Int} {ck : List (Key × D)} {ks aw : List Int} (h : On b l ck ks aw) {j : Int} : j ∈ ks ↔ 0 < atZ b l j := by
  rw [mem_keys h.hk, h.hv]
  split <;> simp_all
theorem On.val {b : Int} {l : List Int} {ck : List (Key × D)} {ks aw : List Int} (h : On b l ck ks aw) {j : Int} (hj : j ∈ ks) : valD ck (.inl j) = some (.int (atZ b l j)) := by
  rw [h.hv, if_pos (h.mem.1 hj)]
theorem On.srt {b : Int} {l : List Int} {ck : List (Key × D)} {ks aw : List Int} (h : On b l ck ks aw) : srt ks = ((List.range l.length).filter fun i => decide (0 < l.getD i 0)).map fun (i : Nat) => b + (i : Int) := by
  have pw : (((List.range l.length).filter fun i => decide (0 < l.getD i 0)).map fun (i : Nat) => b + (i : Int)).Pairwise (· < ·) := by
    rw [List.pairwise_map]
    exact (List.pairwise_lt_range.filter _).imp fun h => by omega
  refine sorted_uniq ?_ (srt_srt ks) (pw.imp fun h => by omega)
  refine (srt_perm ks).trans ((List.perm_ext_iff_of_nodup h.nd (pw.imp fun h => by omega)).2 fun j => ?_)
  rw [h.mem]
  simp only [List.mem_map, List.mem_filter, List.mem_range, decide_eq_true_eq]
  constructor
  · intro g
    by_cases hj : b ≤ j ∧ j < b + l.length
    · obtain ⟨i, h1, h2, h3⟩ := C.atZ_in hj
      exact ⟨i, ⟨h1, by omega⟩, h2.symm⟩
    · rw [C.atZ_out hj] at g; omega
  · rintro ⟨i, ⟨h1, h2⟩, rfl⟩
    rw [C.atZ_base]; exact h2
theorem dropD_len {ck : List (Key × D)} {k : Key} : (dropD ck k).length ≤ ck.length := List.length_filter_le _ _
theorem hearO_sim {w n b A : Int} {l : List Int} {ck : List (Key × D)} {ks aw : List Int} (hn : 0 < n) (hl : l.length = w.toNat) (h : On b l ck ks aw) :
    ∃ c : Nat, (C.hearO w l ((A - b) % n)).2 = (c : Int) ∧ c ≤ l.length ∧ (∀ i : Nat, i < c → (awO w n b ck aw A).contains (b + (i : Int)) = true) ∧ (awO w n b ck aw A).contains (b + (c : Int)) = false ∧
      ∃ ks', On (b + (c : Int)) (C.hearO w l ((A - b) % n)).1 (ckO w n b ck A) ks' (awO w n b ck aw A) ∧ ks'.length ≤ ks.length ∧ (awO w n b ck aw A).length ≤ aw.length + 1 := by
  have k0 := Int.emod_nonneg (A - b) (b := n) (by omega)
  unfold awO ckO hitO C.hearO
  simp only
  generalize (A - b) % n = k at *
  have ek : b + k = b + (k.toNat : Int) := by omega
  have eat : atZ b l (b + k) = l.getD k.toNat 0 := by rw [ek, C.atZ_base]
  have lo := C.getD_lo h.hr k.toNat
  have hva := h.hv (b + k)
  rw [eat] at hva
  generalize hv : l.getD k.toNat 0 = v at *
  by_cases g : w ≤ k ∨ v = 0 ∨ v = -1
  · have hit : (decide (k < w) && (valD ck (.inl (b + k))).isSome) = false := by
      rw [hva]
      rcases g with g | g | g
      · simp [show ¬ k < w by omega]
      · simp [g]
      · simp [g]
    simp only [hit, Bool.false_eq_true, if_false, if_pos g]
    have hb : aw.contains b = false := by rw [h.ha b (by omega)]; simpa using h.h0
    refine ⟨0, rfl, by omega, fun i hi => by omega, by simpa using hb, ks, ?_, by omega, by omega⟩
    simpa using h
  · have g1 : k < w := by omega
    have g2 : 0 < v := by omega
    have hit : (decide (k < w) && (valD ck (.inl (b + k))).isSome) = true := by
      rw [hva]; simp [g1, g2]
    simp only [hit, if_true, if_neg g]
    have kl : k.toNat < l.length := by omega
    have em : ∀ j, atZ b (l.set k.toNat (-1)) j = if b + k = j then -1 else atZ b l j := fun j => by rw [C.atZ_set kl, ← ek]
    have el : (l.set k.toNat (-1)).length = l.length := by simp
    have cl := C.cntA_le (l.set k.toNat (-1))
    have c1 := fun i => C.cntA_lt (m := l.set k.toNat (-1)) (i := i)
    have c2 := C.cntA_at (m := l.set k.toNat (-1))
    have lom : ∀ x, x ∈ l.set k.toNat (-1) → -1 ≤ x := fun x hx => by
      rcases List.mem_or_eq_of_mem_set hx with hx | hx
      · exact h.hr x hx
      · omega
    generalize l.set k.toNat (-1) = m at *
    have ha : ∀ j, b ≤ j → (aw ++ [b + k]).contains j = decide (atZ b m j = -1) := fun j hj => by
      rw [em, List.contains_append, h.ha j hj]
      by_cases e : b + k = j
      · simp [e]
      · simp [e, show ¬ j = b + k from fun z => e z.symm]
    refine ⟨C.cntA m, rfl, by omega, fun i hi => ?_, ?_, _, ⟨keysI_drop h.hk (i := b + k), ?_, ?_, ?_, ?_, ?_⟩, ?_, by simp⟩
    · rw [ha _ (by omega), C.atZ_base, c1 i hi]; rfl
    · rw [ha _ (by omega), C.atZ_base]; simpa using c2
    · exact h.nd.filter _
    · intro j
      rw [valD_drop, C.atZ_drop (by omega), em, h.hv]
      by_cases e : b + k = j
      · subst e
        simp
        split <;> omega
      · simp only [Sum.inl.injEq, e, if_false]
        by_cases e2 : b + (C.cntA m : Int) ≤ j
        · simp [e2]
        · simp only [e2, if_false]
          by_cases e3 : b ≤ j
          · obtain ⟨i, rfl⟩ : ∃ i : Nat, j = b + i := ⟨(j - b).toNat, by omega⟩
            have := c1 i (by omega)
            have q := em (b + (i : Int))
            rw [C.atZ_base, this, if_neg e] at q
            rw [← q]; rfl
          · rw [C.atZ_out (by omega)]
    · intro j hj
      rw [ha j (by omega), C.atZ_drop (by omega), if_pos hj]
    · rw [C.atZ_drop (by omega), if_pos (by omega), C.atZ_base]
      exact c2
    · intro x hx
      rcases List.mem_append.1 hx with hx | hx
      · exact lom x (List.mem_of_mem_drop hx)
      · rw [List.mem_replicate] at hx; omega
    · exact List.length_filter_le _ _
end R

namespace R
open PySem L2 PyProof.Rows HI
open C (mx atZ)
theorem fold_val {t : Int} : ∀ (js : List Int) (ck : List (Key × D)), js.Nodup → (∀ j, j ∈ js → ∃ v, valD ck (.inl j) = some (.int v)) → ∀ k, valD (js.foldl (stepCk t) ck) (.inl k) = if k ∈ js then some (.int (mnI t (valI ck k + 1))) else valD ck (.inl k)
  | [], ck, _, _, k => by simp
  | j :: js, ck, nd, h, k => by
    have nd' := List.nodup_cons.1 nd
    have ih := fold_val (t := t) js (stepCk t ck j) nd'.2 (fun i hi => by
      by_cases e : j = i
      · exact ⟨mnI t (valI ck j + 1), by simp [stepCk, valD_put, e]⟩
      · obtain ⟨u, hu⟩ := h i (by simp [hi])
        exact ⟨u, by simp [stepCk, valD_put, e, hu]⟩) k
    rw [List.foldl_cons, ih]
    by_cases e : k = j
    · subst e
      rw [if_neg nd'.1, if_pos (by simp)]
      simp [stepCk, valD_put]
    · have e' : ¬ j = k := fun z => e z.symm
      have : valD (stepCk t ck j) (.inl k) = valD ck (.inl k) := by simp [stepCk, valD_put, e']
      have e2 : valI (stepCk t ck j) k = valI ck k := by simp only [valI, this]
      simp only [this, e2, List.mem_cons, e, false_or]
theorem fold_keys {t : Int} {ks : List Int} : ∀ (js : List Int) (ck : List (Key × D)), keysI ck ks → (∀ j, j ∈ js → j ∈ ks) → keysI (js.foldl (stepCk t) ck) ks
  | [], ck, h, _ => h
  | j :: js, ck, h, hj => by
    rw [List.foldl_cons]
    refine fold_keys js _ ?_ (fun i hi => hj i (by simp [hi]))
    have := keysI_put (i := j) (d := .int (mnI t (valI ck j + 1))) h
    rw [if_pos (by simpa using hj j (by simp))] at this
    exact this
theorem On.valI {b : Int} {l : List Int} {ck : List (Key × D)} {ks aw : List Int} (h : On b l ck ks aw) (i : Nat) : valI ck (b + (i : Int)) = if 0 < l.getD i 0 then l.getD i 0 else 0 := by
  simp only [R.valI, h.hv, C.atZ_base]
  split
  · rename_i e
    split at e
    · rename_i g; cases e; rw [if_pos g]
    · cases e
  · rename_i e
    split
    · rename_i g; exact absurd (by rw [if_pos g]) (e (l.getD i 0))
    · rfl
theorem On.due {b t : Int} {l : List Int} {ck : List (Key × D)} {ks aw : List Int} (ht : 1 ≤ t) (h : On b l ck ks aw) : dueO t ck ks = (C.pos1 t 0 l).map fun (i : Nat) => b + (i : Int) := by
  unfold dueO
  rw [h.srt, C.pos1_eq, List.filter_map, List.filter_filter, List.map_map]
  have : ∀ p q : Nat → Bool, (∀ i, p i = q i) → ∀ l : List Nat, l.filter p = l.filter q := fun p q hh l => by rw [funext hh]
  rw [this _ (fun i => l.getD i 0 == t) (fun i => by
    simp only [Function.comp, h.valI i]
    generalize l.getD i 0 = v
    by_cases e : v = t
    · simp only [e, beq_self_eq_true, show (0 : Int) < t by omega, if_true, decide_true, Bool.and_self]
    · split
      · rename_i g; simp [e]
      · rename_i g; simp [g, e])]
  apply List.map_congr_left
  intro i _
  simp
theorem On.fresh {b w : Int} {l : List Int} {ck : List (Key × D)} {ks aw : List Int} (hl : l.length = w.toNat) (h : On b l ck ks aw) : freshO b w ck aw = (C.pos1 0 0 l).map fun (i : Nat) => b + (i : Int) := by
  unfold freshO someO
  rw [C.pos1_eq, List.filter_map, List.map_map, hl]
  have : ∀ p q : Nat → Bool, (∀ i, p i = q i) → ∀ l : List Nat, l.filter p = l.filter q := fun p q hh l => by rw [funext hh]
  rw [this _ (fun i => l.getD i 0 == 0) (fun i => by
    have lo := C.getD_lo h.hr i
    simp only [Function.comp, h.hv, h.ha _ (show b ≤ b + (i : Int) by omega), C.atZ_base]
    generalize l.getD i 0 = v at *
    by_cases e : v = 0
    · subst e; rfl
    · by_cases e2 : v = -1
      · subst e2; rfl
      · have : 0 < v := by omega
        simp [this, e])]
  apply List.map_congr_left
  intro i _
  simp
theorem pos1_mem {v : Int} {l : List Int} {i : Nat} : i ∈ C.pos1 v 0 l ↔ i < l.length ∧ l.getD i 0 = v := by
  rw [C.pos1_eq]
  simp
theorem sendO_sim {w t b : Int} {l : List Int} {ck : List (Key × D)} {ks aw : List Int} (hl : l.length = w.toNat) (ht : 1 ≤ t) (h : On b l ck ks aw) :
    foundO t b w ck ks aw = (C.sendO t l).1.map (b + ·) ∧ isIn (foundO t b w ck ks aw) (srt ks) = l.contains t ∧ (ck1O t ck ks).length = ks.length ∧
      ∃ ks', On b (C.sendO t l).2 (ck2O t b w ck ks aw) ks' aw ∧ ks'.length ≤ ks.length + 1 := by
  have hs : ∀ j, j ∈ srt ks ↔ j ∈ ks := fun j => (srt_perm ks).mem_iff
  have k1 : keysI (ck1O t ck ks) ks := fold_keys _ _ h.hk fun j hj => (hs j).1 hj
  have l1 : (ck1O t ck ks).length = ks.length := by
    have := congrArg List.length k1
    simpa using this
  have v1 : ∀ j, valD (ck1O t ck ks) (.inl j) = if 0 < atZ b (l.map (C.stepM t)) j then some (.int (atZ b (l.map (C.stepM t)) j)) else none := fun j => by
    have z0 : C.stepM t 0 = 0 := by simp [C.stepM]
    rw [show ck1O t ck ks = (srt ks).foldl (stepCk t) ck from rfl, fold_val _ _ ((srt_perm ks).symm.nodup h.nd) (fun j hj => ⟨_, h.val ((hs j).1 hj)⟩), C.atZ_map z0, h.hv]
    simp only [hs, h.mem]
    by_cases g : 0 < atZ b l j
    · have e : R.valI ck j = atZ b l j := by simp [R.valI, h.hv, g]
      rw [if_pos g, e]
      have e2 : C.stepM t (atZ b l j) = mnI t (atZ b l j + 1) := by
        simp only [C.stepM, mnI, g, if_true]
        split <;> split <;> omega
      have e3 : 0 < mnI t (atZ b l j + 1) := by simp only [mnI]; split <;> omega
      rw [e2, if_pos e3]
    · have e2 : C.stepM t (atZ b l j) = atZ b l j := by simp [C.stepM, g]
      rw [if_neg g, e2, if_neg g]
  have lo1 : ∀ x, x ∈ l.map (C.stepM t) → -1 ≤ x := fun x hx => by
    obtain ⟨z, h1, rfl⟩ := List.mem_map.1 hx
    exact C.stepM_lo ht (h.hr z h1)
  have a1 : ∀ j, atZ b (l.map (C.stepM t)) j = -1 ↔ atZ b l j = -1 := fun j => by
    rw [C.atZ_map (by simp [C.stepM]), C.stepM_neg ht (C.atZ_lo h.hr j)]
  have hf : foundO t b w ck ks aw = ((C.pos1 t 0 l ++ C.pos1 0 0 l).map fun (i : Nat) => b + (i : Int)).head? := by
    unfold foundO
    rw [h.due ht, h.fresh hl, List.map_append]
  have hct : ∀ i, i < l.length → l.getD i 0 = t → l.contains t = true := fun i h1 h2 => by
    rw [List.getD_eq_getElem?_getD, List.getElem?_eq_getElem h1] at h2
    simp only [Option.getD_some] at h2
    rw [← h2]; simp
  cases e : C.pos1 t 0 l ++ C.pos1 0 0 l with
  | nil =>
    rw [e] at hf
    have e0 : C.pos1 t 0 l = [] := (List.append_eq_nil_iff.1 e).1
    have hf : foundO t b w ck ks aw = none := hf
    have hc : l.contains t = false := by
      rw [Bool.eq_false_iff]
      intro z
      rw [List.contains_iff_mem] at z
      obtain ⟨i, h1, h2⟩ := List.mem_iff_getElem.1 z
      have : i ∈ C.pos1 t 0 l := pos1_mem.2 ⟨h1, by rw [List.getD_eq_getElem?_getD, List.getElem?_eq_getElem h1]; exact h2⟩
      rw [e0] at this; cases this
    have hc2 : C.sendO t l = (none, l.map (C.stepM t)) := by simp only [C.sendO, e]
    refine ⟨by rw [hf, hc2]; rfl, by rw [hf, hc]; rfl, l1, ks, ?_, by omega⟩
    rw [hc2, show ck2O t b w ck ks aw = ck1O t ck ks by simp only [ck2O, hf]]
    refine ⟨k1, h.nd, v1, fun j hj => ?_, ?_, lo1⟩
    · rw [h.ha j hj]; simp only [a1]
    · rw [Ne, a1]; exact h.h0
  | cons i is =>
    rw [e] at hf
    have hf : foundO t b w ck ks aw = some (b + (i : Int)) := hf
    have hi : i ∈ C.pos1 t 0 l ++ C.pos1 0 0 l := by rw [e]; simp
    have hi' : i < l.length ∧ (l.getD i 0 = t ∨ l.getD i 0 = 0) := by
      rcases List.mem_append.1 hi with g | g
      · have := pos1_mem.1 g; exact ⟨this.1, .inl this.2⟩
      · have := pos1_mem.1 g; exact ⟨this.1, .inr this.2⟩
    have hc2 : C.sendO t l = (some (i : Int), (l.map (C.stepM t)).set i 1) := by simp only [C.sendO, e]
    have il : i < (l.map (C.stepM t)).length := by simpa using hi'.1
    refine ⟨by rw [hf, hc2]; rfl, ?_, l1, ?_⟩
    · rw [hf]
      show (srt ks).contains (b + (i : Int)) = _
      rw [Bool.eq_iff_iff, List.contains_iff_mem, hs, h.mem, C.atZ_base]
      constructor
      · intro g
        exact hct i hi'.1 (by omega)
      · intro g
        rw [List.contains_iff_mem] at g
        obtain ⟨k, h1, h2⟩ := List.mem_iff_getElem.1 g
        have hk : k ∈ C.pos1 t 0 l := pos1_mem.2 ⟨h1, by rw [List.getD_eq_getElem?_getD, List.getElem?_eq_getElem h1]; exact h2⟩
        cases e1 : C.pos1 t 0 l with
        | nil => rw [e1] at hk; cases hk
        | cons i' is' =>
          rw [e1] at e
          have : i' = i := by simpa using (List.cons.inj e).1
          have := (pos1_mem.1 (show i ∈ C.pos1 t 0 l by rw [e1, this]; simp)).2
          omega
    · rw [hc2, show ck2O t b w ck ks aw = putD (ck1O t ck ks) (.inl (b + (i : Int))) (.int 1) by simp only [ck2O, hf]]
      refine ⟨_, ⟨keysI_put k1, ?_, fun j => ?_, fun j hj => ?_, ?_, ?_⟩, ?_⟩
      · split
        · exact h.nd
        · rename_i g
          have g : ¬ b + (i : Int) ∈ ks := by simpa using g
          rw [List.nodup_append]
          refine ⟨h.nd, by simp, fun x hx z hz => ?_⟩
          rw [List.mem_singleton] at hz
          subst hz
          intro q; subst q; exact g hx
      · rw [valD_put, C.atZ_set il, v1]
        by_cases q : b + (i : Int) = j
        · simp [q]
        · simp [q]
      · rw [h.ha j hj, C.atZ_set il]
        by_cases q : b + (i : Int) = j
        · subst q
          have q : ¬ l.getD i 0 = -1 := by omega
          rw [C.atZ_base, if_pos rfl, decide_eq_false q]
          rfl
        · simp only [q, if_false, a1]
      · rw [C.atZ_set il]
        split
        · omega
        · rw [Ne, a1]; exact h.h0
      · intro x hx
        rcases List.mem_or_eq_of_mem_set hx with hx | hx
        · exact lo1 x hx
        · omega
      · split <;> simp
/-! an own receiver -/
structure Kp (W : Int) (k1 k2 : Option Int) (kp : List (Key × D)) : Prop where
  hv : ∀ j, valD kp (.inl j) = if j = W + 1 then k1.map .int else if j = W + 2 then k2.map .int else none
structure K3 (W : Int) (r0 r1 r2 : Option Int) (kp : List (Key × D)) : Prop where
  hv : ∀ j, valD kp (.inl j) = if j = W then r0.map .int else if j = W + 1 then r1.map .int else if j = W + 2 then r2.map .int else none
theorem drops_len : ∀ (j : Nat) (kp : List (Key × D)) (W : Int), (dropsO kp W j).length ≤ kp.length
  | 0, kp, W => Nat.le_refl _
  | j + 1, kp, W => Nat.le_trans (drops_len j _ _) dropD_len
theorem K3.drop {W : Int} {r0 r1 r2 : Option Int} {kp : List (Key × D)} (h : K3 W r0 r1 r2 kp) : K3 (W + 1) r1 r2 none (dropD kp (.inl W)) := by
  refine ⟨fun j => ?_⟩
  rw [valD_drop, h.hv]
  by_cases e0 : W = j
  · subst e0
    simp [show ¬ W = W + 1 by omega, show ¬ W = W + 1 + 1 by omega, show ¬ W = W + 1 + 2 by omega]
  · have e0' : ¬ j = W := fun z => e0 z.symm
    simp only [Sum.inl.injEq, e0, e0', if_false, show W + 1 + 1 = W + 2 by omega, Option.map_none, ite_self]
theorem K3.kp {W : Int} {r1 r2 : Option Int} {kp : List (Key × D)} (h : K3 W none r1 r2 kp) : Kp W r1 r2 kp := by
  refine ⟨fun j => ?_⟩
  rw [h.hv]
  by_cases e : j = W
  · subst e
    simp [show ¬ j = j + 1 by omega, show ¬ j = j + 2 by omega]
  · simp [e]
theorem K3.none {W : Int} {r1 r2 : Option Int} {kp : List (Key × D)} (h : K3 W none r1 r2 kp) : (valD kp (.inl W)).isSome = false := by rw [h.hv]; simp
theorem K3.some {W a : Int} {r1 r2 : Option Int} {kp : List (Key × D)} (h : K3 W (some a) r1 r2 kp) : valD kp (.inl W) = some (.int a) := by rw [h.hv]; simp
theorem Kp.k3 {W : Int} {k1 k2 : Option Int} {kp : List (Key × D)} (h : Kp W k1 k2 kp) : K3 W none k1 k2 kp := by
  refine ⟨fun j => ?_⟩
  rw [h.hv]
  by_cases e : j = W
  · subst e
    simp [show ¬ j = j + 1 by omega, show ¬ j = j + 2 by omega]
  · simp [e]
theorem kpO_len {w n W c : Int} {kp : List (Key × D)} : (kpO w n W kp c).length ≤ kp.length + 1 := by
  unfold kpO
  split
  · exact putD_len
  · omega
theorem kpO_k3 {w n W c : Int} {k1 k2 : Option Int} {kp : List (Key × D)} (hn : 0 < n) (w3 : w ≤ 3) (h : Kp W k1 k2 kp) (hp : (c - W) % n < w) : K3 W (if (c - W) % n = 0 then some c else none) (k1.or (if (c - W) % n = 1 then some c else none)) (k2.or (if (c - W) % n = 2 then some c else none)) (kpO w n W kp c) := by
  have p0 := Int.emod_nonneg (c - W) (b := n) (by omega)
  unfold kpO
  generalize (c - W) % n = p at *
  refine ⟨fun j => ?_⟩
  simp only [hp, decide_true, Bool.true_and]
  have hk := h.k3.hv
  have c3 : p = 0 ∨ p = 1 ∨ p = 2 := by omega
  rcases c3 with rfl | rfl | rfl
  · have e : valD kp (.inl (W + 0)) = none := by rw [hk]; simp
    rw [e]
    simp only [Option.isSome_none, Bool.not_false, if_true, valD_put, hk, Sum.inl.injEq]
    by_cases q : j = W
    · subst q; simp
    · have : ¬ W = j := fun z => q z.symm
      simp [q, this]
  · cases k1 with
    | none =>
      have e : valD kp (.inl (W + 1)) = none := by rw [hk]; simp
      rw [e]
      simp only [Option.isSome_none, Bool.not_false, if_true, valD_put, hk, Sum.inl.injEq]
      by_cases q : j = W + 1
      · subst q; simp [show ¬ W + 1 = W by omega]
      · have : ¬ W + 1 = j := fun z => q z.symm
        simp [q, this]
    | some a =>
      have e : valD kp (.inl (W + 1)) = some (.int a) := by rw [hk]; simp [show ¬ W + 1 = W by omega]
      rw [e]
      simp [hk]
  · cases k2 with
    | none =>
      have e : valD kp (.inl (W + 2)) = none := by rw [hk]; simp
      rw [e]
      simp only [Option.isSome_none, Bool.not_false, if_true, valD_put, hk, Sum.inl.injEq]
      by_cases q : j = W + 2
      · subst q; simp [show ¬ W + 2 = W by omega]
      · have : ¬ W + 2 = j := fun z => q z.symm
        simp [q, this]
    | some a =>
      have e : valD kp (.inl (W + 2)) = some (.int a) := by rw [hk]; simp [show ¬ W + 2 = W by omega]
      rw [e]
      simp [hk]
theorem getO_sim {w n b W c : Int} {k1 k2 : Option Int} {kp : List (Key × D)} (hn : 0 < n) (w3 : w ≤ 3) (h : Kp (b + W) (k1.map (b + ·)) (k2.map (b + ·)) kp) :
    ∃ j : Nat, j ≤ 3 ∧ runsO (kpO w n (b + W) kp (b + c)) (b + W) j ∧ b + W + (j : Int) = b + (C.getO w n W k1 k2 c).1.1 ∧
      givesO (kpO w n (b + W) kp (b + c)) (b + W) j = ((C.getO w n W k1 k2 c).2.1.map (b + ·)).map .int ∧ ((C.getO w n W k1 k2 c).2.1.length = j) ∧
      Kp (b + (C.getO w n W k1 k2 c).1.1) ((C.getO w n W k1 k2 c).1.2.1.map (b + ·)) ((C.getO w n W k1 k2 c).1.2.2.map (b + ·)) (dropsO (kpO w n (b + W) kp (b + c)) (b + W) j) ∧ (C.getO w n W k1 k2 c).2.2 = c := by
  have ee : b + c - (b + W) = c - W := by omega
  by_cases g : w ≤ (c - W) % n
  · have e : kpO w n (b + W) kp (b + c) = kp := by simp [kpO, ee, show ¬ (c - W) % n < w by omega]
    have e2 : C.getO w n W k1 k2 c = ((W, k1, k2), [], c) := by simp [C.getO, g]
    rw [e, e2]
    exact ⟨0, by omega, h.k3.none, by simp, rfl, rfl, h, rfl⟩
  · have k3 := kpO_k3 (c := b + c) hn w3 h (by rw [ee]; omega)
    rw [ee] at k3
    have hl := kpO
    generalize kpO w n (b + W) kp (b + c) = kp' at *
    simp only [C.getO, g, if_false]
    have r0 : (if (c - W) % n = 0 then some (b + c) else none) = (if (c - W) % n = 0 then some c else none).map (b + ·) := by split <;> rfl
    have r1 : (k1.map (b + ·)).or (if (c - W) % n = 1 then some (b + c) else none) = (k1.or (if (c - W) % n = 1 then some c else none)).map (b + ·) := by cases k1 <;> simp <;> split <;> rfl
    have r2 : (k2.map (b + ·)).or (if (c - W) % n = 2 then some (b + c) else none) = (k2.or (if (c - W) % n = 2 then some c else none)).map (b + ·) := by cases k2 <;> simp <;> split <;> rfl
    rw [r0, r1, r2] at k3
    generalize (if (c - W) % n = 0 then some c else none : Option Int) = q0 at *
    generalize (k1.or (if (c - W) % n = 1 then some c else none)) = q1 at *
    generalize (k2.or (if (c - W) % n = 2 then some c else none)) = q2 at *
    cases q0 with
    | none => exact ⟨0, by omega, k3.none, by simp, rfl, rfl, k3.kp, rfl⟩
    | some a0 =>
      have d1 := k3.drop
      have s0 := k3.some
      cases q1 with
      | none =>
        refine ⟨1, by omega, ⟨by rw [s0]; rfl, d1.none⟩, by simp; omega, by simp only [givesO, s0]; rfl, rfl, ?_, rfl⟩
        have := d1.kp
        rw [show b + W + 1 = b + (W + 1) by omega] at this
        simpa [dropsO, show b + W + 1 = b + (W + 1) by omega] using this
      | some a1 =>
        have d2 := d1.drop
        have s1 := d1.some
        cases q2 with
        | none =>
          refine ⟨2, by omega, ⟨by rw [s0]; rfl, by rw [s1]; rfl, d2.none⟩, by simp; omega, by simp only [givesO, s0, s1]; rfl, rfl, ?_, rfl⟩
          have := d2.kp
          rw [show b + W + 1 + 1 = b + (W + 2) by omega] at this
          exact this
        | some a2 =>
          have d3 := d2.drop
          have s2 := d2.some
          refine ⟨3, by omega, ⟨by rw [s0]; rfl, by rw [s1]; rfl, by rw [s2]; rfl, d3.none⟩, by simp; omega, by simp only [givesO, s0, s1, s2]; rfl, rfl, ?_, rfl⟩
          have := d3.kp
          rw [show b + W + 1 + 1 + 1 = b + (W + 3) by omega] at this
          exact this
end R

namespace R
open PySem L2 PyProof.Rows HI
open C (mx atZ)
def sO (b : Int) : SB := ⟨b, 0, 0, 0, false⟩
structure Ow (n : Int) (p : C.Pl) (b : Int) (m : Nat) (ck kp : List (Key × D)) (ks aw : List Int) (wants : Int) (fr an : List (Option Int)) : Prop where
  on : On b p.snd ck ks aw
  kl : ks.length ≤ m
  al : aw.length ≤ m
  pl : kp.length ≤ m
  wa : wants = b + p.wants
  kp : Kp wants (p.k1.map (b + ·)) (p.k2.map (b + ·)) kp
  fr : fr = p.fr.map (Option.map (b + ·))
  an : p.an = an.map (Option.map fun A => (A - b) % n)
  turn : p.turn = b % n
theorem fuel_big : 100 < fuel8 := by decide
theorem heardO {y : Way} (ok : WayOk y) (ho : y.kind = "own") {hp : Hp8} {p : C.Pl} {b : Int} {ck : List (Key × D)} {ks aw : List Int} {x : Option Int} {an' : List (Option Int)} (hl : p.snd.length = y.w.toNat) (on : On b p.snd ck ks aw) (kl : ks.length < 100) (al : aw.length < 100)
    (ea : p.an = (x.map fun A => (A - b) % y.n) :: an') : ∃ (c : Nat) (ck1 : List (Key × D)) (ks1 aw1 : List Int), (C.heard (yC y) p).2 = (c : Int) ∧ On (b + (c : Int)) (C.heard (yC y) p).1 ck1 ks1 aw1 ∧ ks1.length ≤ ks.length ∧ aw1.length ≤ aw.length + 1 ∧
      (∀ a r l, x = some a → g__law_hear [wayD y, .ref hp.length, .int a] (hp ++ sdc (sO b) (hp.length + 2) (hp.length + 3) :: r :: .dic ck :: .lst (aw.map .int) :: l) = some (.ok .non, hp ++ sdc (sO (b + (c : Int))) (hp.length + 2) (hp.length + 3) :: r :: .dic ck1 :: .lst (aw1.map .int) :: l)) ∧
      (x = none → sO b = sO (b + (c : Int)) ∧ ck = ck1 ∧ aw = aw1) := by
  have hn : 0 < y.n := by have := ok.w1; have := ok.wn; omega
  have eo : (yC y).own = true := yC_own.2 ho
  have w3 := ok.w3
  have fb := fuel_big
  cases x with
  | none =>
    have e : C.heard (yC y) p = (p.snd, 0) := by simp only [C.heard, ea]; rfl
    rw [e]
    exact ⟨0, ck, ks, aw, rfl, by simpa using on, by omega, by omega, fun a r l z => (by cases z), fun _ => ⟨by simp, rfl, rfl⟩⟩
  | some A =>
    have e : C.heard (yC y) p = C.hearO y.w p.snd ((A - b) % y.n) := by simp only [C.heard, ea, Option.map_some, C.hear, eo, if_true]; rfl
    rw [e]
    obtain ⟨c, h1, h2, h3, h4, ks', h5, h6, h7⟩ := hearO_sim (A := A) hn hl on
    have ckl : ck.length = ks.length := by simpa using congrArg List.length on.hk
    refine ⟨c, _, ks', _, h1, h5, h6, h7, fun a r l z => ?_, fun z => by cases z⟩
    cases z
    exact hearO_at (s := sO b) hn ho (by omega) (by omega) (by omega) h3 h4
theorem tickO_sim {y : Way} (ok : WayOk y) (ho : y.kind = "own") {d : Nat} (hd : d = 1 ∨ d = 2) {hp : Hp8} {st : D} {p : C.Pl} {b : Int} {m : Nat} {ck kp : List (Key × D)} {ks aw : List Int} {wants : Int} {fr an : List (Option Int)} {z : Str} {x0 : Nat}
    (wf : C.Wf (yC y) d p) (hm : m < 60) (h : Ow y.n p b m ck kp ks aw wants fr an) (hs : StAt x0 hp st (sdc (sO b)) (fun k => .dic (rd0 wants k)) ck (aw.map .int) kp (fr.map oD) (an.map oD)) :
    ∃ rt gd l st' ck' kp' ks' aw' wants' fr' an', g__law_tick [wayD y, st, .str z] hp = some (.ok (.tup [st', .tup [oD (C.tick (yC y) p (lostF z) (lostA z)).seen, oD (C.tick (yC y) p (lostF z) (lostA z)).told], gd, .bl rt, .bl (C.tick (yC y) p (lostF z) (lostA z)).again]), hp ++ l) ∧
      (∀ x, x < hp.length → gd ≠ .ref x ∧ StAt x (hp ++ l) st' (sdc (sO (b + (C.tick (yC y) p (lostF z) (lostA z)).many))) (fun k => .dic (rd0 wants' k)) ck' (aw'.map .int) kp' (fr'.map oD) (an'.map oD)) ∧
      lstM (hp ++ l) gd = some (((C.tick (yC y) p (lostF z) (lostA z)).given.map (b + (C.tick (yC y) p (lostF z) (lostA z)).many + ·)).map .int) ∧
      Ow y.n (C.tick (yC y) p (lostF z) (lostA z)).pl (b + (C.tick (yC y) p (lostF z) (lostA z)).many) (m + 1) ck' kp' ks' aw' wants' fr' an' := by
  have hn : 0 < y.n := by have := ok.w1; have := ok.wn; omega
  have w3 := ok.w3
  have fb := fuel_big
  have eo : (yC y).own = true := yC_own.2 ho
  have en : (yC y).n = y.n := rfl
  have hsl : p.snd.length = y.w.toNat := wf.so eo
  have hl1 := (C.heard_wf wf).1 eo
  have kl := h.kl; have al := h.al; have pl := h.pl
  obtain ⟨x, an', ea⟩ : ∃ x an', an = x :: an' := by
    have := congrArg List.length h.an
    rw [wf.an] at this
    cases an with
    | nil => simp at this; omega
    | cons x l => exact ⟨x, l, rfl⟩
  have ean : p.an = (x.map fun A => (A - b) % y.n) :: an'.map (Option.map fun A => (A - b) % y.n) := by rw [h.an, ea]; rfl
  have lan : an'.length + 1 = d := by have := congrArg List.length ean; rw [wf.an] at this; simp at this; omega
  have lfr : fr.length + 1 = d := by rw [h.fr]; simpa using wf.fr
  obtain ⟨c, ck1, ks1, aw1, e1, on1, kl1, al1, hear1, hear0⟩ := heardO ok ho (hp := hp) hsl h.on (by omega) (by omega) ean
  generalize hl : (C.heard (yC y) p).1 = l1 at *
  obtain ⟨s1, s2, s3, ks2, on2, kl2⟩ := sendO_sim (w := y.w) (t := y.t) hl1 ok.t1 on1
  have esd : C.send (yC y) l1 = C.sendO y.t l1 := by simp only [C.send, eo, if_true]; rfl
  have eag : C.again (yC y) l1 = l1.contains y.t := by simp only [C.again, eo, if_true]; rfl
  have send1 : ∀ r l, g__law_send [wayD y, .ref hp.length] (hp ++ sdc (sO (b + (c : Int))) (hp.length + 2) (hp.length + 3) :: r :: .dic ck1 :: .lst (aw1.map .int) :: l) = some (.ok (oD (foundO y.t (b + (c : Int)) y.w ck1 ks1 aw1)), hp ++ sdc (sO (b + (c : Int))) (hp.length + 2) (hp.length + 3) :: r :: .dic (ck2O y.t (b + (c : Int)) y.w ck1 ks1 aw1) :: .lst (aw1.map .int) :: l) := fun r l =>
    sendO_at (s := sO (b + (c : Int))) ok ho on1.hk (fun j hj => ⟨_, on1.val hj⟩) (by omega) (by rw [s3]; omega)
  generalize hq1 : foundO y.t (b + (c : Int)) y.w ck1 ks1 aw1 = q1 at *
  generalize hck2 : ck2O y.t (b + (c : Int)) y.w ck1 ks1 aw1 = ck2 at *
  have f1 : fr = (p.fr.map (C.sub c)).map (Option.map (b + (c : Int) + ·)) := by
    rw [h.fr, List.map_map]
    apply List.map_congr_left
    intro o _
    cases o with
    | none => rfl
    | some v => simp only [Function.comp, C.sub, Option.map_some]; congr 1; omega
  have sub1 : ∀ k : Option Int, k.map (b + ·) = (C.sub c k).map (b + (c : Int) + ·) := fun k => by
    cases k with
    | none => rfl
    | some v => simp only [C.sub, Option.map_some]; congr 1; omega
  have w1 : wants = b + (c : Int) + (p.wants - (c : Int)) := by rw [h.wa]; omega
  have hkp := h.kp
  rw [sub1, sub1, w1] at hkp
  have fr2 : fr ++ [if lostF z then none else q1] = (p.fr.map (C.sub c) ++ [if lostF z then none else (C.sendO y.t l1).1]).map (Option.map (b + (c : Int) + ·)) := by
    rw [List.map_append, ← f1, s1]
    cases lostF z <;> simp
  have tm : (p.turn + (c : Int)) % y.n = (b + (c : Int)) % y.n := by rw [h.turn]; simp
  have eC : C.tick (yC y) p (lostF z) (lostA z) = { pl := ⟨(p.turn + (c : Int)) % y.n, (C.sendO y.t l1).2, (p.fr.map (C.sub c) ++ [if lostF z then none else (C.sendO y.t l1).1]).tail, p.an.tail.map (Option.map fun a => (a - (c : Int)) % y.n) ++ [if lostA z then none else (C.comes (yC y) (p.wants - c) (C.sub c p.k1) (C.sub c p.k2) (p.fr.map (C.sub c) ++ [if lostF z then none else (C.sendO y.t l1).1])).2.2.map (· % y.n)], (C.comes (yC y) (p.wants - c) (C.sub c p.k1) (C.sub c p.k2) (p.fr.map (C.sub c) ++ [if lostF z then none else (C.sendO y.t l1).1])).1.1, (C.comes (yC y) (p.wants - c) (C.sub c p.k1) (C.sub c p.k2) (p.fr.map (C.sub c) ++ [if lostF z then none else (C.sendO y.t l1).1])).1.2.1, (C.comes (yC y) (p.wants - c) (C.sub c p.k1) (C.sub c p.k2) (p.fr.map (C.sub c) ++ [if lostF z then none else (C.sendO y.t l1).1])).1.2.2⟩
                                                    seen := (C.sendO y.t l1).1.map fun v => ((p.turn + (c : Int)) % y.n + v) % y.n
                                                    told := (C.comes (yC y) (p.wants - c) (C.sub c p.k1) (C.sub c p.k2) (p.fr.map (C.sub c) ++ [if lostF z then none else (C.sendO y.t l1).1])).2.2.map fun v => ((p.turn + (c : Int)) % y.n + v) % y.n
                                                    right := C.goods (p.wants - c) (C.comes (yC y) (p.wants - c) (C.sub c p.k1) (C.sub c p.k2) (p.fr.map (C.sub c) ++ [if lostF z then none else (C.sendO y.t l1).1])).2.1
                                                    again := l1.contains y.t
                                                    many := c
                                                    given := (C.comes (yC y) (p.wants - c) (C.sub c p.k1) (C.sub c p.k2) (p.fr.map (C.sub c) ++ [if lostF z then none else (C.sendO y.t l1).1])).2.1 } := by
    simp only [C.tick, C.shift, e1, hl, en, esd, eag]
  rw [eC]
  have seen1 : ((C.sendO y.t l1).1.map fun v => ((p.turn + (c : Int)) % y.n + v) % y.n) = q1.map (· % y.n) := by
    rw [s1, tm]
    cases (C.sendO y.t l1).1 with
    | none => rfl
    | some v => simp
  simp only [seen1, ← s2]
  generalize hF : p.fr.map (C.sub c) ++ [if lostF z then none else (C.sendO y.t l1).1] = F at *
  obtain ⟨f, fs, rfl⟩ : ∃ f fs, F = f :: fs := by
    cases F with
    | nil => simp at hF
    | cons f fs => exact ⟨f, fs, rfl⟩
  have hfs : fr ++ [if lostF z then none else q1] = f.map (b + (c : Int) + ·) :: fs.map (Option.map (b + (c : Int) + ·)) := by rw [fr2]; rfl
  have anr : ∀ o : Option Int, ∀ o' : Option Int, o = o'.map (fun A => (A - (b + (c : Int))) % y.n) → p.an.tail.map (Option.map fun a => (a - (c : Int)) % y.n) ++ [if lostA z then none else o] = (an' ++ [if lostA z then none else o']).map (Option.map fun A => (A - (b + (c : Int))) % y.n) := fun o o' q => by
    rw [ean, List.tail_cons, List.map_append, List.map_map]
    congr 1
    · apply List.map_congr_left
      intro o _
      cases o with
      | none => rfl
      | some v => simp only [Function.comp, Option.map_some, Int.emod_sub_emod]; congr 2; omega
    · cases lostA z
      · simp [q]
      · rfl
  cases f with
  | none =>
    obtain ⟨rt, gd, l, st', t1, t2, t3⟩ := tickO_ok (z := z) (gv := []) (ret := 0) (wants' := wants) (kp' := kp) ok ho hs ea (by omega) (by omega) hear1 hear0 on1.hk (by omega) send1 hfs (fun c a0 a2 a3 l z => by cases z) (by simp) (fun _ => ⟨rfl, rfl, rfl⟩)
    refine ⟨rt, gd, l, st', ck2, kp, ks2, aw1, wants, _, _, t1, t2, t3, ?_⟩
    exact ⟨on2, by omega, by omega, by omega, w1, by rw [← w1] at hkp; exact hkp, rfl, anr none none rfl, tm⟩
  | some c0 =>
    obtain ⟨j, g1, g2, g3, g4, g5, g6, g7⟩ := getO_sim (w := y.w) (n := y.n) (c := c0) hn w3 hkp
    have ecm : C.comes (yC y) (p.wants - c) (C.sub c p.k1) (C.sub c p.k2) (some c0 :: fs) = ((C.getO y.w y.n (p.wants - c) (C.sub c p.k1) (C.sub c p.k2) c0).1, (C.getO y.w y.n (p.wants - c) (C.sub c p.k1) (C.sub c p.k2) c0).2.1, some c0) := by
      simp only [C.comes, C.get, eo, if_true]
      show _ = ((C.getO y.w y.n _ _ _ _).1, _, _)
      rw [show C.getO (yC y).w (yC y).n = C.getO y.w y.n from rfl, g7]
    rw [ecm]
    simp only
    have kl3 := kpO_len (w := y.w) (n := y.n) (W := b + (c : Int) + (p.wants - (c : Int))) (c := b + (c : Int) + c0) (kp := kp)
    have dl := drops_len j (kpO y.w y.n (b + (c : Int) + (p.wants - (c : Int))) kp (b + (c : Int) + c0)) (b + (c : Int) + (p.wants - (c : Int)))
    have get1 : ∀ c' a0 a2 a3 l, (some c0).map (b + (c : Int) + ·) = some c' → g__law_get [wayD y, .ref (hp.length + 1), .int c'] (hp ++ a0 :: .dic (rd0 wants (hp.length + 4)) :: a2 :: a3 :: .dic kp :: l) = some (.ok (.tup [.ref (hp.length + (l.length + 5)), .int ((b + (c : Int) + c0) % y.n)]), hp ++ a0 :: .dic (rd0 (b + (c : Int) + (C.getO y.w y.n (p.wants - c) (C.sub c p.k1) (C.sub c p.k2) c0).1.1) (hp.length + 4)) :: a2 :: a3 :: .dic (dropsO (kpO y.w y.n (b + (c : Int) + (p.wants - (c : Int))) kp (b + (c : Int) + c0)) (b + (c : Int) + (p.wants - (c : Int))) j) :: (l ++ [.lst (((C.getO y.w y.n (p.wants - c) (C.sub c p.k1) (C.sub c p.k2) c0).2.1.map (b + (c : Int) + ·)).map .int)])) := fun c' a0 a2 a3 l q => by
      simp only [Option.map_some, Option.some.injEq] at q
      subst q
      rw [← g4, ← g3, w1]
      exact getO_at hn ho (by omega) (by omega) (by omega) g2
    obtain ⟨rt, gd, l, st', t1, t2, t3⟩ := tickO_ok (z := z) ok ho hs ea (by omega) (by omega) hear1 hear0 on1.hk (by omega) send1 hfs get1 (by simp; omega) (fun q => by cases q)
    refine ⟨rt, gd, l, st', ck2, _, ks2, aw1, _, _, _, ?_, t2, t3, ?_⟩
    · rw [t1, tm]
      simp
    · refine ⟨on2, by omega, by omega, by omega, rfl, g6, rfl, anr _ _ ?_, tm⟩
      simp only [Option.map_some, Int.emod_sub_emod]
      congr 2; omega
end R

namespace R
open PySem L2 PyProof.Rows HI
open C (mx atZ)
def roO (b : Int) (o : C.Out) : RO := ⟨beginR 0, o.seen, o.told, o.given.map (b + o.many + ·), o.again⟩
def runO (y : Way) : C.Pl → Int → List (Bool × Bool) → List RO
  | p, b, [] => []
  | p, b, f :: fs => roO b (C.tick (yC y) p f.1 f.2) :: runO y (C.tick (yC y) p f.1 f.2).pl (b + (C.tick (yC y) p f.1 f.2).many) fs
theorem runO_tk {y : Way} : ∀ (fs : List (Bool × Bool)) (p : C.Pl) (b : Int), (runO y p b fs).map toTk = (C.run (yC y) p b fs).1
  | [], p, b => rfl
  | f :: fs, p, b => by simp only [runO, C.run, List.map_cons, runO_tk fs]; rfl
theorem play_loopO {y : Way} (ok : WayOk y) (ho : y.kind = "own") {d : Nat} (hd : d = 1 ∨ d = 2) {x0 x2 : Option D} : ∀ (l : List Str) (p : C.Pl) (b : Int) (m : Nat) (st : D) (hp : Hp8) (ds : List D) (os : List RO) (ck kp : List (Key × D)) (ks aw : List Int) (wants : Int) (fr an : List (Option Int)) (x5 x6 x7 x8 x9 : Option D),
    C.Wf (yC y) d p → m + l.length < 60 → Ow y.n p b m ck kp ks aw wants fr an → StAt 5 hp st (sdc (sO b)) (fun k => .dic (rd0 wants k)) ck (aw.map .int) kp (fr.map oD) (an.map oD) → hp[5]? = some (.lst ds) → Rws hp ds os → ds.length + l.length ≤ 1000 →
    ∃ st' hp' ds' y5 y6 y7 y8 y9, loopL (gNm 5) L__law_play_1 (l.map .str) [x0, some (wayD y), x2, some st, some (.ref 5), x5, x6, x7, x8, x9] hp = some (.nx, [x0, some (wayD y), x2, some st', some (.ref 5), y5, y6, y7, y8, y9], hp') ∧ hp'[5]? = some (.lst ds') ∧ Rws hp' ds' (os ++ runO y p b (l.map fl))
  | [], p, b, m, st, hp, ds, os, ck, kp, ks, aw, wants, fr, an, x5, x6, x7, x8, x9, _, _, _, h, h5, hr, _ => ⟨st, hp, ds, x5, x6, x7, x8, x9, by simp, h5, by simpa [runO] using hr⟩
  | z :: l, p, b, m, st, hp, ds, os, ck, kp, ks, aw, wants, fr, an, x5, x6, x7, x8, x9, wf, hm, ow, h, h5, hr, hl => by
    have hm : m + (l.length + 1) < 60 := hm
    have hl : ds.length + (l.length + 1) ≤ 1000 := hl
    have h6 : 5 < hp.length := (List.getElem?_eq_some_iff.mp h5).1
    obtain ⟨rt, gd, nl, st1, ck1, kp1, ks1, aw1, wants1, fr1, an1, et, hs, hg, ow1⟩ := tickO_sim (z := z) ok ho hd wf (by omega) ow h
    have wf1 := C.tick_wf ok.c wf (lostF z) (lostA z)
    obtain ⟨g1, s1⟩ := hs 5 h6
    generalize ho' : C.tick (yC y) p (lostF z) (lostA z) = o at *
    have h5' : (hp ++ nl)[5]? = some (.lst ds) := ga_old h5
    have t : L__law_play_1 [x0, some (wayD y), x2, some st, some (.ref 5), some (.str z), x6, x7, x8, x9] hp = some (.nx, [x0, some (wayD y), x2, some st1, some (.ref 5), some (.str z), some (.tup [oD o.seen, oD o.told]), some gd, some (.bl rt), some (.bl o.again)], (hp ++ nl).set 5 (.lst (ds ++ [.tup [.tup [oD o.seen, oD o.told], gd, .bl o.again]]))) := by
      have : ds.length < 1000000 := by omega
      simp [L__law_play_1, et, h5', this]
    obtain ⟨st', hp', ds', y5, y6, y7, y8, y9, e, q5, qr⟩ := play_loopO ok ho hd (x0 := x0) (x2 := x2) l o.pl (b + o.many) (m + 1) st1 ((hp ++ nl).set 5 (.lst (ds ++ [.tup [.tup [oD o.seen, oD o.told], gd, .bl o.again]]))) (ds ++ [.tup [.tup [oD o.seen, oD o.told], gd, .bl o.again]]) (os ++ [roO b o]) ck1 kp1 ks1 aw1 wants1 fr1 an1 (some (.str z)) (some (.tup [oD o.seen, oD o.told])) (some gd) (some (.bl rt)) (some (.bl o.again)) wf1 (by omega) ow1 s1.set (gs_at h5') (Rws.snoc (o := roO b o) ⟨gd, rfl, by rw [lstM_set g1]; exact hg, g1⟩ (Rws.mono hr)) (by simp; omega)
    refine ⟨st', hp', ds', y5, y6, y7, y8, y9, ?_, q5, ?_⟩
    · rw [List.map_cons, lp_nm]
      show lpK (gNm 5) L__law_play_1 (l.map .str) (L__law_play_1 [x0, some (wayD y), x2, some st, some (.ref 5), some (.str z), x6, x7, x8, x9] hp) = _
      rw [t, lpK_nx, e]
    · have : runO y p b ((z :: l).map fl) = roO b o :: runO y o.pl (b + o.many) (l.map fl) := by
        simp only [List.map_cons, runO, fl, ho']
      rw [this]
      simpa using qr
theorem begin_ow {y : Way} (ok : WayOk y) (ho : y.kind = "own") {d : Nat} : Ow y.n (C.begun (yC y) d) 0 0 [] [] [] [] 0 (beginR d).fr (beginR d).an := by
  have eo : (yC y).own = true := yC_own.2 ho
  have z : ∀ j, atZ 0 (C.begun (yC y) d).snd j = 0 := fun j => by
    simp only [C.begun, eo, if_true, atZ]
    split
    · rw [List.getD_eq_getElem?_getD, List.getElem?_replicate]
      split <;> rfl
    · rfl
  refine ⟨⟨rfl, by simp, fun j => by rw [z]; rfl, fun j _ => by rw [z]; rfl, by rw [z]; omega, fun x hx => ?_⟩, by simp, by simp, by simp, rfl, ⟨fun j => ?_⟩, ?_, ?_, ?_⟩
  · simp only [C.begun, eo, if_true, List.mem_replicate] at hx; omega
  · simp [valD, C.begun]
  · simp [beginR, C.begun]
  · simp [beginR, C.begun]
  · simp [C.begun]
theorem play_own {y : Way} (ok : WayOk y) (ho : y.kind = "own") {d : Nat} {r : Int} (hd : d = 1 ∨ d = 2) {l : List Str} (hl : l.length ≤ 40) {hp : Hp8} : g__law_play [wireD d r, wayD y, .lst (l.map .str)] hp = some (.ok (.lst ((runO y (C.begun (yC y) d) 0 (l.map fl)).map rowD)), hp) := by
  have hs : StAt 5 [sdc ⟨0, 0, 0, 0, false⟩ 1 2, .dic [], .lst [], .dic (rd0 0 4), .dic [], .lst []] (.lst [.ref 0, .ref 3, .lst ((beginR d).fr.map oD), .lst ((beginR d).an.map oD)]) (sdc (sO 0)) (fun k => .dic (rd0 0 k)) [] (([] : List Int).map .int) [] ((beginR d).fr.map oD) ((beginR d).an.map oD) :=
    ⟨0, 3, 1, 2, 4, _, _, rfl, rfl, rfl, rfl, rfl, rfl, rfl, rfl, by decide, by decide, by decide, by decide, by decide, by simp, by simp⟩
  obtain ⟨st', hp', ds', y5, y6, y7, y8, y9, e, q5, qr⟩ := play_loopO ok ho hd (x0 := some (wireD d r)) (x2 := some (.lst (l.map .str))) l _ 0 0 _ _ [] [] _ _ _ _ _ _ _ none none none none none (C.begun_wf ok.c (by omega)) (by omega) (begin_ow ok ho) hs rfl trivial (by simp; omega)
  refine pureGd_ok (hp0 := hp') (d := .ref 5) (by simp [closeds_strs]) ?_ ?_
  · simp [e_runF, b__law_play, begin_ok hd, e_sPar2, par2K_s, e]
  · show (match hp'[5]? with | some (.lst ds) => ((mapO (unD hp' 19) ds).map D.lst : Option D) | _ => (none : Option D)) = _
    rw [q5]
    show (mapO (unD hp' (16 + 3)) ds').map D.lst = _
    rw [Rws.un qr]; simp
end R

namespace R
open PySem L2 PyProof.Rows HI
open C (mx)
/-- letters that are out: not more than the window -/
def Tw (w : Int) (l : List Int) : Prop := ∀ t q c a, l = [t, q, c, a] → q ≤ t ∧ t ≤ w ∧ 0 ≤ t
theorem hear_tw {y : C.Y} (ho : y.own = false) {l : List Int} {A : Int} (h : Tw y.w l) : Tw y.w (C.hear y l A).1 := by
  unfold C.hear
  simp only [ho, Bool.false_eq_true, if_false]
  split
  · rename_i s p c a
    have := h _ _ _ _ rfl
    unfold C.hearB
    intro t q c a e
    split at e
    · simp only [mx] at e
      split at e <;> (simp at e; omega)
    · split at e
      · simp at e; omega
      · dsimp only at e; split at e <;> (simp at e; omega)
  · exact h
theorem heard_tw {y : C.Y} (ho : y.own = false) {p : C.Pl} (h : Tw y.w p.snd) : Tw y.w (C.heard y p).1 := by
  unfold C.heard
  split
  · exact hear_tw ho h
  · exact h
theorem send_tw {y : C.Y} (ho : y.own = false) {l : List Int} (h : Tw y.w l) : Tw y.w (C.send y l).2 := by
  unfold C.send
  simp only [ho, Bool.false_eq_true, if_false]
  split
  · rename_i s p c a
    have := h _ _ _ _ rfl
    unfold C.sendB
    intro t q c a e
    simp only at e
    unfold mx at e
    split at e <;> split at e <;> split at e <;> (try split at e) <;> simp at e <;> omega
  · exact h
theorem tick_tw {y : C.Y} (ho : y.own = false) {p : C.Pl} {lf la : Bool} (h : Tw y.w p.snd) : Tw y.w (C.tick y p lf la).pl.snd := send_tw ho (heard_tw ho h)
theorem again_sim {b : Int} {s : SB} {l : List Int} {y : C.Y} (ho : y.own = false) (hw : 1 ≤ y.w) (h : Sn b s l) (ht : Tw y.w l) : isIn (sendR y.w y.t s).1 (rgI s.base s.sent) = C.again y l := by
  obtain ⟨t, q, c, a, rfl, rfl, h1, h2, h3, h4⟩ := h.ex
  have tw := (ht _ _ _ _ rfl).2.1
  have mem : ∀ i : Int, (rgI b (b + t)).contains i = decide (b ≤ i ∧ i < b + t) := fun i => by
    rw [Bool.eq_iff_iff, List.contains_iff_mem, decide_eq_true_eq]
    simp only [rgI, List.mem_map, List.mem_range]
    exact ⟨fun ⟨k, g1, g2⟩ => by omega, fun g => ⟨(i - b).toNat, by omega, by omega⟩⟩
  simp only [C.again, ho, Bool.false_eq_true, if_false, sendR, C.againB]
  by_cases g1 : 0 < t ∧ c = y.t
  · rw [if_pos (show b < b + t ∧ c = y.t by omega)]
    simp only [show b < b + y.w by omega, if_true]
    show (rgI b (b + t)).contains b = _
    rw [mem]
    simp [g1.1, g1.2]
    omega
  · rw [if_neg (show ¬ (b < b + t ∧ c = y.t) by omega)]
    have e1 : (decide (0 < t) && (c == y.t)) = false := by
      by_cases z : 0 < t
      · have : ¬ c = y.t := fun w => g1 ⟨z, w⟩
        simp [this]
      · simp [z]
    rw [e1, Bool.false_or]
    by_cases g2 : q < y.w
    · simp only [show b + q < b + y.w by omega, if_true]
      show (rgI b (b + t)).contains (b + q) = _
      rw [mem]
      congr 1
      apply propext
      omega
    · simp only [show ¬ b + q < b + y.w by omega, if_false]
      show false = _
      rw [decide_eq_false (by omega)]
theorem rows_sim {y : Way} (ok : WayOk y) (ho : y.kind ≠ "own") {d : Nat} : ∀ (fs : List (Bool × Bool)) (p : C.Pl) (b : Int) (S : RS), C.Wf (yC y) d p → Tw y.w p.snd → Sm y.n p b S → (runR y S fs).map rowD = (runO y p b fs).map rowD
  | [], p, b, S, _, _, _ => rfl
  | f :: fs, p, b, S, wf, tw, h => by
    have hn : 0 < y.n := by have := ok.w1; have := ok.wn; omega
    have eo : (yC y).own = false := yC_own'.2 ho
    obtain ⟨h1, h2, h3, h4⟩ := tick_sim ho hn (lf := f.1) (la := f.2) h (wf.kb eo)
    have h5 : (tickR y S f.1 f.2).again = (C.tick (yC y) p f.1 f.2).again := again_sim (y := yC y) eo ok.w1 (heard_sim ho hn h) (heard_tw (y := yC y) eo tw)
    have ih := rows_sim ok ho fs _ _ _ (C.tick_wf ok.c wf f.1 f.2) (tick_tw (y := yC y) eo tw) h1
    simp only [runR, runO, List.map_cons, ih]
    congr 1
    simp only [rowD, roO, h2, h3, h4, h5]
/-- the reference's play, all kinds -/
theorem play_any {y : Way} (ok : WayOk y) {d : Nat} {r : Int} (hd : d = 1 ∨ d = 2) {l : List Str} (hl : l.length ≤ 40) {hp : Hp8} : g__law_play [wireD d r, wayD y, .lst (l.map .str)] hp = some (.ok (.lst ((runO y (C.begun (yC y) d) 0 (l.map fl)).map rowD)), hp) := by
  by_cases ho : y.kind = "own"
  · exact play_own ok ho hd hl
  · rw [play_ok ok ho hd hl, rows_sim ok ho _ _ _ _ (C.begun_wf ok.c (by omega)) (fun t q c a e => ?_) (begin_sim ho)]
    have eo : (yC y).own = false := yC_own'.2 ho
    have := ok.w1
    simp [C.begun, eo] at e
    omega
theorem ticks_any {y : Way} {d : Nat} (l : List Str) : (runO y (C.begun (yC y) d) 0 (l.map fl)).map toTk = ticks y d l := runO_tk _ _ _
end R

namespace R
open PySem L2 PyProof.Rows HI
theorem plain_oD {n : Nat} {o : Option Int} : HI.plain (n + 1) (oD o) = true := by cases o <;> rfl
theorem plain_int {n : Nat} {i : Int} : HI.plain n (.int i) = true := by cases n <;> rfl
theorem plain_seen {k : C.Tk} {n : Nat} : HI.plain (n + 2) (seenD k) = true := by
  simp [seenD, HI.plain, plains, plain_oD]
theorem plain_giv {k : C.Tk} {n : Nat} : HI.plain (n + 2) (givD k) = true := by
  simp [givD, HI.plain, plains_map (n := n + 1) (fun x : Int => plain_int)]
theorem plain_seens {T : List C.Tk} : HI.plain 60 (.lst (T.map seenD)) = true := by
  show plains 59 (T.map seenD) = true
  exact plains_map fun k => plain_seen (n := 57)
theorem plain_givs {T : List C.Tk} : HI.plain 60 (.lst (T.map givD)) = true := by
  show plains 59 (T.map givD) = true
  exact plains_map fun k => plain_giv (n := 57)
def L_law_1 : SF := (sSeq (sPar2 3 4 (sCons (sCallD g__law_wire (sCons (sVar 0) (sCons (sVar 1) sNil))) (sCons (sCallD g__law_way (sCons (sVar 0) (sCons (sVar 1) sNil))) sNil)))
  (sSeq (sAsg (sAdd (sTup (sCons (pur (.str "own")) sNil)) (sSl (sVar 4) (sPart (pur (.int 1))) (pur none))) (gNm 5))
  (sSeq (sAsg (sCallD g__law_fates (sCons (sVar 0) (sCons (sVar 1) (sCons (sVar 3) (sCons (pur (.int 40)) sNil))))) (gNm 6))
  (sSeq (sAsg (sCallD g__law_play (sCons (sVar 3) (sCons (sVar 5) (sCons (sVar 6) sNil)))) (gNm 7))
  (sSeq (sIfS (sTst (sOp (sCmp neD) (sCallD g_seen_along (sCons (sVar 3) (sCons (sVar 5) (sCons (sVar 6) sNil)))) (sLc (sIt (sVar 7)) (.nm 8) tfYes (sIx (sVar 8) (pur (.int 0))) [8])))
  (sRet (pur (.bl false)))
  sSkip)
  (sIfS (sTst (sOp (sCmp neD) (sCallD g_given_along (sCons (sVar 3) (sCons (sVar 5) (sCons (sVar 6) sNil)))) (sLc (sIt (sVar 7)) (.nm 8) tfYes (sIx (sVar 8) (pur (.int 1))) [8])))
  (sRet (pur (.bl false)))
  sSkip))))))
def b_law : SF := (sSeq (sAsg (sLstC (sCons (pur (.int 0)) (sCons (pur (.int 0)) sNil))) (gNm 1))
  (sSeq (sFor (sRng1 (sCons (pur (.int 3)) sNil)) (gNm 2)
  L_law_1)
  (sRet (pur (.bl true)))))
theorem turn {ns : List Int} {a b : Int} {k : Int} (ha : 0 ≤ a) {x3 x4 x5 x6 x7 x8 : Option D} : ∃ a' b' y3 y4 y5 y6 y7, 0 ≤ a' ∧ L_law_1 [some (.scr ns), some (.ref 0), some (.int k), x3, x4, x5, x6, x7, x8] [Tn a b] = some (.nx, [some (.scr ns), some (.ref 0), some (.int k), y3, y4, y5, y6, y7, x8], [Tn a' b']) := by
  obtain ⟨dI, r, a1, b1, d1, d2, r1, r2, p1, e1⟩ := wire_ok (ns := ns) (a := a) (b := b) (hp := []) ha
  obtain ⟨z, w, n, t, a2, b2, kz, w1, w2, n1, n2, t1, t2, p2, e2⟩ := way_ok (ns := ns) (a := a1) (b := b1) (hp := []) p1
  obtain ⟨l, a3, b3, lg, ll, p3, e3⟩ := fates_ok (ns := ns) (d := dI) (r := r) (a := a2) (b := b2) (most := 40) (hp := []) p2 r1 (by omega) (by omega)
  obtain ⟨d, rfl⟩ : ∃ d : Nat, dI = d := ⟨dI.toNat, by omega⟩
  have hd : d = 1 ∨ d = 2 := by omega
  let y : Way := ⟨"own", w, n, t⟩
  have ok : WayOk y := ⟨.inr (.inl rfl), w1, w2, n1, n2, t1, t2⟩
  have ll' : l.length ≤ 40 := by omega
  have s1 := seen_along_ok (hp := [Tn a3 b3]) ok hd r1 r2 ll' lg
  have s2 := given_along_ok (hp := [Tn a3 b3]) ok hd r1 r2 ll' lg
  have s3 := play_any (hp := [Tn a3 b3]) (r := r) ok hd ll'
  have eq := ticks_any (y := y) (d := d) l
  have hlen : (runO y (C.begun (yC y) d) 0 (l.map fl)).length ≤ 40 := by
    have := congrArg List.length eq
    simp [ticks, C.run_len] at this
    omega
  generalize runO y (C.begun (yC y) d) 0 (l.map fl) = R at *
  have lc1 : ∀ x0 x1 x2 x3 x4 x5 x6 x7 : Option D, ∀ hp, loopC (.nm 8) tfYes (sIx (sVar 8) (pur (.int 0))) [x0, x1, x2, x3, x4, x5, x6, x7, none] (R.map rowD) [] hp = some ((ticks y d l).map seenD, hp) := fun x0 x1 x2 x3 x4 x5 x6 x7 hp => by
    rw [loopC_all rowD (fun o => seenD (toTk o)) R (fun o _ => ⟨_, rfl, by simp [row_seen]⟩) (by omega), ← eq]
    simp
  have lc2 : ∀ x0 x1 x2 x3 x4 x5 x6 x7 : Option D, ∀ hp, loopC (.nm 8) tfYes (sIx (sVar 8) (pur (.int 1))) [x0, x1, x2, x3, x4, x5, x6, x7, none] (R.map rowD) [] hp = some ((ticks y d l).map givD, hp) := fun x0 x1 x2 x3 x4 x5 x6 x7 hp => by
    rw [loopC_all rowD (fun o => givD (toTk o)) R (fun o _ => ⟨_, rfl, by simp [row_given]⟩) (by omega), ← eq]
    simp
  have q1 : ∀ hp, neD (.lst ((ticks y d l).map seenD)) (.lst ((ticks y d l).map seenD)) hp = some false := fun hp => neD_same plain_seens
  have q2 : ∀ hp, neD (.lst ((ticks y d l).map givD)) (.lst ((ticks y d l).map givD)) hp = some false := fun hp => neD_same plain_givs
  have ey : wayD y = .tup [.str "own", .int w, .int n, .int t] := rfl
  have ew : wireD d r = .tup [.int d, .int r] := rfl
  rw [ey, ew] at s1 s2 s3
  have cut : HI.cutD [D.str z, .int w, .int n, .int t] (some 1) none = [.int w, .int n, .int t] := cut_from (k := 1) (by simp)
  have sl : 4 ≤ sizeLine := by decide +kernel
  have p4 : pl [D.str "own", .int w, .int n, .int t] = false := rfl
  refine ⟨a3, b3, some (.tup [.int d, .int r]), some (.tup [.str z, .int w, .int n, .int t]), some (.tup [.str "own", .int w, .int n, .int t]), some (.lst (l.map .str)), some (.lst (R.map rowD)), p3, ?_⟩
  simp [-List.nil_append, -List.map_map, L_law_1, e_sPar2, par2K_s, e1, e2, e3, cut, sl, p4, s1, s2, s3, lc1, lc2, q1, q2]
theorem law_main (ns : List Int) (hn : ns.length ≤ 63) : ∃ hp, runF 9 1 b_law [.scr ns] [] = some (.ok (.bl true), hp) := by
  obtain ⟨a1, b1, y3, y4, y5, y6, y7, p1, e1⟩ := turn (ns := ns) (a := 0) (b := 0) (k := 0) (by omega) (x3 := none) (x4 := none) (x5 := none) (x6 := none) (x7 := none) (x8 := none)
  obtain ⟨a2, b2, z3, z4, z5, z6, z7, p2, e2⟩ := turn (ns := ns) (a := a1) (b := b1) (k := 1) p1 (x3 := y3) (x4 := y4) (x5 := y5) (x6 := y6) (x7 := y7) (x8 := none)
  obtain ⟨a3, b3, u3, u4, u5, u6, u7, p3, e3⟩ := turn (ns := ns) (a := a2) (b := b2) (k := 2) p2 (x3 := z3) (x4 := z4) (x5 := z5) (x6 := z6) (x7 := z7) (x8 := none)
  have e0 : ([] ++ [Cell.lst [.int 0, .int 0]] : Hp8) = [Tn 0 0] := rfl
  have rg : rngD 0 3 = [.int 0, .int 1, .int 2] := rfl
  have okr : okRng 3 = true := by decide
  refine ⟨[Tn a3 b3], ?_⟩
  simp [-List.nil_append, e_runF, b_law, e0, okr, rg, lp_nm, e1, e2, e3, lpK_nx]
end R

namespace R
open PySem L2 PyProof.Rows HI
def top (i : Nat) : Stmt := PySem.Challenge.pw_resendways_k05_whole_own.main.body.getD i (.Pass ⟨0, 0, 0, 0⟩)
structure Txt (K : PySem.W.Frag) (mg : Str → Option Value) : Prop where
  c_ANSWERED : GInt mg "ANSWERED" (-1)
  c_FATES : GTup K mg "FATES" ["answer", "both", "frame", "none"]
  c_KINDS : GTup K mg "KINDS" ["back", "own", "quick"]
  c_LONGEST : GInt mg "LONGEST" (40)
section
variable {P : Program} {w : World} {K : PySem.W.Frag} {mg : Str → Option Value} {base : Heap}
abbrev s__law_draw : Stmt := top 43
theorem sc__law_draw : FnScope ["script", "town", "many", "one", "at", "mixed"] ["script", "town", "many"] (defScope s__law_draw) := ⟨rfl, rfl, rfl, by decide +kernel, rfl, by decide +kernel, by decide +kernel⟩
theorem f__law_draw {f : Addr} {fd : FuncData} (F : Fun K "_law_draw" "_law_draw" s__law_draw f fd) (B : NoB mg) (T : Txt K mg) : Fn8 P w K mg base 1 f fd ["script", "town", "many"] (runF 6 3 (b__law_draw)) := fn_ok F sc__law_draw fun cdv A outer s H E hr => by
  have nd := sc__law_draw.nd
  have tk : Takes (cxOf (L2.CX P w) P w K mg base ["script", "town", "many", "one", "at", "mixed"] "_law_draw" (defScope s__law_draw) f cdv A outer s H E) (fun cls d _ H => E cls d H) := takes_of rfl rfl rfl rfl
  have hx : Passes (L2.CX P w) (cxOf (L2.CX P w) P w K mg base ["script", "town", "many", "one", "at", "mixed"] "_law_draw" (defScope s__law_draw) f cdv A outer s H E) E := passes_call tk fun _ _ _ _ h => h
  have po : PassesOwn (model P w) (A.deeper (envOfC "_law_draw" (defScope s__law_draw) s.heap.objs.size f cdv)) (cxOf (L2.CX P w) P w K mg base ["script", "town", "many", "one", "at", "mixed"] "_law_draw" (defScope s__law_draw) f cdv A outer s H E).env (cxOf (L2.CX P w) P w K mg base ["script", "town", "many", "one", "at", "mixed"] "_law_draw" (defScope s__law_draw) f cdv A outer s H E).xe := passes_of (X := cxOf (L2.CX P w) P w K mg base ["script", "town", "many", "one", "at", "mixed"] "_law_draw" (defScope s__law_draw) f cdv A outer s H E) rfl
  have hu : (A.deeper (envOfC "_law_draw" (defScope s__law_draw) s.heap.objs.size f cdv)).units + 100 < cLine := by have := hr.un; omega
  exact (dss_cons (ds_if (dt_c c_gt (de_ix (dv 1) de_int) de_int)
  (dss_cons (ds_set (i := 3) nd rfl (Or.inl rfl) (de_mod (de_ix (dv 1) de_int) (dv 2)))
  (dss_cons (ds_asg (de_fdiv (de_ix (dv 1) de_int) (dv 2)) (dg_ix (E := E) (dv 1) de_int))
  (dss_one (ds_ret (dv 3)))))
  dss_nil)
  (dss_cons (ds_set (i := 4) nd rfl (Or.inl rfl) (de_ix (dv 1) de_int))
  (dss_cons (ds_augIx (dv 1) de_int de_int)
  (dss_cons (ds_if (dt_c (c_eq hu) (dv 0) (de_lst da_nil))
  (dss_one (ds_ret (de_mod (dv 4) (dv 2))))
  dss_nil)
  (dss_cons (ds_if (dt_w (dw_and (dt_c c_lt (dv 4) (de_len rfl B.len (da_cons (dv 0) da_nil))) (dw_and1 (dt_c c_ge (de_ix (dv 0) (dv 4)) (de_pow de_int de_int)))))
  (dss_cons (ds_asg (de_mod (de_fdiv (de_ix (dv 0) (dv 4)) (dv 2)) (de_mul (de_pow de_int de_int) (de_pow de_int de_int))) (dg_ix (E := E) (dv 1) de_int))
  (dss_one (ds_ret (de_mod (de_ix (dv 0) (dv 4)) (dv 2)))))
  dss_nil)
  (dss_cons (ds_set (i := 5) nd rfl (Or.inl rfl) (de_mod (de_add (de_add (de_mul (de_ix (dv 0) (de_mod (dv 4) (de_len rfl B.len (da_cons (dv 0) da_nil)))) de_int) (de_mul de_int (dv 4))) de_int) de_int))
  (dss_one (ds_ret (de_mod (de_mod (de_mod (de_pow (dv 5) de_int) de_int) de_int) (dv 2))))))))))
abbrev s__law_let : Stmt := top 49
theorem sc__law_let : FnScope ["left"] ["left"] (defScope s__law_let) := ⟨rfl, rfl, rfl, by decide +kernel, rfl, by decide +kernel, by decide +kernel⟩
theorem f__law_let {f : Addr} {fd : FuncData} (F : Fun K "_law_let" "_law_let" s__law_let f fd) (B : NoB mg) (T : Txt K mg) : Fn8 P w K mg base 1 f fd ["left"] (runF 1 1 (b__law_let)) := fn_ok F sc__law_let fun cdv A outer s H E hr => by
  have nd := sc__law_let.nd
  have tk : Takes (cxOf (L2.CX P w) P w K mg base ["left"] "_law_let" (defScope s__law_let) f cdv A outer s H E) (fun cls d _ H => E cls d H) := takes_of rfl rfl rfl rfl
  have hx : Passes (L2.CX P w) (cxOf (L2.CX P w) P w K mg base ["left"] "_law_let" (defScope s__law_let) f cdv A outer s H E) E := passes_call tk fun _ _ _ _ h => h
  have po : PassesOwn (model P w) (A.deeper (envOfC "_law_let" (defScope s__law_let) s.heap.objs.size f cdv)) (cxOf (L2.CX P w) P w K mg base ["left"] "_law_let" (defScope s__law_let) f cdv A outer s H E).env (cxOf (L2.CX P w) P w K mg base ["left"] "_law_let" (defScope s__law_let) f cdv A outer s H E).xe := passes_of (X := cxOf (L2.CX P w) P w K mg base ["left"] "_law_let" (defScope s__law_let) f cdv A outer s H E) rfl
  have hu : (A.deeper (envOfC "_law_let" (defScope s__law_let) s.heap.objs.size f cdv)).units + 100 < cLine := by have := hr.un; omega
  exact (dss_one (ds_ret (de_if (dt_c (c_eq hu) (dv 0) de_int) (de_lst (da_cons de_str (da_cons de_str (da_cons de_str (da_cons de_str da_nil))))) (de_lst (da_cons de_str da_nil)))))
abbrev s__law_pick : Stmt := top 44
theorem sc__law_pick : FnScope ["script", "town", "some"] ["script", "town", "some"] (defScope s__law_pick) := ⟨rfl, rfl, rfl, by decide +kernel, rfl, by decide +kernel, by decide +kernel⟩
theorem f__law_pick {f : Addr} {fd : FuncData} (F : Fun K "_law_pick" "_law_pick" s__law_pick f fd) (B : NoB mg) (T : Txt K mg) (h__law_draw : Def8 P w K mg base 1 "_law_draw" ["script", "town", "many"] g__law_draw) : Fn8 P w K mg base 2 f fd ["script", "town", "some"] (runF 3 3 (b__law_pick)) := fn_ok F sc__law_pick fun cdv A outer s H E hr => by
  have nd := sc__law_pick.nd
  have tk : Takes (cxOf (L2.CX P w) P w K mg base ["script", "town", "some"] "_law_pick" (defScope s__law_pick) f cdv A outer s H E) (fun cls d _ H => E cls d H) := takes_of rfl rfl rfl rfl
  have hx : Passes (L2.CX P w) (cxOf (L2.CX P w) P w K mg base ["script", "town", "some"] "_law_pick" (defScope s__law_pick) f cdv A outer s H E) E := passes_call tk fun _ _ _ _ h => h
  have po : PassesOwn (model P w) (A.deeper (envOfC "_law_pick" (defScope s__law_pick) s.heap.objs.size f cdv)) (cxOf (L2.CX P w) P w K mg base ["script", "town", "some"] "_law_pick" (defScope s__law_pick) f cdv A outer s H E).env (cxOf (L2.CX P w) P w K mg base ["script", "town", "some"] "_law_pick" (defScope s__law_pick) f cdv A outer s H E).xe := passes_of (X := cxOf (L2.CX P w) P w K mg base ["script", "town", "some"] "_law_pick" (defScope s__law_pick) f cdv A outer s H E) rfl
  have hu : (A.deeper (envOfC "_law_pick" (defScope s__law_pick) s.heap.objs.size f cdv)).units + 100 < cLine := by have := hr.un; omega
  exact (dss_one (ds_ret (de_ix (dv 2) (de_fn h__law_draw (hr.mono (by decide)) hx (da_cons (dv 0) (da_cons (dv 1) (da_cons (de_len rfl B.len (da_cons (dv 2) da_nil)) da_nil)))))))
abbrev s__law_rest : Stmt := top 48
theorem sc__law_rest : FnScope ["wire", "left", "fate"] ["wire", "left", "fate"] (defScope s__law_rest) := ⟨rfl, rfl, rfl, by decide +kernel, rfl, by decide +kernel, by decide +kernel⟩
theorem f__law_rest {f : Addr} {fd : FuncData} (F : Fun K "_law_rest" "_law_rest" s__law_rest f fd) (B : NoB mg) (T : Txt K mg) : Fn8 P w K mg base 1 f fd ["wire", "left", "fate"] (runF 3 3 (b__law_rest)) := fn_ok F sc__law_rest fun cdv A outer s H E hr => by
  have nd := sc__law_rest.nd
  have tk : Takes (cxOf (L2.CX P w) P w K mg base ["wire", "left", "fate"] "_law_rest" (defScope s__law_rest) f cdv A outer s H E) (fun cls d _ H => E cls d H) := takes_of rfl rfl rfl rfl
  have hx : Passes (L2.CX P w) (cxOf (L2.CX P w) P w K mg base ["wire", "left", "fate"] "_law_rest" (defScope s__law_rest) f cdv A outer s H E) E := passes_call tk fun _ _ _ _ h => h
  have po : PassesOwn (model P w) (A.deeper (envOfC "_law_rest" (defScope s__law_rest) s.heap.objs.size f cdv)) (cxOf (L2.CX P w) P w K mg base ["wire", "left", "fate"] "_law_rest" (defScope s__law_rest) f cdv A outer s H E).env (cxOf (L2.CX P w) P w K mg base ["wire", "left", "fate"] "_law_rest" (defScope s__law_rest) f cdv A outer s H E).xe := passes_of (X := cxOf (L2.CX P w) P w K mg base ["wire", "left", "fate"] "_law_rest" (defScope s__law_rest) f cdv A outer s H E) rfl
  have hu : (A.deeper (envOfC "_law_rest" (defScope s__law_rest) s.heap.objs.size f cdv)).units + 100 < cLine := by have := hr.un; omega
  exact (dss_cons (ds_if (dt_c (c_eq hu) (dv 2) de_str)
  (dss_one (ds_ret (de_if (dt_c c_gt (dv 1) de_int) (de_sub (dv 1) de_int) de_int)))
  dss_nil)
  (dss_one (ds_ret (de_ix (dv 0) de_int))))
abbrev s__law_fates : Stmt := top 50
theorem sc__law_fates : FnScope ["script", "town", "wire", "most", "left", "row", "sparing", "k", "fate"] ["script", "town", "wire", "most"] (defScope s__law_fates) := ⟨rfl, rfl, rfl, by decide +kernel, rfl, by decide +kernel, by decide +kernel⟩
theorem f__law_fates {f : Addr} {fd : FuncData} (F : Fun K "_law_fates" "_law_fates" s__law_fates f fd) (B : NoB mg) (T : Txt K mg) (h__law_draw : Def8 P w K mg base 1 "_law_draw" ["script", "town", "many"] g__law_draw) (h__law_let : Def8 P w K mg base 1 "_law_let" ["left"] g__law_let) (h__law_pick : Def8 P w K mg base 2 "_law_pick" ["script", "town", "some"] g__law_pick) (h__law_rest : Def8 P w K mg base 1 "_law_rest" ["wire", "left", "fate"] g__law_rest) : Fn8 P w K mg base 3 f fd ["script", "town", "wire", "most"] (runF 9 4 (b__law_fates)) := fn_ok F sc__law_fates fun cdv A outer s H E hr => by
  have nd := sc__law_fates.nd
  have tk : Takes (cxOf (L2.CX P w) P w K mg base ["script", "town", "wire", "most", "left", "row", "sparing", "k", "fate"] "_law_fates" (defScope s__law_fates) f cdv A outer s H E) (fun cls d _ H => E cls d H) := takes_of rfl rfl rfl rfl
  have hx : Passes (L2.CX P w) (cxOf (L2.CX P w) P w K mg base ["script", "town", "wire", "most", "left", "row", "sparing", "k", "fate"] "_law_fates" (defScope s__law_fates) f cdv A outer s H E) E := passes_call tk fun _ _ _ _ h => h
  have po : PassesOwn (model P w) (A.deeper (envOfC "_law_fates" (defScope s__law_fates) s.heap.objs.size f cdv)) (cxOf (L2.CX P w) P w K mg base ["script", "town", "wire", "most", "left", "row", "sparing", "k", "fate"] "_law_fates" (defScope s__law_fates) f cdv A outer s H E).env (cxOf (L2.CX P w) P w K mg base ["script", "town", "wire", "most", "left", "row", "sparing", "k", "fate"] "_law_fates" (defScope s__law_fates) f cdv A outer s H E).xe := passes_of (X := cxOf (L2.CX P w) P w K mg base ["script", "town", "wire", "most", "left", "row", "sparing", "k", "fate"] "_law_fates" (defScope s__law_fates) f cdv A outer s H E) rfl
  have hu : (A.deeper (envOfC "_law_fates" (defScope s__law_fates) s.heap.objs.size f cdv)).units + 100 < cLine := by have := hr.un; omega
  exact (dss_cons (ds_par3 (i := 4) (j := 5) (l := 6) rfl nd rfl rfl rfl (by decide) (by decide) (by decide) rfl rfl rfl (da_cons de_int (da_cons (de_lstC da_nil) (da_cons (de_add de_int (de_fn h__law_draw (hr.mono (by decide)) hx (da_cons (dv 0) (da_cons (dv 1) (da_cons de_int da_nil))))) da_nil))))
  (dss_cons (ds_for po rfl (di_rng1 rfl B.range (da_cons (de_fn h__law_draw (hr.mono (by decide)) hx (da_cons (dv 0) (da_cons (dv 1) (da_cons (de_add (dv 3) de_int) da_nil)))) da_nil)) (dg_name (i := 7) nd rfl (Or.inl rfl))
  (dss_cons (ds_set (i := 8) nd rfl (Or.inl rfl) de_str)
  (dss_cons (ds_if (dt_w (dw_and (dt_c (c_eq hu) (dv 4) de_int) (dw_and1 (dt_c c_lt (de_fn h__law_draw (hr.mono (by decide)) hx (da_cons (dv 0) (da_cons (dv 1) (da_cons (dv 6) da_nil)))) de_int))))
  (dss_one (ds_set (i := 8) nd rfl (Or.inl rfl) (de_fn h__law_pick (hr.mono (by decide)) hx (da_cons (dv 0) (da_cons (dv 1) (da_cons (de_fn h__law_let (hr.mono (by decide)) hx (da_cons (dv 4) da_nil)) da_nil))))))
  dss_nil)
  (dss_cons (ds_expr (de_append (dv 5) (dv 8)))
  (dss_one (ds_set (i := 4) nd rfl (Or.inl rfl) (de_fn h__law_rest (hr.mono (by decide)) hx (da_cons (dv 2) (da_cons (dv 4) (da_cons (dv 8) da_nil))))))))))
  (dss_one (ds_ret (dv 5)))))
abbrev s__law_both : Stmt := top 54
theorem sc__law_both : FnScope ["sender"] [] (defScope s__law_both) := ⟨rfl, rfl, rfl, by decide +kernel, rfl, by decide +kernel, by decide +kernel⟩
theorem f__law_both {f : Addr} {fd : FuncData} (F : Fun K "_law_both" "_law_both" s__law_both f fd) (B : NoB mg) (T : Txt K mg) : Fn8 P w K mg base 1 f fd [] (runF 1 0 (b__law_both)) := fn_ok F sc__law_both fun cdv A outer s H E hr => by
  have nd := sc__law_both.nd
  have tk : Takes (cxOf (L2.CX P w) P w K mg base ["sender"] "_law_both" (defScope s__law_both) f cdv A outer s H E) (fun cls d _ H => E cls d H) := takes_of rfl rfl rfl rfl
  have hx : Passes (L2.CX P w) (cxOf (L2.CX P w) P w K mg base ["sender"] "_law_both" (defScope s__law_both) f cdv A outer s H E) E := passes_call tk fun _ _ _ _ h => h
  have po : PassesOwn (model P w) (A.deeper (envOfC "_law_both" (defScope s__law_both) s.heap.objs.size f cdv)) (cxOf (L2.CX P w) P w K mg base ["sender"] "_law_both" (defScope s__law_both) f cdv A outer s H E).env (cxOf (L2.CX P w) P w K mg base ["sender"] "_law_both" (defScope s__law_both) f cdv A outer s H E).xe := passes_of (X := cxOf (L2.CX P w) P w K mg base ["sender"] "_law_both" (defScope s__law_both) f cdv A outer s H E) rfl
  have hu : (A.deeper (envOfC "_law_both" (defScope s__law_both) s.heap.objs.size f cdv)).units + 100 < cLine := by have := hr.un; omega
  exact (dss_cons (ds_set (i := 0) nd rfl (Or.inl rfl) (de_disp (dps_cons de_str de_int (dps_cons de_str de_int (dps_cons de_str de_int (dps_cons de_str de_int (dps_cons de_str de_bl (dps_cons de_str de_dicNew (dps_cons de_str (de_lstC da_nil) dps_nil)))))))))
  (dss_one (ds_ret (de_tup (da_cons (dv 0) (da_cons (de_disp (dps_cons de_str de_int (dps_cons de_str de_dicNew dps_nil))) da_nil))))))
abbrev s__law_begin : Stmt := top 55
theorem sc__law_begin : FnScope ["wire", "sender", "receiver"] ["wire"] (defScope s__law_begin) := ⟨rfl, rfl, rfl, by decide +kernel, rfl, by decide +kernel, by decide +kernel⟩
theorem f__law_begin {f : Addr} {fd : FuncData} (F : Fun K "_law_begin" "_law_begin" s__law_begin f fd) (B : NoB mg) (T : Txt K mg) (h__law_both : Def8 P w K mg base 1 "_law_both" [] g__law_both) : Fn8 P w K mg base 2 f fd ["wire"] (runF 3 1 (b__law_begin)) := fn_ok F sc__law_begin fun cdv A outer s H E hr => by
  have nd := sc__law_begin.nd
  have tk : Takes (cxOf (L2.CX P w) P w K mg base ["wire", "sender", "receiver"] "_law_begin" (defScope s__law_begin) f cdv A outer s H E) (fun cls d _ H => E cls d H) := takes_of rfl rfl rfl rfl
  have hx : Passes (L2.CX P w) (cxOf (L2.CX P w) P w K mg base ["wire", "sender", "receiver"] "_law_begin" (defScope s__law_begin) f cdv A outer s H E) E := passes_call tk fun _ _ _ _ h => h
  have po : PassesOwn (model P w) (A.deeper (envOfC "_law_begin" (defScope s__law_begin) s.heap.objs.size f cdv)) (cxOf (L2.CX P w) P w K mg base ["wire", "sender", "receiver"] "_law_begin" (defScope s__law_begin) f cdv A outer s H E).env (cxOf (L2.CX P w) P w K mg base ["wire", "sender", "receiver"] "_law_begin" (defScope s__law_begin) f cdv A outer s H E).xe := passes_of (X := cxOf (L2.CX P w) P w K mg base ["wire", "sender", "receiver"] "_law_begin" (defScope s__law_begin) f cdv A outer s H E) rfl
  have hu : (A.deeper (envOfC "_law_begin" (defScope s__law_begin) s.heap.objs.size f cdv)).units + 100 < cLine := by have := hr.un; omega
  exact (dss_cons (ds_asg (de_fn0 h__law_both (hr.mono (by decide)) hx) (dg_tup rfl (dgs_cons (dg_name (i := 1) nd rfl (Or.inl rfl)) (dgs_cons (dg_name (i := 2) nd rfl (Or.inl rfl)) dgs_nil))))
  (dss_one (ds_ret (de_lst (da_cons (dv 1) (da_cons (dv 2) (da_cons (de_mul (de_lst (da_cons de_non da_nil)) (de_sub (de_ix (dv 0) de_int) de_int)) (da_cons (de_mul (de_lst (da_cons de_non da_nil)) (de_ix (dv 0) de_int)) da_nil))))))))
abbrev s__law_copy : Stmt := top 56
theorem sc__law_copy : FnScope ["state", "sender", "receiver"] ["state"] (defScope s__law_copy) := ⟨rfl, rfl, rfl, by decide +kernel, rfl, by decide +kernel, by decide +kernel⟩
theorem f__law_copy {f : Addr} {fd : FuncData} (F : Fun K "_law_copy" "_law_copy" s__law_copy f fd) (B : NoB mg) (T : Txt K mg) : Fn8 P w K mg base 1 f fd ["state"] (runF 3 1 (b__law_copy)) := fn_ok F sc__law_copy fun cdv A outer s H E hr => by
  have nd := sc__law_copy.nd
  have tk : Takes (cxOf (L2.CX P w) P w K mg base ["state", "sender", "receiver"] "_law_copy" (defScope s__law_copy) f cdv A outer s H E) (fun cls d _ H => E cls d H) := takes_of rfl rfl rfl rfl
  have hx : Passes (L2.CX P w) (cxOf (L2.CX P w) P w K mg base ["state", "sender", "receiver"] "_law_copy" (defScope s__law_copy) f cdv A outer s H E) E := passes_call tk fun _ _ _ _ h => h
  have po : PassesOwn (model P w) (A.deeper (envOfC "_law_copy" (defScope s__law_copy) s.heap.objs.size f cdv)) (cxOf (L2.CX P w) P w K mg base ["state", "sender", "receiver"] "_law_copy" (defScope s__law_copy) f cdv A outer s H E).env (cxOf (L2.CX P w) P w K mg base ["state", "sender", "receiver"] "_law_copy" (defScope s__law_copy) f cdv A outer s H E).xe := passes_of (X := cxOf (L2.CX P w) P w K mg base ["state", "sender", "receiver"] "_law_copy" (defScope s__law_copy) f cdv A outer s H E) rfl
  have hu : (A.deeper (envOfC "_law_copy" (defScope s__law_copy) s.heap.objs.size f cdv)).units + 100 < cLine := by have := hr.un; omega
  exact (dss_cons (ds_par2 (i := 1) (j := 2) rfl nd rfl rfl (by decide) rfl rfl (da_cons (de_dicC rfl B.dict (da_cons (de_ix (dv 0) de_int) da_nil)) (da_cons (de_dicC rfl B.dict (da_cons (de_ix (dv 0) de_int) da_nil)) da_nil)))
  (dss_cons (ds_asg (de_tup (da_cons (de_dicC rfl B.dict (da_cons (de_dget hu (dv 1) de_str) da_nil)) (da_cons (de_listC rfl B.list (da_cons (de_dget hu (dv 1) de_str) da_nil)) da_nil))) (dg_tup rfl (dgs_cons (dg_dix (E := E) hu (dv 1) de_str) (dgs_cons (dg_dix (E := E) hu (dv 1) de_str) dgs_nil))))
  (dss_cons (ds_asg (de_dicC rfl B.dict (da_cons (de_dget hu (dv 2) de_str) da_nil)) (dg_dix (E := E) hu (dv 2) de_str))
  (dss_one (ds_ret (de_lst (da_cons (dv 1) (da_cons (dv 2) (da_cons (de_listC rfl B.list (da_cons (de_ix (dv 0) de_int) da_nil)) (da_cons (de_listC rfl B.list (da_cons (de_ix (dv 0) de_int) da_nil)) da_nil))))))))))
abbrev s__law_get : Stmt := top 53
theorem sc__law_get : FnScope ["way", "receiver", "letter", "kind", "window", "numbers", "wait", "k", "given", "place"] ["way", "receiver", "letter"] (defScope s__law_get) := ⟨rfl, rfl, rfl, by decide +kernel, rfl, by decide +kernel, by decide +kernel⟩
theorem f__law_get {f : Addr} {fd : FuncData} (F : Fun K "_law_get" "_law_get" s__law_get f fd) (B : NoB mg) (T : Txt K mg) : Fn8 P w K mg base 1 f fd ["way", "receiver", "letter"] (runF 10 3 (b__law_get)) := fn_ok F sc__law_get fun cdv A outer s H E hr => by
  have nd := sc__law_get.nd
  have tk : Takes (cxOf (L2.CX P w) P w K mg base ["way", "receiver", "letter", "kind", "window", "numbers", "wait", "k", "given", "place"] "_law_get" (defScope s__law_get) f cdv A outer s H E) (fun cls d _ H => E cls d H) := takes_of rfl rfl rfl rfl
  have hx : Passes (L2.CX P w) (cxOf (L2.CX P w) P w K mg base ["way", "receiver", "letter", "kind", "window", "numbers", "wait", "k", "given", "place"] "_law_get" (defScope s__law_get) f cdv A outer s H E) E := passes_call tk fun _ _ _ _ h => h
  have po : PassesOwn (model P w) (A.deeper (envOfC "_law_get" (defScope s__law_get) s.heap.objs.size f cdv)) (cxOf (L2.CX P w) P w K mg base ["way", "receiver", "letter", "kind", "window", "numbers", "wait", "k", "given", "place"] "_law_get" (defScope s__law_get) f cdv A outer s H E).env (cxOf (L2.CX P w) P w K mg base ["way", "receiver", "letter", "kind", "window", "numbers", "wait", "k", "given", "place"] "_law_get" (defScope s__law_get) f cdv A outer s H E).xe := passes_of (X := cxOf (L2.CX P w) P w K mg base ["way", "receiver", "letter", "kind", "window", "numbers", "wait", "k", "given", "place"] "_law_get" (defScope s__law_get) f cdv A outer s H E) rfl
  have hu : (A.deeper (envOfC "_law_get" (defScope s__law_get) s.heap.objs.size f cdv)).units + 100 < cLine := by have := hr.un; omega
  exact (dss_cons (ds_asg (dv 0) (dg_tup rfl (dgs_cons (dg_name (i := 3) nd rfl (Or.inl rfl)) (dgs_cons (dg_name (i := 4) nd rfl (Or.inl rfl)) (dgs_cons (dg_name (i := 5) nd rfl (Or.inl rfl)) (dgs_cons (dg_name (i := 6) nd rfl (Or.inl rfl)) dgs_nil))))))
  (dss_cons (ds_par2 (i := 7) (j := 8) rfl nd rfl rfl (by decide) rfl rfl (da_cons (de_mod (de_sub (dv 2) (de_dget hu (dv 1) de_str)) (dv 5)) (da_cons (de_lstC da_nil) da_nil)))
  (dss_cons (ds_if (dt_c (c_ne hu) (dv 3) de_str)
  (dss_cons (ds_if (dt_c (c_eq hu) (dv 7) de_int)
  (dss_cons (ds_expr (de_append (dv 8) (dv 2)))
  (dss_one (ds_augDic hu (dv 1) de_str de_int)))
  dss_nil)
  (dss_one (ds_ret (de_tup (da_cons (dv 8) (da_cons (de_mod (de_dget hu (dv 1) de_str) (dv 5)) da_nil))))))
  dss_nil)
  (dss_cons (ds_set (i := 9) nd rfl (Or.inl rfl) (de_add (de_dget hu (dv 1) de_str) (dv 7)))
  (dss_cons (ds_if (dt_w (dw_and (dt_c c_lt (dv 7) (dv 4)) (dw_and1 (dt_c (c_notInDic hu) (dv 9) (de_dget hu (dv 1) de_str)))))
  (dss_one (ds_asg (dv 2) (dg_dix (E := E) hu (de_dget hu (dv 1) de_str) (dv 9))))
  dss_nil)
  (dss_cons (ds_while fuel8 po (dt_c (c_inDic hu) (de_dget hu (dv 1) de_str) (de_dget hu (dv 1) de_str))
  (dss_cons (ds_expr (de_append (dv 8) (de_dpop (de_dget hu (dv 1) de_str) (de_dget hu (dv 1) de_str))))
  (dss_one (ds_augDic hu (dv 1) de_str de_int))))
  (dss_one (ds_ret (de_tup (da_cons (dv 8) (da_cons (de_mod (dv 2) (dv 5)) da_nil)))))))))))
abbrev s__law_hear : Stmt := top 51
theorem sc__law_hear : FnScope ["way", "sender", "answer", "kind", "window", "numbers", "wait", "base", "k", "letter"] ["way", "sender", "answer"] (defScope s__law_hear) := ⟨rfl, rfl, rfl, by decide +kernel, rfl, by decide +kernel, by decide +kernel⟩
theorem f__law_hear {f : Addr} {fd : FuncData} (F : Fun K "_law_hear" "_law_hear" s__law_hear f fd) (B : NoB mg) (T : Txt K mg) : Fn8 P w K mg base 1 f fd ["way", "sender", "answer"] (runF 10 3 (b__law_hear)) := fn_ok F sc__law_hear fun cdv A outer s H E hr => by
  have nd := sc__law_hear.nd
  have tk : Takes (cxOf (L2.CX P w) P w K mg base ["way", "sender", "answer", "kind", "window", "numbers", "wait", "base", "k", "letter"] "_law_hear" (defScope s__law_hear) f cdv A outer s H E) (fun cls d _ H => E cls d H) := takes_of rfl rfl rfl rfl
  have hx : Passes (L2.CX P w) (cxOf (L2.CX P w) P w K mg base ["way", "sender", "answer", "kind", "window", "numbers", "wait", "base", "k", "letter"] "_law_hear" (defScope s__law_hear) f cdv A outer s H E) E := passes_call tk fun _ _ _ _ h => h
  have po : PassesOwn (model P w) (A.deeper (envOfC "_law_hear" (defScope s__law_hear) s.heap.objs.size f cdv)) (cxOf (L2.CX P w) P w K mg base ["way", "sender", "answer", "kind", "window", "numbers", "wait", "base", "k", "letter"] "_law_hear" (defScope s__law_hear) f cdv A outer s H E).env (cxOf (L2.CX P w) P w K mg base ["way", "sender", "answer", "kind", "window", "numbers", "wait", "base", "k", "letter"] "_law_hear" (defScope s__law_hear) f cdv A outer s H E).xe := passes_of (X := cxOf (L2.CX P w) P w K mg base ["way", "sender", "answer", "kind", "window", "numbers", "wait", "base", "k", "letter"] "_law_hear" (defScope s__law_hear) f cdv A outer s H E) rfl
  have hu : (A.deeper (envOfC "_law_hear" (defScope s__law_hear) s.heap.objs.size f cdv)).units + 100 < cLine := by have := hr.un; omega
  exact (dss_cons (ds_asg (dv 0) (dg_tup rfl (dgs_cons (dg_name (i := 3) nd rfl (Or.inl rfl)) (dgs_cons (dg_name (i := 4) nd rfl (Or.inl rfl)) (dgs_cons (dg_name (i := 5) nd rfl (Or.inl rfl)) (dgs_cons (dg_name (i := 6) nd rfl (Or.inl rfl)) dgs_nil))))))
  (dss_cons (ds_par2 (i := 7) (j := 8) rfl nd rfl rfl (by decide) rfl rfl (da_cons (de_dget hu (dv 1) de_str) (da_cons (de_mod (de_sub (dv 2) (de_dget hu (dv 1) de_str)) (dv 5)) da_nil)))
  (dss_one (ds_if (dt_c (c_eq hu) (dv 3) de_str)
  (dss_cons (ds_set (i := 9) nd rfl (Or.inl rfl) (de_add (dv 7) (dv 8)))
  (dss_cons (ds_if (dt_w (dw_and (dt_c c_lt (dv 8) (dv 4)) (dw_and1 (dt_c (c_inDic hu) (dv 9) (de_dget hu (dv 1) de_str)))))
  (dss_cons (ds_expr (de_dpop (de_dget hu (dv 1) de_str) (dv 9)))
  (dss_one (ds_expr (de_append (de_dget hu (dv 1) de_str) (dv 9)))))
  dss_nil)
  (dss_one (ds_while fuel8 po (dt_c (c_in hu) (de_dget hu (dv 1) de_str) (de_dget hu (dv 1) de_str))
  (dss_one (ds_augDic hu (dv 1) de_str de_int))))))
  (dss_one (ds_if (dt_chain c_le c_le de_int (dv 8) (de_sub (de_dget hu (dv 1) de_str) (dv 7)))
  (dss_cons (ds_asg (de_add (dv 7) (dv 8)) (dg_dix (E := E) hu (dv 1) de_str))
  (dss_cons (ds_asg (de_max2 rfl rfl B.max (da_cons (de_dget hu (dv 1) de_str) (da_cons (de_add (dv 7) (dv 8)) da_nil))) (dg_dix (E := E) hu (dv 1) de_str))
  (dss_one (ds_asg (de_tup (da_cons de_int (da_cons de_bl da_nil))) (dg_tup rfl (dgs_cons (dg_dix (E := E) hu (dv 1) de_str) (dgs_cons (dg_dix (E := E) hu (dv 1) de_str) dgs_nil)))))))
  (dss_one (ds_if (dt_w (dw_and (dt_c (c_eq hu) (dv 3) de_str) (dw_and (dt_c (c_eq hu) (dv 8) de_int) (dw_and1 (dt_c c_gt (de_dget hu (dv 1) de_str) (dv 7))))))
  (dss_cons (ds_if (dt_val (de_dget hu (dv 1) de_str))
  (dss_one (ds_asg (de_tup (da_cons (dv 7) (da_cons de_int da_nil))) (dg_tup rfl (dgs_cons (dg_dix (E := E) hu (dv 1) de_str) (dgs_cons (dg_dix (E := E) hu (dv 1) de_str) dgs_nil)))))
  dss_nil)
  (dss_one (ds_asg (de_not (de_dget hu (dv 1) de_str)) (dg_dix (E := E) hu (dv 1) de_str))))
  dss_nil))))))))
abbrev s__law_send : Stmt := top 52
theorem sc__law_send : FnScope ["way", "sender", "kind", "window", "numbers", "wait", "base", "due", "some", "clocks", "done", "fresh", "found", "letter", "k"] ["way", "sender"] (defScope s__law_send) := ⟨rfl, rfl, rfl, by decide +kernel, rfl, by decide +kernel, by decide +kernel⟩
theorem f__law_send {f : Addr} {fd : FuncData} (F : Fun K "_law_send" "_law_send" s__law_send f fd) (B : NoB mg) (T : Txt K mg) : Fn8 P w K mg base 1 f fd ["way", "sender"] (runF 15 2 (b__law_send)) := fn_ok F sc__law_send fun cdv A outer s H E hr => by
  have nd := sc__law_send.nd
  have tk : Takes (cxOf (L2.CX P w) P w K mg base ["way", "sender", "kind", "window", "numbers", "wait", "base", "due", "some", "clocks", "done", "fresh", "found", "letter", "k"] "_law_send" (defScope s__law_send) f cdv A outer s H E) (fun cls d _ H => E cls d H) := takes_of rfl rfl rfl rfl
  have hx : Passes (L2.CX P w) (cxOf (L2.CX P w) P w K mg base ["way", "sender", "kind", "window", "numbers", "wait", "base", "due", "some", "clocks", "done", "fresh", "found", "letter", "k"] "_law_send" (defScope s__law_send) f cdv A outer s H E) E := passes_call tk fun _ _ _ _ h => h
  have po : PassesOwn (model P w) (A.deeper (envOfC "_law_send" (defScope s__law_send) s.heap.objs.size f cdv)) (cxOf (L2.CX P w) P w K mg base ["way", "sender", "kind", "window", "numbers", "wait", "base", "due", "some", "clocks", "done", "fresh", "found", "letter", "k"] "_law_send" (defScope s__law_send) f cdv A outer s H E).env (cxOf (L2.CX P w) P w K mg base ["way", "sender", "kind", "window", "numbers", "wait", "base", "due", "some", "clocks", "done", "fresh", "found", "letter", "k"] "_law_send" (defScope s__law_send) f cdv A outer s H E).xe := passes_of (X := cxOf (L2.CX P w) P w K mg base ["way", "sender", "kind", "window", "numbers", "wait", "base", "due", "some", "clocks", "done", "fresh", "found", "letter", "k"] "_law_send" (defScope s__law_send) f cdv A outer s H E) rfl
  have hu : (A.deeper (envOfC "_law_send" (defScope s__law_send) s.heap.objs.size f cdv)).units + 100 < cLine := by have := hr.un; omega
  exact (dss_cons (ds_asg (dv 0) (dg_tup rfl (dgs_cons (dg_name (i := 2) nd rfl (Or.inl rfl)) (dgs_cons (dg_name (i := 3) nd rfl (Or.inl rfl)) (dgs_cons (dg_name (i := 4) nd rfl (Or.inl rfl)) (dgs_cons (dg_name (i := 5) nd rfl (Or.inr rfl)) dgs_nil))))))
  (dss_cons (ds_set (i := 6) nd rfl (Or.inr rfl) (de_dget hu (dv 1) de_str))
  (dss_cons (ds_if (dt_c (c_eq hu) (dv 2) de_str)
  (dss_cons (ds_setLc (i := 7) (own := [("letter", 13)]) (ct := (.nm 13)) rfl nd rfl rfl (sw_true rfl rfl rfl (by decide +kernel)) (di_any (de_sortD rfl rfl B.sorted (da_cons (de_dget hu (dv 1) de_str) da_nil))) (blkOk_by (N := ["way", "sender", "kind", "window", "numbers", "wait", "base", "due", "some", "clocks", "done", "fresh", "found", "letter", "k"]) (sc := defScope s__law_send) (own := [("letter", 13)]) (by decide +kernel)) (by decide) (fun _ _ _ _ _ => pg_name (i := 13) nd rfl (Or.inl rfl)) (fun _ _ _ _ _ => dts_one (dt_c (c_eq hu) (de_dget hu (de_dget hu (dv 1) de_str) (dv 13)) (dv 5))) (fun _ _ _ _ _ => (dv 13)))
  (dss_cons (ds_setLc (i := 8) (own := [("k", 14)]) (ct := (.nm 14)) rfl nd rfl rfl (sw_true rfl rfl rfl (by decide +kernel)) (di_rng1 rfl B.range (da_cons (dv 3) da_nil)) (blkOk_by (N := ["way", "sender", "kind", "window", "numbers", "wait", "base", "due", "some", "clocks", "done", "fresh", "found", "letter", "k"]) (sc := defScope s__law_send) (own := [("k", 14)]) (by decide +kernel)) (by decide) (fun _ _ _ _ _ => pg_name (i := 14) nd rfl (Or.inl rfl)) (fun _ _ _ _ _ => dts_nil) (fun _ _ _ _ _ => (de_add (dv 6) (dv 14))))
  (dss_cons (ds_asg (de_tup (da_cons (de_dget hu (dv 1) de_str) (da_cons (de_dget hu (dv 1) de_str) da_nil))) (dg_tup rfl (dgs_cons (dg_name (i := 9) nd rfl (Or.inr rfl)) (dgs_cons (dg_name (i := 10) nd rfl (Or.inr rfl)) dgs_nil))))
  (dss_cons (ds_setLc (i := 11) (own := [("letter", 13)]) (ct := (.nm 13)) rfl nd rfl rfl (sw_true rfl rfl rfl (by decide +kernel)) (di_any (dv 8)) (blkOk_by (N := ["way", "sender", "kind", "window", "numbers", "wait", "base", "due", "some", "clocks", "done", "fresh", "found", "letter", "k"]) (sc := defScope s__law_send) (own := [("letter", 13)]) (by decide +kernel)) (by decide) (fun _ _ _ _ _ => pg_name (i := 13) nd rfl (Or.inl rfl)) (fun _ _ _ _ _ => dts_one (dt_w (dw_and (dt_c (c_notInDic hu) (dv 13) (dv 9)) (dw_and1 (dt_c (c_notIn hu) (dv 13) (dv 10)))))) (fun _ _ _ _ _ => (dv 13)))
  (dss_cons (ds_set (i := 12) nd rfl (Or.inl rfl) (de_ix (de_add (de_add (dv 7) (dv 11)) (de_lst (da_cons de_non da_nil))) de_int))
  (dss_cons (ds_for po rfl (di_any (de_sortD rfl rfl B.sorted (da_cons (dv 9) da_nil))) (dg_name (i := 13) nd rfl (Or.inl rfl))
  (dss_one (ds_asg (de_min2 rfl rfl B.min (da_cons (dv 5) (da_cons (de_add (de_dget hu (dv 9) (dv 13)) de_int) da_nil))) (dg_dix (E := E) hu (dv 9) (dv 13)))))
  (dss_cons (ds_if (dt_c c_isNot (dv 12) de_non)
  (dss_one (ds_asg de_int (dg_dix (E := E) hu (dv 9) (dv 12))))
  dss_nil)
  (dss_one (ds_ret (dv 12))))))))))
  dss_nil)
  (dss_cons (ds_if (dt_w (dw_and (dt_c c_gt (de_dget hu (dv 1) de_str) (dv 6)) (dw_and1 (dt_c (c_eq hu) (de_dget hu (dv 1) de_str) (dv 5)))))
  (dss_one (ds_asg (de_tup (da_cons (dv 6) (da_cons de_int da_nil))) (dg_tup rfl (dgs_cons (dg_dix (E := E) hu (dv 1) de_str) (dgs_cons (dg_dix (E := E) hu (dv 1) de_str) dgs_nil)))))
  dss_nil)
  (dss_cons (ds_set (i := 12) nd rfl (Or.inl rfl) (de_if (dt_c c_lt (de_dget hu (dv 1) de_str) (de_add (dv 6) (dv 3))) (de_dget hu (dv 1) de_str) de_non))
  (dss_cons (ds_if (dt_c c_isNot (dv 12) de_non)
  (dss_cons (ds_asg (de_add (dv 12) de_int) (dg_dix (E := E) hu (dv 1) de_str))
  (dss_one (ds_asg (de_max2 rfl rfl B.max (da_cons (de_dget hu (dv 1) de_str) (da_cons (de_add (dv 12) de_int) da_nil))) (dg_dix (E := E) hu (dv 1) de_str))))
  dss_nil)
  (dss_cons (ds_if (dt_c c_gt (de_dget hu (dv 1) de_str) (dv 6))
  (dss_one (ds_augDic hu (dv 1) de_str de_int))
  dss_nil)
  (dss_one (ds_ret (dv 12))))))))))
abbrev s__law_tick : Stmt := top 57
theorem sc__law_tick : FnScope ["way", "old", "fate", "sender", "receiver", "frames", "answers", "come", "before", "letter", "arrived", "given", "answer", "wanted", "right", "seen", "k"] ["way", "old", "fate"] (defScope s__law_tick) := ⟨rfl, rfl, rfl, by decide +kernel, rfl, by decide +kernel, by decide +kernel⟩
theorem f__law_tick {f : Addr} {fd : FuncData} (F : Fun K "_law_tick" "_law_tick" s__law_tick f fd) (B : NoB mg) (T : Txt K mg) (h__law_copy : Def8 P w K mg base 1 "_law_copy" ["state"] g__law_copy) (h__law_get : Def8 P w K mg base 1 "_law_get" ["way", "receiver", "letter"] g__law_get) (h__law_hear : Def8 P w K mg base 1 "_law_hear" ["way", "sender", "answer"] g__law_hear) (h__law_send : Def8 P w K mg base 1 "_law_send" ["way", "sender"] g__law_send) : Fn8 P w K mg base 2 f fd ["way", "old", "fate"] (runF 17 3 (b__law_tick)) := fn_ok F sc__law_tick fun cdv A outer s H E hr => by
  have nd := sc__law_tick.nd
  have tk : Takes (cxOf (L2.CX P w) P w K mg base ["way", "old", "fate", "sender", "receiver", "frames", "answers", "come", "before", "letter", "arrived", "given", "answer", "wanted", "right", "seen", "k"] "_law_tick" (defScope s__law_tick) f cdv A outer s H E) (fun cls d _ H => E cls d H) := takes_of rfl rfl rfl rfl
  have hx : Passes (L2.CX P w) (cxOf (L2.CX P w) P w K mg base ["way", "old", "fate", "sender", "receiver", "frames", "answers", "come", "before", "letter", "arrived", "given", "answer", "wanted", "right", "seen", "k"] "_law_tick" (defScope s__law_tick) f cdv A outer s H E) E := passes_call tk fun _ _ _ _ h => h
  have po : PassesOwn (model P w) (A.deeper (envOfC "_law_tick" (defScope s__law_tick) s.heap.objs.size f cdv)) (cxOf (L2.CX P w) P w K mg base ["way", "old", "fate", "sender", "receiver", "frames", "answers", "come", "before", "letter", "arrived", "given", "answer", "wanted", "right", "seen", "k"] "_law_tick" (defScope s__law_tick) f cdv A outer s H E).env (cxOf (L2.CX P w) P w K mg base ["way", "old", "fate", "sender", "receiver", "frames", "answers", "come", "before", "letter", "arrived", "given", "answer", "wanted", "right", "seen", "k"] "_law_tick" (defScope s__law_tick) f cdv A outer s H E).xe := passes_of (X := cxOf (L2.CX P w) P w K mg base ["way", "old", "fate", "sender", "receiver", "frames", "answers", "come", "before", "letter", "arrived", "given", "answer", "wanted", "right", "seen", "k"] "_law_tick" (defScope s__law_tick) f cdv A outer s H E) rfl
  have hu : (A.deeper (envOfC "_law_tick" (defScope s__law_tick) s.heap.objs.size f cdv)).units + 100 < cLine := by have := hr.un; omega
  exact (dss_cons (ds_asg (de_fn h__law_copy (hr.mono (by decide)) hx (da_cons (dv 1) da_nil)) (dg_lst rfl (dgs_cons (dg_name (i := 3) nd rfl (Or.inl rfl)) (dgs_cons (dg_name (i := 4) nd rfl (Or.inl rfl)) (dgs_cons (dg_name (i := 5) nd rfl (Or.inl rfl)) (dgs_cons (dg_name (i := 6) nd rfl (Or.inl rfl)) dgs_nil))))))
  (dss_cons (ds_set (i := 7) nd rfl (Or.inl rfl) (de_popAt (dv 6) de_int))
  (dss_cons (ds_if (dt_c c_isNot (dv 7) de_non)
  (dss_one (ds_expr (de_fn h__law_hear (hr.mono (by decide)) hx (da_cons (dv 0) (da_cons (dv 3) (da_cons (dv 7) da_nil))))))
  dss_nil)
  (dss_cons (ds_set (i := 8) nd rfl (Or.inl rfl) (de_if (dt_c (c_eq hu) (de_ix (dv 0) de_int) de_str) (de_sortD rfl rfl B.sorted (da_cons (de_dget hu (dv 3) de_str) da_nil)) (de_listRng2 rfl rfl B.list rfl B.range (de_dget hu (dv 3) de_str) (de_dget hu (dv 3) de_str))))
  (dss_cons (ds_set (i := 9) nd rfl (Or.inl rfl) (de_fn h__law_send (hr.mono (by decide)) hx (da_cons (dv 0) (da_cons (dv 3) da_nil))))
  (dss_cons (ds_expr (de_append (dv 5) (de_if (dt_c (c_in hu) (dv 2) (de_tup (da_cons de_str (da_cons de_str da_nil)))) de_non (dv 9))))
  (dss_cons (ds_asg (de_tup (da_cons (de_popAt (dv 5) de_int) (da_cons (de_lst da_nil) (da_cons de_non (da_cons (de_dget hu (dv 4) de_str) da_nil))))) (dg_tup rfl (dgs_cons (dg_name (i := 10) nd rfl (Or.inl rfl)) (dgs_cons (dg_name (i := 11) nd rfl (Or.inl rfl)) (dgs_cons (dg_name (i := 12) nd rfl (Or.inl rfl)) (dgs_cons (dg_name (i := 13) nd rfl (Or.inr rfl)) dgs_nil))))))
  (dss_cons (ds_if (dt_c c_isNot (dv 10) de_non)
  (dss_one (ds_asg (de_fn h__law_get (hr.mono (by decide)) hx (da_cons (dv 0) (da_cons (dv 4) (da_cons (dv 10) da_nil)))) (dg_tup rfl (dgs_cons (dg_name (i := 11) nd rfl (Or.inl rfl)) (dgs_cons (dg_name (i := 12) nd rfl (Or.inl rfl)) dgs_nil)))))
  dss_nil)
  (dss_cons (ds_expr (de_append (dv 6) (de_if (dt_c (c_in hu) (dv 2) (de_tup (da_cons de_str (da_cons de_str da_nil)))) de_non (dv 12))))
  (dss_cons (ds_set (i := 14) nd rfl (Or.inl rfl) (de_c (c_eq hu) (dv 11) (de_lc (own := [("k", 16)]) (ct := (.nm 16)) rfl nd (di_rng1 rfl B.range (da_cons (de_len rfl B.len (da_cons (dv 11) da_nil)) da_nil)) (blkOk_by (N := ["way", "old", "fate", "sender", "receiver", "frames", "answers", "come", "before", "letter", "arrived", "given", "answer", "wanted", "right", "seen", "k"]) (sc := defScope s__law_tick) (own := [("k", 16)]) (by decide +kernel)) (by decide) (fun _ _ _ _ _ => pg_name (i := 16) nd rfl (Or.inl rfl)) (fun _ _ _ _ _ => dts_nil) (fun _ _ _ _ _ => (de_add (dv 13) (dv 16))))))
  (dss_cons (ds_set (i := 15) nd rfl (Or.inl rfl) (de_tup (da_cons (de_if (dt_c c_is (dv 9) de_non) de_non (de_mod (dv 9) (de_ix (dv 0) de_int))) (da_cons (dv 12) da_nil))))
  (dss_one (ds_ret (de_tup (da_cons (de_lst (da_cons (dv 3) (da_cons (dv 4) (da_cons (dv 5) (da_cons (dv 6) da_nil))))) (da_cons (dv 15) (da_cons (dv 11) (da_cons (dv 14) (da_cons (de_c (c_in hu) (dv 9) (dv 8)) da_nil)))))))))))))))))))
abbrev s__law_play : Stmt := top 59
theorem sc__law_play : FnScope ["wire", "way", "fates", "state", "found", "fate", "seen", "given", "right", "again"] ["wire", "way", "fates"] (defScope s__law_play) := ⟨rfl, rfl, rfl, by decide +kernel, rfl, by decide +kernel, by decide +kernel⟩
theorem f__law_play {f : Addr} {fd : FuncData} (F : Fun K "_law_play" "_law_play" s__law_play f fd) (B : NoB mg) (T : Txt K mg) (h__law_begin : Def8 P w K mg base 2 "_law_begin" ["wire"] g__law_begin) (h__law_tick : Def8 P w K mg base 2 "_law_tick" ["way", "old", "fate"] g__law_tick) : Fn8 P w K mg base 3 f fd ["wire", "way", "fates"] (runF 10 3 (b__law_play)) := fn_ok F sc__law_play fun cdv A outer s H E hr => by
  have nd := sc__law_play.nd
  have tk : Takes (cxOf (L2.CX P w) P w K mg base ["wire", "way", "fates", "state", "found", "fate", "seen", "given", "right", "again"] "_law_play" (defScope s__law_play) f cdv A outer s H E) (fun cls d _ H => E cls d H) := takes_of rfl rfl rfl rfl
  have hx : Passes (L2.CX P w) (cxOf (L2.CX P w) P w K mg base ["wire", "way", "fates", "state", "found", "fate", "seen", "given", "right", "again"] "_law_play" (defScope s__law_play) f cdv A outer s H E) E := passes_call tk fun _ _ _ _ h => h
  have po : PassesOwn (model P w) (A.deeper (envOfC "_law_play" (defScope s__law_play) s.heap.objs.size f cdv)) (cxOf (L2.CX P w) P w K mg base ["wire", "way", "fates", "state", "found", "fate", "seen", "given", "right", "again"] "_law_play" (defScope s__law_play) f cdv A outer s H E).env (cxOf (L2.CX P w) P w K mg base ["wire", "way", "fates", "state", "found", "fate", "seen", "given", "right", "again"] "_law_play" (defScope s__law_play) f cdv A outer s H E).xe := passes_of (X := cxOf (L2.CX P w) P w K mg base ["wire", "way", "fates", "state", "found", "fate", "seen", "given", "right", "again"] "_law_play" (defScope s__law_play) f cdv A outer s H E) rfl
  have hu : (A.deeper (envOfC "_law_play" (defScope s__law_play) s.heap.objs.size f cdv)).units + 100 < cLine := by have := hr.un; omega
  exact (dss_cons (ds_par2 (i := 3) (j := 4) rfl nd rfl rfl (by decide) rfl rfl (da_cons (de_fn h__law_begin (hr.mono (by decide)) hx (da_cons (dv 0) da_nil)) (da_cons (de_lstC da_nil) da_nil)))
  (dss_cons (ds_for po rfl (di_any (dv 2)) (dg_name (i := 5) nd rfl (Or.inl rfl))
  (dss_cons (ds_asg (de_fn h__law_tick (hr.mono (by decide)) hx (da_cons (dv 1) (da_cons (dv 3) (da_cons (dv 5) da_nil)))) (dg_tup rfl (dgs_cons (dg_name (i := 3) nd rfl (Or.inl rfl)) (dgs_cons (dg_name (i := 6) nd rfl (Or.inl rfl)) (dgs_cons (dg_name (i := 7) nd rfl (Or.inl rfl)) (dgs_cons (dg_name (i := 8) nd rfl (Or.inl rfl)) (dgs_cons (dg_name (i := 9) nd rfl (Or.inl rfl)) dgs_nil)))))))
  (dss_one (ds_expr (de_append (dv 4) (de_tup (da_cons (dv 6) (da_cons (dv 7) (da_cons (dv 9) da_nil)))))))))
  (dss_one (ds_ret (dv 4)))))
abbrev s__law_way : Stmt := top 46
theorem sc__law_way : FnScope ["script", "town", "window", "kind", "numbers"] ["script", "town"] (defScope s__law_way) := ⟨rfl, rfl, rfl, by decide +kernel, rfl, by decide +kernel, by decide +kernel⟩
theorem f__law_way {f : Addr} {fd : FuncData} (F : Fun K "_law_way" "_law_way" s__law_way f fd) (B : NoB mg) (T : Txt K mg) (h__law_draw : Def8 P w K mg base 1 "_law_draw" ["script", "town", "many"] g__law_draw) (h__law_pick : Def8 P w K mg base 2 "_law_pick" ["script", "town", "some"] g__law_pick) : Fn8 P w K mg base 3 f fd ["script", "town"] (runF 5 2 (b__law_way)) := fn_ok F sc__law_way fun cdv A outer s H E hr => by
  have nd := sc__law_way.nd
  have tk : Takes (cxOf (L2.CX P w) P w K mg base ["script", "town", "window", "kind", "numbers"] "_law_way" (defScope s__law_way) f cdv A outer s H E) (fun cls d _ H => E cls d H) := takes_of rfl rfl rfl rfl
  have hx : Passes (L2.CX P w) (cxOf (L2.CX P w) P w K mg base ["script", "town", "window", "kind", "numbers"] "_law_way" (defScope s__law_way) f cdv A outer s H E) E := passes_call tk fun _ _ _ _ h => h
  have po : PassesOwn (model P w) (A.deeper (envOfC "_law_way" (defScope s__law_way) s.heap.objs.size f cdv)) (cxOf (L2.CX P w) P w K mg base ["script", "town", "window", "kind", "numbers"] "_law_way" (defScope s__law_way) f cdv A outer s H E).env (cxOf (L2.CX P w) P w K mg base ["script", "town", "window", "kind", "numbers"] "_law_way" (defScope s__law_way) f cdv A outer s H E).xe := passes_of (X := cxOf (L2.CX P w) P w K mg base ["script", "town", "window", "kind", "numbers"] "_law_way" (defScope s__law_way) f cdv A outer s H E) rfl
  have hu : (A.deeper (envOfC "_law_way" (defScope s__law_way) s.heap.objs.size f cdv)).units + 100 < cLine := by have := hr.un; omega
  exact (dss_cons (ds_set (i := 2) nd rfl (Or.inl rfl) (de_add de_int (de_fn h__law_draw (hr.mono (by decide)) hx (da_cons (dv 0) (da_cons (dv 1) (da_cons de_int da_nil))))))
  (dss_cons (ds_par2 (i := 3) (j := 4) rfl nd rfl rfl (by decide) rfl rfl (da_cons (de_fn h__law_pick (hr.mono (by decide)) hx (da_cons (dv 0) (da_cons (dv 1) (da_cons (de_lst (da_cons de_str (da_cons de_str (da_cons de_str da_nil)))) da_nil)))) (da_cons (de_add (dv 2) (de_fn h__law_draw (hr.mono (by decide)) hx (da_cons (dv 0) (da_cons (dv 1) (da_cons (de_sub de_int (dv 2)) da_nil))))) da_nil)))
  (dss_one (ds_ret (de_tup (da_cons (dv 3) (da_cons (dv 2) (da_cons (dv 4) (da_cons (de_add de_int (de_fn h__law_draw (hr.mono (by decide)) hx (da_cons (dv 0) (da_cons (dv 1) (da_cons de_int da_nil))))) da_nil)))))))))
abbrev s__law_wire : Stmt := top 45
theorem sc__law_wire : FnScope ["script", "town"] ["script", "town"] (defScope s__law_wire) := ⟨rfl, rfl, rfl, by decide +kernel, rfl, by decide +kernel, by decide +kernel⟩
theorem f__law_wire {f : Addr} {fd : FuncData} (F : Fun K "_law_wire" "_law_wire" s__law_wire f fd) (B : NoB mg) (T : Txt K mg) (h__law_draw : Def8 P w K mg base 1 "_law_draw" ["script", "town", "many"] g__law_draw) (h__law_pick : Def8 P w K mg base 2 "_law_pick" ["script", "town", "some"] g__law_pick) : Fn8 P w K mg base 3 f fd ["script", "town"] (runF 2 2 (b__law_wire)) := fn_ok F sc__law_wire fun cdv A outer s H E hr => by
  have nd := sc__law_wire.nd
  have tk : Takes (cxOf (L2.CX P w) P w K mg base ["script", "town"] "_law_wire" (defScope s__law_wire) f cdv A outer s H E) (fun cls d _ H => E cls d H) := takes_of rfl rfl rfl rfl
  have hx : Passes (L2.CX P w) (cxOf (L2.CX P w) P w K mg base ["script", "town"] "_law_wire" (defScope s__law_wire) f cdv A outer s H E) E := passes_call tk fun _ _ _ _ h => h
  have po : PassesOwn (model P w) (A.deeper (envOfC "_law_wire" (defScope s__law_wire) s.heap.objs.size f cdv)) (cxOf (L2.CX P w) P w K mg base ["script", "town"] "_law_wire" (defScope s__law_wire) f cdv A outer s H E).env (cxOf (L2.CX P w) P w K mg base ["script", "town"] "_law_wire" (defScope s__law_wire) f cdv A outer s H E).xe := passes_of (X := cxOf (L2.CX P w) P w K mg base ["script", "town"] "_law_wire" (defScope s__law_wire) f cdv A outer s H E) rfl
  have hu : (A.deeper (envOfC "_law_wire" (defScope s__law_wire) s.heap.objs.size f cdv)).units + 100 < cLine := by have := hr.un; omega
  exact (dss_one (ds_ret (de_tup (da_cons (de_add de_int (de_fn h__law_draw (hr.mono (by decide)) hx (da_cons (dv 0) (da_cons (dv 1) (da_cons de_int da_nil))))) (da_cons (de_fn h__law_pick (hr.mono (by decide)) hx (da_cons (dv 0) (da_cons (dv 1) (da_cons (de_lst (da_cons de_int (da_cons de_int (da_cons de_int (da_cons de_int (da_cons de_int (da_cons de_int (da_cons de_int (da_cons de_int (da_cons de_int da_nil)))))))))) da_nil)))) da_nil)))))
abbrev s_fates_at : Stmt := top 33
theorem sc_fates_at : FnScope ["left"] ["left"] (defScope s_fates_at) := ⟨rfl, rfl, rfl, by decide +kernel, rfl, by decide +kernel, by decide +kernel⟩
theorem f_fates_at {f : Addr} {fd : FuncData} (F : Fun K "fates_at" "fates_at" s_fates_at f fd) (B : NoB mg) (T : Txt K mg) : Fn8 P w K mg base 1 f fd ["left"] (runF 1 1 (b_fates_at)) := fn_ok F sc_fates_at fun cdv A outer s H E hr => by
  have nd := sc_fates_at.nd
  have tk : Takes (cxOf (L2.CX P w) P w K mg base ["left"] "fates_at" (defScope s_fates_at) f cdv A outer s H E) (fun cls d _ H => E cls d H) := takes_of rfl rfl rfl rfl
  have hx : Passes (L2.CX P w) (cxOf (L2.CX P w) P w K mg base ["left"] "fates_at" (defScope s_fates_at) f cdv A outer s H E) E := passes_call tk fun _ _ _ _ h => h
  have po : PassesOwn (model P w) (A.deeper (envOfC "fates_at" (defScope s_fates_at) s.heap.objs.size f cdv)) (cxOf (L2.CX P w) P w K mg base ["left"] "fates_at" (defScope s_fates_at) f cdv A outer s H E).env (cxOf (L2.CX P w) P w K mg base ["left"] "fates_at" (defScope s_fates_at) f cdv A outer s H E).xe := passes_of (X := cxOf (L2.CX P w) P w K mg base ["left"] "fates_at" (defScope s_fates_at) f cdv A outer s H E) rfl
  have hu : (A.deeper (envOfC "fates_at" (defScope s_fates_at) s.heap.objs.size f cdv)).units + 100 < cLine := by have := hr.un; omega
  exact (dss_one (ds_ret (de_if (dt_c (c_eq hu) (dv 0) de_int) (de_list rfl B.list (da_cons (de_gtup (zs := ["answer", "both", "frame", "none"]) T.c_FATES) da_nil)) (de_lst (da_cons de_str da_nil)))))
abbrev s_rest_behind : Stmt := top 34
theorem sc_rest_behind : FnScope ["wire", "left", "fate"] ["wire", "left", "fate"] (defScope s_rest_behind) := ⟨rfl, rfl, rfl, by decide +kernel, rfl, by decide +kernel, by decide +kernel⟩
theorem f_rest_behind {f : Addr} {fd : FuncData} (F : Fun K "rest_behind" "rest_behind" s_rest_behind f fd) (B : NoB mg) (T : Txt K mg) : Fn8 P w K mg base 1 f fd ["wire", "left", "fate"] (runF 3 3 (b_rest_behind)) := fn_ok F sc_rest_behind fun cdv A outer s H E hr => by
  have nd := sc_rest_behind.nd
  have tk : Takes (cxOf (L2.CX P w) P w K mg base ["wire", "left", "fate"] "rest_behind" (defScope s_rest_behind) f cdv A outer s H E) (fun cls d _ H => E cls d H) := takes_of rfl rfl rfl rfl
  have hx : Passes (L2.CX P w) (cxOf (L2.CX P w) P w K mg base ["wire", "left", "fate"] "rest_behind" (defScope s_rest_behind) f cdv A outer s H E) E := passes_call tk fun _ _ _ _ h => h
  have po : PassesOwn (model P w) (A.deeper (envOfC "rest_behind" (defScope s_rest_behind) s.heap.objs.size f cdv)) (cxOf (L2.CX P w) P w K mg base ["wire", "left", "fate"] "rest_behind" (defScope s_rest_behind) f cdv A outer s H E).env (cxOf (L2.CX P w) P w K mg base ["wire", "left", "fate"] "rest_behind" (defScope s_rest_behind) f cdv A outer s H E).xe := passes_of (X := cxOf (L2.CX P w) P w K mg base ["wire", "left", "fate"] "rest_behind" (defScope s_rest_behind) f cdv A outer s H E) rfl
  have hu : (A.deeper (envOfC "rest_behind" (defScope s_rest_behind) s.heap.objs.size f cdv)).units + 100 < cLine := by have := hr.un; omega
  exact (dss_one (ds_ret (de_if (dt_c (c_eq hu) (dv 2) de_str) (de_max2 rfl rfl B.max (da_cons de_int (da_cons (de_sub (dv 1) de_int) da_nil))) (de_ix (dv 0) de_int))))
abbrev s_are_fates_of : Stmt := top 35
theorem sc_are_fates_of : FnScope ["wire", "value", "left", "fate"] ["wire", "value"] (defScope s_are_fates_of) := ⟨rfl, rfl, rfl, by decide +kernel, rfl, by decide +kernel, by decide +kernel⟩
theorem f_are_fates_of {f : Addr} {fd : FuncData} (F : Fun K "are_fates_of" "are_fates_of" s_are_fates_of f fd) (B : NoB mg) (T : Txt K mg) (h_fates_at : Def8 P w K mg base 1 "fates_at" ["left"] g_fates_at) (h_rest_behind : Def8 P w K mg base 1 "rest_behind" ["wire", "left", "fate"] g_rest_behind) : Fn8 P w K mg base 2 f fd ["wire", "value"] (runF 4 2 (b_are_fates_of)) := fn_ok F sc_are_fates_of fun cdv A outer s H E hr => by
  have nd := sc_are_fates_of.nd
  have tk : Takes (cxOf (L2.CX P w) P w K mg base ["wire", "value", "left", "fate"] "are_fates_of" (defScope s_are_fates_of) f cdv A outer s H E) (fun cls d _ H => E cls d H) := takes_of rfl rfl rfl rfl
  have hx : Passes (L2.CX P w) (cxOf (L2.CX P w) P w K mg base ["wire", "value", "left", "fate"] "are_fates_of" (defScope s_are_fates_of) f cdv A outer s H E) E := passes_call tk fun _ _ _ _ h => h
  have po : PassesOwn (model P w) (A.deeper (envOfC "are_fates_of" (defScope s_are_fates_of) s.heap.objs.size f cdv)) (cxOf (L2.CX P w) P w K mg base ["wire", "value", "left", "fate"] "are_fates_of" (defScope s_are_fates_of) f cdv A outer s H E).env (cxOf (L2.CX P w) P w K mg base ["wire", "value", "left", "fate"] "are_fates_of" (defScope s_are_fates_of) f cdv A outer s H E).xe := passes_of (X := cxOf (L2.CX P w) P w K mg base ["wire", "value", "left", "fate"] "are_fates_of" (defScope s_are_fates_of) f cdv A outer s H E) rfl
  have hu : (A.deeper (envOfC "are_fates_of" (defScope s_are_fates_of) s.heap.objs.size f cdv)).units + 100 < cLine := by have := hr.un; omega
  exact (dss_cons (ds_if (dt_w (dw_or (dt_not (dt_val (de_isi rfl B.isinstance rfl B.list boot_list' (dv 1)))) (dw_or1 (dt_c c_gt (de_len rfl B.len (da_cons (dv 1) da_nil)) (de_gi T.c_LONGEST)))))
  (dss_one (ds_ret de_bl))
  dss_nil)
  (dss_cons (ds_set (i := 2) nd rfl (Or.inl rfl) de_int)
  (dss_cons (ds_for po rfl (di_any (dv 1)) (dg_name (i := 3) nd rfl (Or.inl rfl))
  (dss_cons (ds_if (dt_w (dw_or (dt_not (dt_val (de_isi rfl B.isinstance rfl B.str boot_str' (dv 3)))) (dw_or1 (dt_c (c_notIn hu) (dv 3) (de_fn h_fates_at (hr.mono (by decide)) hx (da_cons (dv 2) da_nil))))))
  (dss_one (ds_ret de_bl))
  dss_nil)
  (dss_one (ds_set (i := 2) nd rfl (Or.inl rfl) (de_fn h_rest_behind (hr.mono (by decide)) hx (da_cons (dv 0) (da_cons (dv 2) (da_cons (dv 3) da_nil))))))))
  (dss_one (ds_ret de_bl)))))
abbrev s_need_fates : Stmt := top 36
theorem sc_need_fates : FnScope ["wire", "value"] ["wire", "value"] (defScope s_need_fates) := ⟨rfl, rfl, rfl, by decide +kernel, rfl, by decide +kernel, by decide +kernel⟩
theorem f_need_fates {f : Addr} {fd : FuncData} (F : Fun K "need_fates" "need_fates" s_need_fates f fd) (B : NoB mg) (T : Txt K mg) (h_are_fates_of : Def8 P w K mg base 2 "are_fates_of" ["wire", "value"] g_are_fates_of) {C_InvalidFates : Addr} (X_InvalidFates : Exc8 K mg "InvalidFates" C_InvalidFates) : Fn8 P w K mg base 3 f fd ["wire", "value"] (runF 2 2 (b_need_fates)) := fn_ok F sc_need_fates fun cdv A outer s H E hr => by
  have nd := sc_need_fates.nd
  have tk : Takes (cxOf (L2.CX P w) P w K mg base ["wire", "value"] "need_fates" (defScope s_need_fates) f cdv A outer s H E) (fun cls d _ H => E cls d H) := takes_of rfl rfl rfl rfl
  have hx : Passes (L2.CX P w) (cxOf (L2.CX P w) P w K mg base ["wire", "value"] "need_fates" (defScope s_need_fates) f cdv A outer s H E) E := passes_call tk fun _ _ _ _ h => h
  have po : PassesOwn (model P w) (A.deeper (envOfC "need_fates" (defScope s_need_fates) s.heap.objs.size f cdv)) (cxOf (L2.CX P w) P w K mg base ["wire", "value"] "need_fates" (defScope s_need_fates) f cdv A outer s H E).env (cxOf (L2.CX P w) P w K mg base ["wire", "value"] "need_fates" (defScope s_need_fates) f cdv A outer s H E).xe := passes_of (X := cxOf (L2.CX P w) P w K mg base ["wire", "value"] "need_fates" (defScope s_need_fates) f cdv A outer s H E) rfl
  have hu : (A.deeper (envOfC "need_fates" (defScope s_need_fates) s.heap.objs.size f cdv)).units + 100 < cLine := by have := hr.un; omega
  exact (dss_one (ds_if (dt_not (dt_val (de_fn h_are_fates_of (hr.mono (by decide)) hx (da_cons (dv 0) (da_cons (dv 1) da_nil)))))
  (dss_one (ds_raise rfl X_InvalidFates tk rfl))
  dss_nil))
abbrev s_is_int : Stmt := top 27
theorem sc_is_int : FnScope ["value", "least", "most"] ["value", "least", "most"] (defScope s_is_int) := ⟨rfl, rfl, rfl, by decide +kernel, rfl, by decide +kernel, by decide +kernel⟩
theorem f_is_int {f : Addr} {fd : FuncData} (F : Fun K "is_int" "is_int" s_is_int f fd) (B : NoB mg) (T : Txt K mg) : Fn8 P w K mg base 1 f fd ["value", "least", "most"] (runF 3 3 (b_is_int)) := fn_ok F sc_is_int fun cdv A outer s H E hr => by
  have nd := sc_is_int.nd
  have tk : Takes (cxOf (L2.CX P w) P w K mg base ["value", "least", "most"] "is_int" (defScope s_is_int) f cdv A outer s H E) (fun cls d _ H => E cls d H) := takes_of rfl rfl rfl rfl
  have hx : Passes (L2.CX P w) (cxOf (L2.CX P w) P w K mg base ["value", "least", "most"] "is_int" (defScope s_is_int) f cdv A outer s H E) E := passes_call tk fun _ _ _ _ h => h
  have po : PassesOwn (model P w) (A.deeper (envOfC "is_int" (defScope s_is_int) s.heap.objs.size f cdv)) (cxOf (L2.CX P w) P w K mg base ["value", "least", "most"] "is_int" (defScope s_is_int) f cdv A outer s H E).env (cxOf (L2.CX P w) P w K mg base ["value", "least", "most"] "is_int" (defScope s_is_int) f cdv A outer s H E).xe := passes_of (X := cxOf (L2.CX P w) P w K mg base ["value", "least", "most"] "is_int" (defScope s_is_int) f cdv A outer s H E) rfl
  have hu : (A.deeper (envOfC "is_int" (defScope s_is_int) s.heap.objs.size f cdv)).units + 100 < cLine := by have := hr.un; omega
  exact (dss_one (ds_ret (de_and (de_isi rfl B.isinstance rfl B.int boot_int' (dv 0)) (de_and (de_not (de_isi rfl B.isinstance rfl B.bool boot_bool' (dv 0))) (de_one (de_chain c_le c_le (dv 1) (dv 0) (dv 2)))))))
abbrev s_is_kind : Stmt := top 29
theorem sc_is_kind : FnScope ["value"] ["value"] (defScope s_is_kind) := ⟨rfl, rfl, rfl, by decide +kernel, rfl, by decide +kernel, by decide +kernel⟩
theorem f_is_kind {f : Addr} {fd : FuncData} (F : Fun K "is_kind" "is_kind" s_is_kind f fd) (B : NoB mg) (T : Txt K mg) : Fn8 P w K mg base 1 f fd ["value"] (runF 1 1 (b_is_kind)) := fn_ok F sc_is_kind fun cdv A outer s H E hr => by
  have nd := sc_is_kind.nd
  have tk : Takes (cxOf (L2.CX P w) P w K mg base ["value"] "is_kind" (defScope s_is_kind) f cdv A outer s H E) (fun cls d _ H => E cls d H) := takes_of rfl rfl rfl rfl
  have hx : Passes (L2.CX P w) (cxOf (L2.CX P w) P w K mg base ["value"] "is_kind" (defScope s_is_kind) f cdv A outer s H E) E := passes_call tk fun _ _ _ _ h => h
  have po : PassesOwn (model P w) (A.deeper (envOfC "is_kind" (defScope s_is_kind) s.heap.objs.size f cdv)) (cxOf (L2.CX P w) P w K mg base ["value"] "is_kind" (defScope s_is_kind) f cdv A outer s H E).env (cxOf (L2.CX P w) P w K mg base ["value"] "is_kind" (defScope s_is_kind) f cdv A outer s H E).xe := passes_of (X := cxOf (L2.CX P w) P w K mg base ["value"] "is_kind" (defScope s_is_kind) f cdv A outer s H E) rfl
  have hu : (A.deeper (envOfC "is_kind" (defScope s_is_kind) s.heap.objs.size f cdv)).units + 100 < cLine := by have := hr.un; omega
  exact (dss_one (ds_ret (de_and (de_isi rfl B.isinstance rfl B.str boot_str' (dv 0)) (de_one (de_c (c_in hu) (dv 0) (de_gtup (zs := ["back", "own", "quick"]) T.c_KINDS))))))
abbrev s_is_way : Stmt := top 30
theorem sc_is_way : FnScope ["candidate"] ["candidate"] (defScope s_is_way) := ⟨rfl, rfl, rfl, by decide +kernel, rfl, by decide +kernel, by decide +kernel⟩
theorem f_is_way {f : Addr} {fd : FuncData} (F : Fun K "is_way" "is_way" s_is_way f fd) (B : NoB mg) (T : Txt K mg) (h_is_int : Def8 P w K mg base 1 "is_int" ["value", "least", "most"] g_is_int) (h_is_kind : Def8 P w K mg base 1 "is_kind" ["value"] g_is_kind) : Fn8 P w K mg base 2 f fd ["candidate"] (runF 1 1 (b_is_way)) := fn_ok F sc_is_way fun cdv A outer s H E hr => by
  have nd := sc_is_way.nd
  have tk : Takes (cxOf (L2.CX P w) P w K mg base ["candidate"] "is_way" (defScope s_is_way) f cdv A outer s H E) (fun cls d _ H => E cls d H) := takes_of rfl rfl rfl rfl
  have hx : Passes (L2.CX P w) (cxOf (L2.CX P w) P w K mg base ["candidate"] "is_way" (defScope s_is_way) f cdv A outer s H E) E := passes_call tk fun _ _ _ _ h => h
  have po : PassesOwn (model P w) (A.deeper (envOfC "is_way" (defScope s_is_way) s.heap.objs.size f cdv)) (cxOf (L2.CX P w) P w K mg base ["candidate"] "is_way" (defScope s_is_way) f cdv A outer s H E).env (cxOf (L2.CX P w) P w K mg base ["candidate"] "is_way" (defScope s_is_way) f cdv A outer s H E).xe := passes_of (X := cxOf (L2.CX P w) P w K mg base ["candidate"] "is_way" (defScope s_is_way) f cdv A outer s H E) rfl
  have hu : (A.deeper (envOfC "is_way" (defScope s_is_way) s.heap.objs.size f cdv)).units + 100 < cLine := by have := hr.un; omega
  exact (dss_cons (ds_if (dt_w (dw_or (dt_not (dt_val (de_isi rfl B.isinstance rfl B.tuple boot_tuple' (dv 0)))) (dw_or (dt_c (c_ne hu) (de_len rfl B.len (da_cons (dv 0) da_nil)) de_int) (dw_or1 (dt_not (dt_val (de_fn h_is_kind (hr.mono (by decide)) hx (da_cons (de_ix (dv 0) de_int) da_nil))))))))
  (dss_one (ds_ret de_bl))
  dss_nil)
  (dss_one (ds_ret (de_and (de_fn h_is_int (hr.mono (by decide)) hx (da_cons (de_ix (dv 0) de_int) (da_cons de_int (da_cons de_int da_nil)))) (de_and (de_fn h_is_int (hr.mono (by decide)) hx (da_cons (de_ix (dv 0) de_int) (da_cons (de_ix (dv 0) de_int) (da_cons de_int da_nil)))) (de_one (de_fn h_is_int (hr.mono (by decide)) hx (da_cons (de_ix (dv 0) de_int) (da_cons de_int (da_cons de_int da_nil))))))))))
abbrev s_is_wire : Stmt := top 28
theorem sc_is_wire : FnScope ["candidate"] ["candidate"] (defScope s_is_wire) := ⟨rfl, rfl, rfl, by decide +kernel, rfl, by decide +kernel, by decide +kernel⟩
theorem f_is_wire {f : Addr} {fd : FuncData} (F : Fun K "is_wire" "is_wire" s_is_wire f fd) (B : NoB mg) (T : Txt K mg) (h_is_int : Def8 P w K mg base 1 "is_int" ["value", "least", "most"] g_is_int) : Fn8 P w K mg base 2 f fd ["candidate"] (runF 1 1 (b_is_wire)) := fn_ok F sc_is_wire fun cdv A outer s H E hr => by
  have nd := sc_is_wire.nd
  have tk : Takes (cxOf (L2.CX P w) P w K mg base ["candidate"] "is_wire" (defScope s_is_wire) f cdv A outer s H E) (fun cls d _ H => E cls d H) := takes_of rfl rfl rfl rfl
  have hx : Passes (L2.CX P w) (cxOf (L2.CX P w) P w K mg base ["candidate"] "is_wire" (defScope s_is_wire) f cdv A outer s H E) E := passes_call tk fun _ _ _ _ h => h
  have po : PassesOwn (model P w) (A.deeper (envOfC "is_wire" (defScope s_is_wire) s.heap.objs.size f cdv)) (cxOf (L2.CX P w) P w K mg base ["candidate"] "is_wire" (defScope s_is_wire) f cdv A outer s H E).env (cxOf (L2.CX P w) P w K mg base ["candidate"] "is_wire" (defScope s_is_wire) f cdv A outer s H E).xe := passes_of (X := cxOf (L2.CX P w) P w K mg base ["candidate"] "is_wire" (defScope s_is_wire) f cdv A outer s H E) rfl
  have hu : (A.deeper (envOfC "is_wire" (defScope s_is_wire) s.heap.objs.size f cdv)).units + 100 < cLine := by have := hr.un; omega
  exact (dss_cons (ds_if (dt_w (dw_or (dt_not (dt_val (de_isi rfl B.isinstance rfl B.tuple boot_tuple' (dv 0)))) (dw_or1 (dt_c (c_ne hu) (de_len rfl B.len (da_cons (dv 0) da_nil)) de_int))))
  (dss_one (ds_ret de_bl))
  dss_nil)
  (dss_one (ds_ret (de_and (de_fn h_is_int (hr.mono (by decide)) hx (da_cons (de_ix (dv 0) de_int) (da_cons de_int (da_cons de_int da_nil)))) (de_one (de_fn h_is_int (hr.mono (by decide)) hx (da_cons (de_ix (dv 0) de_int) (da_cons de_int (da_cons de_int da_nil)))))))))
abbrev s_need_wire : Stmt := top 31
theorem sc_need_wire : FnScope ["value"] ["value"] (defScope s_need_wire) := ⟨rfl, rfl, rfl, by decide +kernel, rfl, by decide +kernel, by decide +kernel⟩
theorem f_need_wire {f : Addr} {fd : FuncData} (F : Fun K "need_wire" "need_wire" s_need_wire f fd) (B : NoB mg) (T : Txt K mg) (h_is_wire : Def8 P w K mg base 2 "is_wire" ["candidate"] g_is_wire) {C_InvalidWire : Addr} (X_InvalidWire : Exc8 K mg "InvalidWire" C_InvalidWire) : Fn8 P w K mg base 3 f fd ["value"] (runF 1 1 (b_need_wire)) := fn_ok F sc_need_wire fun cdv A outer s H E hr => by
  have nd := sc_need_wire.nd
  have tk : Takes (cxOf (L2.CX P w) P w K mg base ["value"] "need_wire" (defScope s_need_wire) f cdv A outer s H E) (fun cls d _ H => E cls d H) := takes_of rfl rfl rfl rfl
  have hx : Passes (L2.CX P w) (cxOf (L2.CX P w) P w K mg base ["value"] "need_wire" (defScope s_need_wire) f cdv A outer s H E) E := passes_call tk fun _ _ _ _ h => h
  have po : PassesOwn (model P w) (A.deeper (envOfC "need_wire" (defScope s_need_wire) s.heap.objs.size f cdv)) (cxOf (L2.CX P w) P w K mg base ["value"] "need_wire" (defScope s_need_wire) f cdv A outer s H E).env (cxOf (L2.CX P w) P w K mg base ["value"] "need_wire" (defScope s_need_wire) f cdv A outer s H E).xe := passes_of (X := cxOf (L2.CX P w) P w K mg base ["value"] "need_wire" (defScope s_need_wire) f cdv A outer s H E) rfl
  have hu : (A.deeper (envOfC "need_wire" (defScope s_need_wire) s.heap.objs.size f cdv)).units + 100 < cLine := by have := hr.un; omega
  exact (dss_one (ds_if (dt_not (dt_val (de_fn h_is_wire (hr.mono (by decide)) hx (da_cons (dv 0) da_nil))))
  (dss_one (ds_raise rfl X_InvalidWire tk rfl))
  dss_nil))
abbrev s_need_way : Stmt := top 32
theorem sc_need_way : FnScope ["wire", "way"] ["wire", "way"] (defScope s_need_way) := ⟨rfl, rfl, rfl, by decide +kernel, rfl, by decide +kernel, by decide +kernel⟩
theorem f_need_way {f : Addr} {fd : FuncData} (F : Fun K "need_way" "need_way" s_need_way f fd) (B : NoB mg) (T : Txt K mg) (h_is_way : Def8 P w K mg base 2 "is_way" ["candidate"] g_is_way) (h_need_wire : Def8 P w K mg base 3 "need_wire" ["value"] g_need_wire) {C_InvalidWay : Addr} (X_InvalidWay : Exc8 K mg "InvalidWay" C_InvalidWay) : Fn8 P w K mg base 4 f fd ["wire", "way"] (runF 2 2 (b_need_way)) := fn_ok F sc_need_way fun cdv A outer s H E hr => by
  have nd := sc_need_way.nd
  have tk : Takes (cxOf (L2.CX P w) P w K mg base ["wire", "way"] "need_way" (defScope s_need_way) f cdv A outer s H E) (fun cls d _ H => E cls d H) := takes_of rfl rfl rfl rfl
  have hx : Passes (L2.CX P w) (cxOf (L2.CX P w) P w K mg base ["wire", "way"] "need_way" (defScope s_need_way) f cdv A outer s H E) E := passes_call tk fun _ _ _ _ h => h
  have po : PassesOwn (model P w) (A.deeper (envOfC "need_way" (defScope s_need_way) s.heap.objs.size f cdv)) (cxOf (L2.CX P w) P w K mg base ["wire", "way"] "need_way" (defScope s_need_way) f cdv A outer s H E).env (cxOf (L2.CX P w) P w K mg base ["wire", "way"] "need_way" (defScope s_need_way) f cdv A outer s H E).xe := passes_of (X := cxOf (L2.CX P w) P w K mg base ["wire", "way"] "need_way" (defScope s_need_way) f cdv A outer s H E) rfl
  have hu : (A.deeper (envOfC "need_way" (defScope s_need_way) s.heap.objs.size f cdv)).units + 100 < cLine := by have := hr.un; omega
  exact (dss_cons (ds_expr (de_fn h_need_wire (hr.mono (by decide)) hx (da_cons (dv 0) da_nil)))
  (dss_one (ds_if (dt_not (dt_val (de_fn h_is_way (hr.mono (by decide)) hx (da_cons (dv 1) da_nil))))
  (dss_one (ds_raise rfl X_InvalidWay tk rfl))
  dss_nil)))
abbrev s_need_run : Stmt := top 39
theorem sc_need_run : FnScope ["wire", "way", "fates"] ["wire", "way", "fates"] (defScope s_need_run) := ⟨rfl, rfl, rfl, by decide +kernel, rfl, by decide +kernel, by decide +kernel⟩
theorem f_need_run {f : Addr} {fd : FuncData} (F : Fun K "need_run" "need_run" s_need_run f fd) (B : NoB mg) (T : Txt K mg) (h_need_fates : Def8 P w K mg base 3 "need_fates" ["wire", "value"] g_need_fates) (h_need_way : Def8 P w K mg base 4 "need_way" ["wire", "way"] g_need_way) : Fn8 P w K mg base 5 f fd ["wire", "way", "fates"] (runF 3 3 (b_need_run)) := fn_ok F sc_need_run fun cdv A outer s H E hr => by
  have nd := sc_need_run.nd
  have tk : Takes (cxOf (L2.CX P w) P w K mg base ["wire", "way", "fates"] "need_run" (defScope s_need_run) f cdv A outer s H E) (fun cls d _ H => E cls d H) := takes_of rfl rfl rfl rfl
  have hx : Passes (L2.CX P w) (cxOf (L2.CX P w) P w K mg base ["wire", "way", "fates"] "need_run" (defScope s_need_run) f cdv A outer s H E) E := passes_call tk fun _ _ _ _ h => h
  have po : PassesOwn (model P w) (A.deeper (envOfC "need_run" (defScope s_need_run) s.heap.objs.size f cdv)) (cxOf (L2.CX P w) P w K mg base ["wire", "way", "fates"] "need_run" (defScope s_need_run) f cdv A outer s H E).env (cxOf (L2.CX P w) P w K mg base ["wire", "way", "fates"] "need_run" (defScope s_need_run) f cdv A outer s H E).xe := passes_of (X := cxOf (L2.CX P w) P w K mg base ["wire", "way", "fates"] "need_run" (defScope s_need_run) f cdv A outer s H E) rfl
  have hu : (A.deeper (envOfC "need_run" (defScope s_need_run) s.heap.objs.size f cdv)).units + 100 < cLine := by have := hr.un; omega
  exact (dss_cons (ds_expr (de_fn h_need_way (hr.mono (by decide)) hx (da_cons (dv 0) (da_cons (dv 1) da_nil))))
  (dss_one (ds_expr (de_fn h_need_fates (hr.mono (by decide)) hx (da_cons (dv 0) (da_cons (dv 2) da_nil))))))
abbrev s_sender_of : Stmt := top 2
theorem sc_sender_of : FnScope ["way"] ["way"] (defScope s_sender_of) := ⟨rfl, rfl, rfl, by decide +kernel, rfl, by decide +kernel, by decide +kernel⟩
theorem f_sender_of {f : Addr} {fd : FuncData} (F : Fun K "sender_of" "sender_of" s_sender_of f fd) (B : NoB mg) (T : Txt K mg) : Fn8 P w K mg base 1 f fd ["way"] (runF 1 1 (b_sender_of)) := fn_ok F sc_sender_of fun cdv A outer s H E hr => by
  have nd := sc_sender_of.nd
  have tk : Takes (cxOf (L2.CX P w) P w K mg base ["way"] "sender_of" (defScope s_sender_of) f cdv A outer s H E) (fun cls d _ H => E cls d H) := takes_of rfl rfl rfl rfl
  have hx : Passes (L2.CX P w) (cxOf (L2.CX P w) P w K mg base ["way"] "sender_of" (defScope s_sender_of) f cdv A outer s H E) E := passes_call tk fun _ _ _ _ h => h
  have po : PassesOwn (model P w) (A.deeper (envOfC "sender_of" (defScope s_sender_of) s.heap.objs.size f cdv)) (cxOf (L2.CX P w) P w K mg base ["way"] "sender_of" (defScope s_sender_of) f cdv A outer s H E).env (cxOf (L2.CX P w) P w K mg base ["way"] "sender_of" (defScope s_sender_of) f cdv A outer s H E).xe := passes_of (X := cxOf (L2.CX P w) P w K mg base ["way"] "sender_of" (defScope s_sender_of) f cdv A outer s H E) rfl
  have hu : (A.deeper (envOfC "sender_of" (defScope s_sender_of) s.heap.objs.size f cdv)).units + 100 < cLine := by have := hr.un; omega
  exact (dss_one (ds_ret (de_if (dt_c (c_eq hu) (de_ix (dv 0) de_int) de_str) (de_mulT (de_tup (da_cons de_int da_nil)) (de_ix (dv 0) de_int)) (de_tup (da_cons de_int (da_cons de_int (da_cons de_int (da_cons de_int da_nil))))))))
abbrev s_begun : Stmt := top 14
theorem sc_begun : FnScope ["wire", "way"] ["wire", "way"] (defScope s_begun) := ⟨rfl, rfl, rfl, by decide +kernel, rfl, by decide +kernel, by decide +kernel⟩
theorem f_begun {f : Addr} {fd : FuncData} (F : Fun K "begun" "begun" s_begun f fd) (B : NoB mg) (T : Txt K mg) (h_sender_of : Def8 P w K mg base 1 "sender_of" ["way"] g_sender_of) : Fn8 P w K mg base 2 f fd ["wire", "way"] (runF 2 2 (b_begun)) := fn_ok F sc_begun fun cdv A outer s H E hr => by
  have nd := sc_begun.nd
  have tk : Takes (cxOf (L2.CX P w) P w K mg base ["wire", "way"] "begun" (defScope s_begun) f cdv A outer s H E) (fun cls d _ H => E cls d H) := takes_of rfl rfl rfl rfl
  have hx : Passes (L2.CX P w) (cxOf (L2.CX P w) P w K mg base ["wire", "way"] "begun" (defScope s_begun) f cdv A outer s H E) E := passes_call tk fun _ _ _ _ h => h
  have po : PassesOwn (model P w) (A.deeper (envOfC "begun" (defScope s_begun) s.heap.objs.size f cdv)) (cxOf (L2.CX P w) P w K mg base ["wire", "way"] "begun" (defScope s_begun) f cdv A outer s H E).env (cxOf (L2.CX P w) P w K mg base ["wire", "way"] "begun" (defScope s_begun) f cdv A outer s H E).xe := passes_of (X := cxOf (L2.CX P w) P w K mg base ["wire", "way"] "begun" (defScope s_begun) f cdv A outer s H E) rfl
  have hu : (A.deeper (envOfC "begun" (defScope s_begun) s.heap.objs.size f cdv)).units + 100 < cLine := by have := hr.un; omega
  exact (dss_one (ds_ret (de_tup (da_cons de_int (da_cons (de_fn h_sender_of (hr.mono (by decide)) hx (da_cons (dv 1) da_nil)) (da_cons (de_mulT (de_tup (da_cons de_non da_nil)) (de_sub (de_ix (dv 0) de_int) de_int)) (da_cons (de_mulT (de_tup (da_cons de_non da_nil)) (de_ix (dv 0) de_int)) (da_cons (de_tup (da_cons de_int (da_cons (de_tup da_nil) da_nil))) da_nil))))))))
abbrev s_gets_back : Stmt := top 8
theorem sc_gets_back : FnScope ["way", "receiver", "letter", "wants"] ["way", "receiver", "letter"] (defScope s_gets_back) := ⟨rfl, rfl, rfl, by decide +kernel, rfl, by decide +kernel, by decide +kernel⟩
theorem f_gets_back {f : Addr} {fd : FuncData} (F : Fun K "gets_back" "gets_back" s_gets_back f fd) (B : NoB mg) (T : Txt K mg) : Fn8 P w K mg base 1 f fd ["way", "receiver", "letter"] (runF 4 3 (b_gets_back)) := fn_ok F sc_gets_back fun cdv A outer s H E hr => by
  have nd := sc_gets_back.nd
  have tk : Takes (cxOf (L2.CX P w) P w K mg base ["way", "receiver", "letter", "wants"] "gets_back" (defScope s_gets_back) f cdv A outer s H E) (fun cls d _ H => E cls d H) := takes_of rfl rfl rfl rfl
  have hx : Passes (L2.CX P w) (cxOf (L2.CX P w) P w K mg base ["way", "receiver", "letter", "wants"] "gets_back" (defScope s_gets_back) f cdv A outer s H E) E := passes_call tk fun _ _ _ _ h => h
  have po : PassesOwn (model P w) (A.deeper (envOfC "gets_back" (defScope s_gets_back) s.heap.objs.size f cdv)) (cxOf (L2.CX P w) P w K mg base ["way", "receiver", "letter", "wants"] "gets_back" (defScope s_gets_back) f cdv A outer s H E).env (cxOf (L2.CX P w) P w K mg base ["way", "receiver", "letter", "wants"] "gets_back" (defScope s_gets_back) f cdv A outer s H E).xe := passes_of (X := cxOf (L2.CX P w) P w K mg base ["way", "receiver", "letter", "wants"] "gets_back" (defScope s_gets_back) f cdv A outer s H E) rfl
  have hu : (A.deeper (envOfC "gets_back" (defScope s_gets_back) s.heap.objs.size f cdv)).units + 100 < cLine := by have := hr.un; omega
  exact (dss_cons (ds_set (i := 3) nd rfl (Or.inl rfl) (de_ix (dv 1) de_int))
  (dss_cons (ds_if (dt_c (c_ne hu) (de_mod (de_sub (dv 2) (dv 3)) (de_ix (dv 0) de_int)) de_int)
  (dss_one (ds_ret (de_tup (da_cons (dv 1) (da_cons (de_lst da_nil) (da_cons (dv 3) da_nil))))))
  dss_nil)
  (dss_one (ds_ret (de_tup (da_cons (de_tup (da_cons (de_add (dv 3) de_int) (da_cons (de_tup da_nil) da_nil))) (da_cons (de_lst (da_cons (dv 2) da_nil)) (da_cons (de_add (dv 3) de_int) da_nil))))))))
abbrev s_gets_own : Stmt := top 9
theorem sc_gets_own : FnScope ["way", "receiver", "letter", "window", "numbers", "wants", "kept", "place", "row", "given", "many", "left", "at"] ["way", "receiver", "letter"] (defScope s_gets_own) := ⟨rfl, rfl, rfl, by decide +kernel, rfl, by decide +kernel, by decide +kernel⟩
theorem f_gets_own {f : Addr} {fd : FuncData} (F : Fun K "gets_own" "gets_own" s_gets_own f fd) (B : NoB mg) (T : Txt K mg) : Fn8 P w K mg base 1 f fd ["way", "receiver", "letter"] (runF 13 3 (b_gets_own)) := fn_ok F sc_gets_own fun cdv A outer s H E hr => by
  have nd := sc_gets_own.nd
  have tk : Takes (cxOf (L2.CX P w) P w K mg base ["way", "receiver", "letter", "window", "numbers", "wants", "kept", "place", "row", "given", "many", "left", "at"] "gets_own" (defScope s_gets_own) f cdv A outer s H E) (fun cls d _ H => E cls d H) := takes_of rfl rfl rfl rfl
  have hx : Passes (L2.CX P w) (cxOf (L2.CX P w) P w K mg base ["way", "receiver", "letter", "window", "numbers", "wants", "kept", "place", "row", "given", "many", "left", "at"] "gets_own" (defScope s_gets_own) f cdv A outer s H E) E := passes_call tk fun _ _ _ _ h => h
  have po : PassesOwn (model P w) (A.deeper (envOfC "gets_own" (defScope s_gets_own) s.heap.objs.size f cdv)) (cxOf (L2.CX P w) P w K mg base ["way", "receiver", "letter", "window", "numbers", "wants", "kept", "place", "row", "given", "many", "left", "at"] "gets_own" (defScope s_gets_own) f cdv A outer s H E).env (cxOf (L2.CX P w) P w K mg base ["way", "receiver", "letter", "window", "numbers", "wants", "kept", "place", "row", "given", "many", "left", "at"] "gets_own" (defScope s_gets_own) f cdv A outer s H E).xe := passes_of (X := cxOf (L2.CX P w) P w K mg base ["way", "receiver", "letter", "window", "numbers", "wants", "kept", "place", "row", "given", "many", "left", "at"] "gets_own" (defScope s_gets_own) f cdv A outer s H E) rfl
  have hu : (A.deeper (envOfC "gets_own" (defScope s_gets_own) s.heap.objs.size f cdv)).units + 100 < cLine := by have := hr.un; omega
  exact (dss_cons (ds_par2 (i := 3) (j := 4) rfl nd rfl rfl (by decide) rfl rfl (da_cons (de_ix (dv 0) de_int) (da_cons (de_ix (dv 0) de_int) da_nil)))
  (dss_cons (ds_asg (dv 1) (dg_tup rfl (dgs_cons (dg_name (i := 5) nd rfl (Or.inl rfl)) (dgs_cons (dg_name (i := 6) nd rfl (Or.inl rfl)) dgs_nil))))
  (dss_cons (ds_set (i := 7) nd rfl (Or.inl rfl) (de_mod (de_sub (dv 2) (dv 5)) (dv 4)))
  (dss_cons (ds_if (dt_c c_ge (dv 7) (dv 3))
  (dss_one (ds_ret (de_tup (da_cons (dv 1) (da_cons (de_lst da_nil) (da_cons (dv 2) da_nil))))))
  dss_nil)
  (dss_cons (ds_set (i := 8) nd rfl (Or.inr rfl) (de_dictT rfl rfl B.dict (da_cons (dv 6) da_nil)))
  (dss_cons (ds_if (dt_c (c_notInDic hu) (dv 7) (dv 8))
  (dss_one (ds_asg (dv 2) (dg_dix (E := E) hu (dv 8) (dv 7))))
  dss_nil)
  (dss_cons (ds_set (i := 9) nd rfl (Or.inl rfl) (de_lstC da_nil))
  (dss_cons (ds_while fuel8 po (dt_c (c_inDic hu) (de_len rfl B.len (da_cons (dv 9) da_nil)) (dv 8))
  (dss_one (ds_expr (de_append (dv 9) (de_dget hu (dv 8) (de_len rfl B.len (da_cons (dv 9) da_nil)))))))
  (dss_cons (ds_set (i := 10) nd rfl (Or.inr rfl) (de_len rfl B.len (da_cons (dv 9) da_nil)))
  (dss_cons (ds_setLc (i := 11) (own := [("at", 12)]) (ct := (.nm 12)) rfl nd rfl rfl (sw_true rfl rfl rfl (by decide +kernel)) (di_any (de_sortD rfl rfl B.sorted (da_cons (dv 8) da_nil))) (blkOk_by (N := ["way", "receiver", "letter", "window", "numbers", "wants", "kept", "place", "row", "given", "many", "left", "at"]) (sc := defScope s_gets_own) (own := [("at", 12)]) (by decide +kernel)) (by decide) (fun _ _ _ _ _ => pg_name (i := 12) nd rfl (Or.inl rfl)) (fun _ _ _ _ _ => dts_one (dt_c c_ge (dv 12) (dv 10))) (fun _ _ _ _ _ => (de_tup (da_cons (de_sub (dv 12) (dv 10)) (da_cons (de_dget hu (dv 8) (dv 12)) da_nil)))))
  (dss_one (ds_ret (de_tup (da_cons (de_tup (da_cons (de_add (dv 5) (dv 10)) (da_cons (de_tuple rfl B.tuple (da_cons (dv 11) da_nil)) da_nil))) (da_cons (dv 9) (da_cons (dv 2) da_nil))))))))))))))))
abbrev s_got : Stmt := top 12
theorem sc_got : FnScope ["way", "receiver", "letter"] ["way", "receiver", "letter"] (defScope s_got) := ⟨rfl, rfl, rfl, by decide +kernel, rfl, by decide +kernel, by decide +kernel⟩
theorem f_got {f : Addr} {fd : FuncData} (F : Fun K "got" "got" s_got f fd) (B : NoB mg) (T : Txt K mg) (h_gets_back : Def8 P w K mg base 1 "gets_back" ["way", "receiver", "letter"] g_gets_back) (h_gets_own : Def8 P w K mg base 1 "gets_own" ["way", "receiver", "letter"] g_gets_own) : Fn8 P w K mg base 2 f fd ["way", "receiver", "letter"] (runF 3 3 (b_got)) := fn_ok F sc_got fun cdv A outer s H E hr => by
  have nd := sc_got.nd
  have tk : Takes (cxOf (L2.CX P w) P w K mg base ["way", "receiver", "letter"] "got" (defScope s_got) f cdv A outer s H E) (fun cls d _ H => E cls d H) := takes_of rfl rfl rfl rfl
  have hx : Passes (L2.CX P w) (cxOf (L2.CX P w) P w K mg base ["way", "receiver", "letter"] "got" (defScope s_got) f cdv A outer s H E) E := passes_call tk fun _ _ _ _ h => h
  have po : PassesOwn (model P w) (A.deeper (envOfC "got" (defScope s_got) s.heap.objs.size f cdv)) (cxOf (L2.CX P w) P w K mg base ["way", "receiver", "letter"] "got" (defScope s_got) f cdv A outer s H E).env (cxOf (L2.CX P w) P w K mg base ["way", "receiver", "letter"] "got" (defScope s_got) f cdv A outer s H E).xe := passes_of (X := cxOf (L2.CX P w) P w K mg base ["way", "receiver", "letter"] "got" (defScope s_got) f cdv A outer s H E) rfl
  have hu : (A.deeper (envOfC "got" (defScope s_got) s.heap.objs.size f cdv)).units + 100 < cLine := by have := hr.un; omega
  exact (dss_one (ds_ret (de_if (dt_c (c_eq hu) (de_ix (dv 0) de_int) de_str) (de_fn h_gets_own (hr.mono (by decide)) hx (da_cons (dv 0) (da_cons (dv 1) (da_cons (dv 2) da_nil)))) (de_fn h_gets_back (hr.mono (by decide)) hx (da_cons (dv 0) (da_cons (dv 1) (da_cons (dv 2) da_nil)))))))
abbrev s_hears_back : Stmt := top 3
theorem sc_hears_back : FnScope ["way", "sender", "number", "sent", "point", "clock", "asked"] ["way", "sender", "number"] (defScope s_hears_back) := ⟨rfl, rfl, rfl, by decide +kernel, rfl, by decide +kernel, by decide +kernel⟩
theorem f_hears_back {f : Addr} {fd : FuncData} (F : Fun K "hears_back" "hears_back" s_hears_back f fd) (B : NoB mg) (T : Txt K mg) : Fn8 P w K mg base 1 f fd ["way", "sender", "number"] (runF 7 3 (b_hears_back)) := fn_ok F sc_hears_back fun cdv A outer s H E hr => by
  have nd := sc_hears_back.nd
  have tk : Takes (cxOf (L2.CX P w) P w K mg base ["way", "sender", "number", "sent", "point", "clock", "asked"] "hears_back" (defScope s_hears_back) f cdv A outer s H E) (fun cls d _ H => E cls d H) := takes_of rfl rfl rfl rfl
  have hx : Passes (L2.CX P w) (cxOf (L2.CX P w) P w K mg base ["way", "sender", "number", "sent", "point", "clock", "asked"] "hears_back" (defScope s_hears_back) f cdv A outer s H E) E := passes_call tk fun _ _ _ _ h => h
  have po : PassesOwn (model P w) (A.deeper (envOfC "hears_back" (defScope s_hears_back) s.heap.objs.size f cdv)) (cxOf (L2.CX P w) P w K mg base ["way", "sender", "number", "sent", "point", "clock", "asked"] "hears_back" (defScope s_hears_back) f cdv A outer s H E).env (cxOf (L2.CX P w) P w K mg base ["way", "sender", "number", "sent", "point", "clock", "asked"] "hears_back" (defScope s_hears_back) f cdv A outer s H E).xe := passes_of (X := cxOf (L2.CX P w) P w K mg base ["way", "sender", "number", "sent", "point", "clock", "asked"] "hears_back" (defScope s_hears_back) f cdv A outer s H E) rfl
  have hu : (A.deeper (envOfC "hears_back" (defScope s_hears_back) s.heap.objs.size f cdv)).units + 100 < cLine := by have := hr.un; omega
  exact (dss_cons (ds_asg (dv 1) (dg_tup rfl (dgs_cons (dg_name (i := 3) nd rfl (Or.inl rfl)) (dgs_cons (dg_name (i := 4) nd rfl (Or.inl rfl)) (dgs_cons (dg_name (i := 5) nd rfl (Or.inl rfl)) (dgs_cons (dg_name (i := 6) nd rfl (Or.inl rfl)) dgs_nil))))))
  (dss_cons (ds_if (dt_chain c_lt c_le de_int (dv 2) (dv 3))
  (dss_one (ds_ret (de_tup (da_cons (de_tup (da_cons (de_sub (dv 3) (dv 2)) (da_cons (de_max2 rfl rfl B.max (da_cons de_int (da_cons (de_sub (dv 4) (dv 2)) da_nil))) (da_cons de_int (da_cons de_int da_nil))))) (da_cons (dv 2) da_nil)))))
  dss_nil)
  (dss_cons (ds_if (dt_w (dw_or (dt_c (c_ne hu) (de_ix (dv 0) de_int) de_str) (dw_or (dt_c (c_ne hu) (dv 2) de_int) (dw_or1 (dt_c (c_eq hu) (dv 3) de_int)))))
  (dss_one (ds_ret (de_tup (da_cons (dv 1) (da_cons de_int da_nil)))))
  dss_nil)
  (dss_one (ds_ret (de_tup (da_cons (de_if (dt_c (c_eq hu) (dv 6) de_int) (de_tup (da_cons (dv 3) (da_cons de_int (da_cons de_int (da_cons de_int da_nil))))) (de_tup (da_cons (dv 3) (da_cons (dv 4) (da_cons (dv 5) (da_cons de_int da_nil)))))) (da_cons de_int da_nil))))))))
abbrev s_hears_own : Stmt := top 5
theorem sc_hears_own : FnScope ["way", "sender", "number", "marks", "many"] ["way", "sender", "number"] (defScope s_hears_own) := ⟨rfl, rfl, rfl, by decide +kernel, rfl, by decide +kernel, by decide +kernel⟩
theorem f_hears_own {f : Addr} {fd : FuncData} (F : Fun K "hears_own" "hears_own" s_hears_own f fd) (B : NoB mg) (T : Txt K mg) : Fn8 P w K mg base 1 f fd ["way", "sender", "number"] (runF 5 3 (b_hears_own)) := fn_ok F sc_hears_own fun cdv A outer s H E hr => by
  have nd := sc_hears_own.nd
  have tk : Takes (cxOf (L2.CX P w) P w K mg base ["way", "sender", "number", "marks", "many"] "hears_own" (defScope s_hears_own) f cdv A outer s H E) (fun cls d _ H => E cls d H) := takes_of rfl rfl rfl rfl
  have hx : Passes (L2.CX P w) (cxOf (L2.CX P w) P w K mg base ["way", "sender", "number", "marks", "many"] "hears_own" (defScope s_hears_own) f cdv A outer s H E) E := passes_call tk fun _ _ _ _ h => h
  have po : PassesOwn (model P w) (A.deeper (envOfC "hears_own" (defScope s_hears_own) s.heap.objs.size f cdv)) (cxOf (L2.CX P w) P w K mg base ["way", "sender", "number", "marks", "many"] "hears_own" (defScope s_hears_own) f cdv A outer s H E).env (cxOf (L2.CX P w) P w K mg base ["way", "sender", "number", "marks", "many"] "hears_own" (defScope s_hears_own) f cdv A outer s H E).xe := passes_of (X := cxOf (L2.CX P w) P w K mg base ["way", "sender", "number", "marks", "many"] "hears_own" (defScope s_hears_own) f cdv A outer s H E) rfl
  have hu : (A.deeper (envOfC "hears_own" (defScope s_hears_own) s.heap.objs.size f cdv)).units + 100 < cLine := by have := hr.un; omega
  exact (dss_cons (ds_if (dt_w (dw_or (dt_c c_ge (dv 2) (de_ix (dv 0) de_int)) (dw_or1 (dt_c (c_in hu) (de_ix (dv 1) (dv 2)) (de_tup (da_cons de_int (da_cons (de_gi T.c_ANSWERED) da_nil)))))))
  (dss_one (ds_ret (de_tup (da_cons (dv 1) (da_cons de_int da_nil)))))
  dss_nil)
  (dss_cons (ds_set (i := 3) nd rfl (Or.inl rfl) (de_add (de_add (de_slice (dv 1) do_none (do_some (dv 2))) (de_tup (da_cons (de_gi T.c_ANSWERED) da_nil))) (de_slice (dv 1) (do_some (de_add (dv 2) de_int)) do_none)))
  (dss_cons (ds_set (i := 4) nd rfl (Or.inl rfl) de_int)
  (dss_cons (ds_while fuel8 po (dt_w (dw_and (dt_c c_lt (dv 4) (de_len rfl B.len (da_cons (dv 3) da_nil))) (dw_and1 (dt_c (c_eq hu) (de_ix (dv 3) (dv 4)) (de_gi T.c_ANSWERED)))))
  (dss_one (ds_augAdd (i := 4) nd rfl (Or.inl rfl) de_int)))
  (dss_one (ds_ret (de_tup (da_cons (de_add (de_slice (dv 3) (do_some (dv 4)) do_none) (de_mulT (de_tup (da_cons de_int da_nil)) (dv 4))) (da_cons (dv 4) da_nil)))))))))
abbrev s_heard : Stmt := top 10
theorem sc_heard : FnScope ["way", "sender", "number"] ["way", "sender", "number"] (defScope s_heard) := ⟨rfl, rfl, rfl, by decide +kernel, rfl, by decide +kernel, by decide +kernel⟩
theorem f_heard {f : Addr} {fd : FuncData} (F : Fun K "heard" "heard" s_heard f fd) (B : NoB mg) (T : Txt K mg) (h_hears_back : Def8 P w K mg base 1 "hears_back" ["way", "sender", "number"] g_hears_back) (h_hears_own : Def8 P w K mg base 1 "hears_own" ["way", "sender", "number"] g_hears_own) : Fn8 P w K mg base 2 f fd ["way", "sender", "number"] (runF 3 3 (b_heard)) := fn_ok F sc_heard fun cdv A outer s H E hr => by
  have nd := sc_heard.nd
  have tk : Takes (cxOf (L2.CX P w) P w K mg base ["way", "sender", "number"] "heard" (defScope s_heard) f cdv A outer s H E) (fun cls d _ H => E cls d H) := takes_of rfl rfl rfl rfl
  have hx : Passes (L2.CX P w) (cxOf (L2.CX P w) P w K mg base ["way", "sender", "number"] "heard" (defScope s_heard) f cdv A outer s H E) E := passes_call tk fun _ _ _ _ h => h
  have po : PassesOwn (model P w) (A.deeper (envOfC "heard" (defScope s_heard) s.heap.objs.size f cdv)) (cxOf (L2.CX P w) P w K mg base ["way", "sender", "number"] "heard" (defScope s_heard) f cdv A outer s H E).env (cxOf (L2.CX P w) P w K mg base ["way", "sender", "number"] "heard" (defScope s_heard) f cdv A outer s H E).xe := passes_of (X := cxOf (L2.CX P w) P w K mg base ["way", "sender", "number"] "heard" (defScope s_heard) f cdv A outer s H E) rfl
  have hu : (A.deeper (envOfC "heard" (defScope s_heard) s.heap.objs.size f cdv)).units + 100 < cLine := by have := hr.un; omega
  exact (dss_one (ds_ret (de_if (dt_c (c_eq hu) (de_ix (dv 0) de_int) de_str) (de_fn h_hears_own (hr.mono (by decide)) hx (da_cons (dv 0) (da_cons (dv 1) (da_cons (dv 2) da_nil)))) (de_fn h_hears_back (hr.mono (by decide)) hx (da_cons (dv 0) (da_cons (dv 1) (da_cons (dv 2) da_nil)))))))
abbrev s_is_again : Stmt := top 7
theorem sc_is_again : FnScope ["way", "sender", "sent", "point", "clock", "asked"] ["way", "sender"] (defScope s_is_again) := ⟨rfl, rfl, rfl, by decide +kernel, rfl, by decide +kernel, by decide +kernel⟩
theorem f_is_again {f : Addr} {fd : FuncData} (F : Fun K "is_again" "is_again" s_is_again f fd) (B : NoB mg) (T : Txt K mg) : Fn8 P w K mg base 1 f fd ["way", "sender"] (runF 6 2 (b_is_again)) := fn_ok F sc_is_again fun cdv A outer s H E hr => by
  have nd := sc_is_again.nd
  have tk : Takes (cxOf (L2.CX P w) P w K mg base ["way", "sender", "sent", "point", "clock", "asked"] "is_again" (defScope s_is_again) f cdv A outer s H E) (fun cls d _ H => E cls d H) := takes_of rfl rfl rfl rfl
  have hx : Passes (L2.CX P w) (cxOf (L2.CX P w) P w K mg base ["way", "sender", "sent", "point", "clock", "asked"] "is_again" (defScope s_is_again) f cdv A outer s H E) E := passes_call tk fun _ _ _ _ h => h
  have po : PassesOwn (model P w) (A.deeper (envOfC "is_again" (defScope s_is_again) s.heap.objs.size f cdv)) (cxOf (L2.CX P w) P w K mg base ["way", "sender", "sent", "point", "clock", "asked"] "is_again" (defScope s_is_again) f cdv A outer s H E).env (cxOf (L2.CX P w) P w K mg base ["way", "sender", "sent", "point", "clock", "asked"] "is_again" (defScope s_is_again) f cdv A outer s H E).xe := passes_of (X := cxOf (L2.CX P w) P w K mg base ["way", "sender", "sent", "point", "clock", "asked"] "is_again" (defScope s_is_again) f cdv A outer s H E) rfl
  have hu : (A.deeper (envOfC "is_again" (defScope s_is_again) s.heap.objs.size f cdv)).units + 100 < cLine := by have := hr.un; omega
  exact (dss_cons (ds_if (dt_c (c_eq hu) (de_ix (dv 0) de_int) de_str)
  (dss_one (ds_ret (de_c (c_in hu) (de_ix (dv 0) de_int) (dv 1))))
  dss_nil)
  (dss_cons (ds_asg (dv 1) (dg_tup rfl (dgs_cons (dg_name (i := 2) nd rfl (Or.inl rfl)) (dgs_cons (dg_name (i := 3) nd rfl (Or.inl rfl)) (dgs_cons (dg_name (i := 4) nd rfl (Or.inl rfl)) (dgs_cons (dg_name (i := 5) nd rfl (Or.inl rfl)) dgs_nil))))))
  (dss_one (ds_ret (de_or (de_and (de_c c_gt (dv 2) de_int) (de_one (de_c (c_eq hu) (dv 4) (de_ix (dv 0) de_int)))) (de_one (de_c c_lt (dv 3) (dv 2))))))))
abbrev s_sends_back : Stmt := top 4
theorem sc_sends_back : FnScope ["way", "sender", "sent", "point", "clock", "asked", "letter"] ["way", "sender"] (defScope s_sends_back) := ⟨rfl, rfl, rfl, by decide +kernel, rfl, by decide +kernel, by decide +kernel⟩
theorem f_sends_back {f : Addr} {fd : FuncData} (F : Fun K "sends_back" "sends_back" s_sends_back f fd) (B : NoB mg) (T : Txt K mg) : Fn8 P w K mg base 1 f fd ["way", "sender"] (runF 7 2 (b_sends_back)) := fn_ok F sc_sends_back fun cdv A outer s H E hr => by
  have nd := sc_sends_back.nd
  have tk : Takes (cxOf (L2.CX P w) P w K mg base ["way", "sender", "sent", "point", "clock", "asked", "letter"] "sends_back" (defScope s_sends_back) f cdv A outer s H E) (fun cls d _ H => E cls d H) := takes_of rfl rfl rfl rfl
  have hx : Passes (L2.CX P w) (cxOf (L2.CX P w) P w K mg base ["way", "sender", "sent", "point", "clock", "asked", "letter"] "sends_back" (defScope s_sends_back) f cdv A outer s H E) E := passes_call tk fun _ _ _ _ h => h
  have po : PassesOwn (model P w) (A.deeper (envOfC "sends_back" (defScope s_sends_back) s.heap.objs.size f cdv)) (cxOf (L2.CX P w) P w K mg base ["way", "sender", "sent", "point", "clock", "asked", "letter"] "sends_back" (defScope s_sends_back) f cdv A outer s H E).env (cxOf (L2.CX P w) P w K mg base ["way", "sender", "sent", "point", "clock", "asked", "letter"] "sends_back" (defScope s_sends_back) f cdv A outer s H E).xe := passes_of (X := cxOf (L2.CX P w) P w K mg base ["way", "sender", "sent", "point", "clock", "asked", "letter"] "sends_back" (defScope s_sends_back) f cdv A outer s H E) rfl
  have hu : (A.deeper (envOfC "sends_back" (defScope s_sends_back) s.heap.objs.size f cdv)).units + 100 < cLine := by have := hr.un; omega
  exact (dss_cons (ds_asg (dv 1) (dg_tup rfl (dgs_cons (dg_name (i := 2) nd rfl (Or.inl rfl)) (dgs_cons (dg_name (i := 3) nd rfl (Or.inl rfl)) (dgs_cons (dg_name (i := 4) nd rfl (Or.inl rfl)) (dgs_cons (dg_name (i := 5) nd rfl (Or.inl rfl)) dgs_nil))))))
  (dss_cons (ds_if (dt_w (dw_and (dt_c c_gt (dv 2) de_int) (dw_and1 (dt_c (c_eq hu) (dv 4) (de_ix (dv 0) de_int)))))
  (dss_one (ds_asg (de_tup (da_cons de_int (da_cons de_int da_nil))) (dg_tup rfl (dgs_cons (dg_name (i := 3) nd rfl (Or.inl rfl)) (dgs_cons (dg_name (i := 4) nd rfl (Or.inl rfl)) dgs_nil)))))
  dss_nil)
  (dss_cons (ds_set (i := 6) nd rfl (Or.inl rfl) (de_if (dt_c c_lt (dv 3) (de_ix (dv 0) de_int)) (dv 3) de_non))
  (dss_cons (ds_if (dt_c c_isNot (dv 6) de_non)
  (dss_one (ds_augAdd (i := 3) nd rfl (Or.inl rfl) de_int))
  dss_nil)
  (dss_cons (ds_set (i := 2) nd rfl (Or.inl rfl) (de_max2 rfl rfl B.max (da_cons (dv 2) (da_cons (dv 3) da_nil))))
  (dss_one (ds_ret (de_tup (da_cons (dv 6) (da_cons (de_tup (da_cons (dv 2) (da_cons (dv 3) (da_cons (de_if (dt_c c_gt (dv 2) de_int) (de_add (dv 4) de_int) de_int) (da_cons (dv 5) da_nil))))) da_nil))))))))))
abbrev s_sends_own : Stmt := top 6
theorem sc_sends_own : FnScope ["way", "sender", "due", "fresh", "letter", "marks", "place", "mark"] ["way", "sender"] (defScope s_sends_own) := ⟨rfl, rfl, rfl, by decide +kernel, rfl, by decide +kernel, by decide +kernel⟩
theorem f_sends_own {f : Addr} {fd : FuncData} (F : Fun K "sends_own" "sends_own" s_sends_own f fd) (B : NoB mg) (T : Txt K mg) : Fn8 P w K mg base 1 f fd ["way", "sender"] (runF 8 2 (b_sends_own)) := fn_ok F sc_sends_own fun cdv A outer s H E hr => by
  have nd := sc_sends_own.nd
  have tk : Takes (cxOf (L2.CX P w) P w K mg base ["way", "sender", "due", "fresh", "letter", "marks", "place", "mark"] "sends_own" (defScope s_sends_own) f cdv A outer s H E) (fun cls d _ H => E cls d H) := takes_of rfl rfl rfl rfl
  have hx : Passes (L2.CX P w) (cxOf (L2.CX P w) P w K mg base ["way", "sender", "due", "fresh", "letter", "marks", "place", "mark"] "sends_own" (defScope s_sends_own) f cdv A outer s H E) E := passes_call tk fun _ _ _ _ h => h
  have po : PassesOwn (model P w) (A.deeper (envOfC "sends_own" (defScope s_sends_own) s.heap.objs.size f cdv)) (cxOf (L2.CX P w) P w K mg base ["way", "sender", "due", "fresh", "letter", "marks", "place", "mark"] "sends_own" (defScope s_sends_own) f cdv A outer s H E).env (cxOf (L2.CX P w) P w K mg base ["way", "sender", "due", "fresh", "letter", "marks", "place", "mark"] "sends_own" (defScope s_sends_own) f cdv A outer s H E).xe := passes_of (X := cxOf (L2.CX P w) P w K mg base ["way", "sender", "due", "fresh", "letter", "marks", "place", "mark"] "sends_own" (defScope s_sends_own) f cdv A outer s H E) rfl
  have hu : (A.deeper (envOfC "sends_own" (defScope s_sends_own) s.heap.objs.size f cdv)).units + 100 < cLine := by have := hr.un; omega
  exact (dss_cons (ds_setLc (i := 2) (own := [("place", 6), ("mark", 7)]) (ct := (.tp [6, 7])) rfl nd rfl rfl (sw_true rfl rfl rfl (by decide +kernel)) (di_enumA rfl B.enumerate (da_cons (dv 1) da_nil)) (blkOk_by (N := ["way", "sender", "due", "fresh", "letter", "marks", "place", "mark"]) (sc := defScope s_sends_own) (own := [("place", 6), ("mark", 7)]) (by decide +kernel)) (by decide) (fun _ _ _ _ _ => pg_tup rfl (pgs_cons (pg_name (i := 6) nd rfl (Or.inl rfl)) (pgs_cons (pg_name (i := 7) nd rfl (Or.inl rfl)) pgs_nil))) (fun _ _ _ _ _ => dts_one (dt_c (c_eq hu) (dv 7) (de_ix (dv 0) de_int))) (fun _ _ _ _ _ => (dv 6)))
  (dss_cons (ds_setLc (i := 3) (own := [("place", 6), ("mark", 7)]) (ct := (.tp [6, 7])) rfl nd rfl rfl (sw_true rfl rfl rfl (by decide +kernel)) (di_enumA rfl B.enumerate (da_cons (dv 1) da_nil)) (blkOk_by (N := ["way", "sender", "due", "fresh", "letter", "marks", "place", "mark"]) (sc := defScope s_sends_own) (own := [("place", 6), ("mark", 7)]) (by decide +kernel)) (by decide) (fun _ _ _ _ _ => pg_tup rfl (pgs_cons (pg_name (i := 6) nd rfl (Or.inl rfl)) (pgs_cons (pg_name (i := 7) nd rfl (Or.inl rfl)) pgs_nil))) (fun _ _ _ _ _ => dts_one (dt_c (c_eq hu) (dv 7) de_int)) (fun _ _ _ _ _ => (dv 6)))
  (dss_cons (ds_set (i := 4) nd rfl (Or.inl rfl) (de_if (dt_c (c_ne hu) (de_add (dv 2) (dv 3)) (de_lst da_nil)) (de_ix (de_add (dv 2) (dv 3)) de_int) de_non))
  (dss_cons (ds_setLcC (i := 5) (own := [("mark", 7)]) (ct := (.nm 7)) rfl nd rfl rfl (sw_true rfl rfl rfl (by decide +kernel)) (di_any (dv 1)) (blkOk_by (N := ["way", "sender", "due", "fresh", "letter", "marks", "place", "mark"]) (sc := defScope s_sends_own) (own := [("mark", 7)]) (by decide +kernel)) (by decide) (fun _ _ _ _ _ => pg_name (i := 7) nd rfl (Or.inl rfl)) (fun _ _ _ _ _ => dts_nil) (fun _ _ _ _ _ => (de_if (dt_c c_gt (dv 7) de_int) (de_min2 rfl rfl B.min (da_cons (de_add (dv 7) de_int) (da_cons (de_ix (dv 0) de_int) da_nil))) (dv 7))))
  (dss_cons (ds_if (dt_c c_isNot (dv 4) de_non)
  (dss_one (ds_asg de_int (dg_ix (E := E) (dv 5) (dv 4))))
  dss_nil)
  (dss_one (ds_ret (de_tup (da_cons (dv 4) (da_cons (de_tuple rfl B.tuple (da_cons (dv 5) da_nil)) da_nil))))))))))
abbrev s_sent_by : Stmt := top 11
theorem sc_sent_by : FnScope ["way", "sender"] ["way", "sender"] (defScope s_sent_by) := ⟨rfl, rfl, rfl, by decide +kernel, rfl, by decide +kernel, by decide +kernel⟩
theorem f_sent_by {f : Addr} {fd : FuncData} (F : Fun K "sent_by" "sent_by" s_sent_by f fd) (B : NoB mg) (T : Txt K mg) (h_sends_back : Def8 P w K mg base 1 "sends_back" ["way", "sender"] g_sends_back) (h_sends_own : Def8 P w K mg base 1 "sends_own" ["way", "sender"] g_sends_own) : Fn8 P w K mg base 2 f fd ["way", "sender"] (runF 2 2 (b_sent_by)) := fn_ok F sc_sent_by fun cdv A outer s H E hr => by
  have nd := sc_sent_by.nd
  have tk : Takes (cxOf (L2.CX P w) P w K mg base ["way", "sender"] "sent_by" (defScope s_sent_by) f cdv A outer s H E) (fun cls d _ H => E cls d H) := takes_of rfl rfl rfl rfl
  have hx : Passes (L2.CX P w) (cxOf (L2.CX P w) P w K mg base ["way", "sender"] "sent_by" (defScope s_sent_by) f cdv A outer s H E) E := passes_call tk fun _ _ _ _ h => h
  have po : PassesOwn (model P w) (A.deeper (envOfC "sent_by" (defScope s_sent_by) s.heap.objs.size f cdv)) (cxOf (L2.CX P w) P w K mg base ["way", "sender"] "sent_by" (defScope s_sent_by) f cdv A outer s H E).env (cxOf (L2.CX P w) P w K mg base ["way", "sender"] "sent_by" (defScope s_sent_by) f cdv A outer s H E).xe := passes_of (X := cxOf (L2.CX P w) P w K mg base ["way", "sender"] "sent_by" (defScope s_sent_by) f cdv A outer s H E) rfl
  have hu : (A.deeper (envOfC "sent_by" (defScope s_sent_by) s.heap.objs.size f cdv)).units + 100 < cLine := by have := hr.un; omega
  exact (dss_one (ds_ret (de_if (dt_c (c_eq hu) (de_ix (dv 0) de_int) de_str) (de_fn h_sends_own (hr.mono (by decide)) hx (da_cons (dv 0) (da_cons (dv 1) da_nil))) (de_fn h_sends_back (hr.mono (by decide)) hx (da_cons (dv 0) (da_cons (dv 1) da_nil))))))
abbrev s_moved : Stmt := top 15
theorem sc_moved : FnScope ["value", "many"] ["value", "many"] (defScope s_moved) := ⟨rfl, rfl, rfl, by decide +kernel, rfl, by decide +kernel, by decide +kernel⟩
theorem f_moved {f : Addr} {fd : FuncData} (F : Fun K "moved" "moved" s_moved f fd) (B : NoB mg) (T : Txt K mg) : Fn8 P w K mg base 1 f fd ["value", "many"] (runF 2 2 (b_moved)) := fn_ok F sc_moved fun cdv A outer s H E hr => by
  have nd := sc_moved.nd
  have tk : Takes (cxOf (L2.CX P w) P w K mg base ["value", "many"] "moved" (defScope s_moved) f cdv A outer s H E) (fun cls d _ H => E cls d H) := takes_of rfl rfl rfl rfl
  have hx : Passes (L2.CX P w) (cxOf (L2.CX P w) P w K mg base ["value", "many"] "moved" (defScope s_moved) f cdv A outer s H E) E := passes_call tk fun _ _ _ _ h => h
  have po : PassesOwn (model P w) (A.deeper (envOfC "moved" (defScope s_moved) s.heap.objs.size f cdv)) (cxOf (L2.CX P w) P w K mg base ["value", "many"] "moved" (defScope s_moved) f cdv A outer s H E).env (cxOf (L2.CX P w) P w K mg base ["value", "many"] "moved" (defScope s_moved) f cdv A outer s H E).xe := passes_of (X := cxOf (L2.CX P w) P w K mg base ["value", "many"] "moved" (defScope s_moved) f cdv A outer s H E) rfl
  have hu : (A.deeper (envOfC "moved" (defScope s_moved) s.heap.objs.size f cdv)).units + 100 < cLine := by have := hr.un; omega
  exact (dss_one (ds_ret (de_if (dt_c c_is (dv 0) de_non) de_non (de_sub (dv 0) (dv 1)))))
abbrev s_shifted : Stmt := top 16
theorem sc_shifted : FnScope ["way", "place", "many", "sender", "numbers", "turn", "old", "frames", "answers", "receiver", "kept", "one", "at", "letter"] ["way", "place", "many", "sender"] (defScope s_shifted) := ⟨rfl, rfl, rfl, by decide +kernel, rfl, by decide +kernel, by decide +kernel⟩
theorem f_shifted {f : Addr} {fd : FuncData} (F : Fun K "shifted" "shifted" s_shifted f fd) (B : NoB mg) (T : Txt K mg) (h_moved : Def8 P w K mg base 1 "moved" ["value", "many"] g_moved) : Fn8 P w K mg base 2 f fd ["way", "place", "many", "sender"] (runF 14 4 (b_shifted)) := fn_ok F sc_shifted fun cdv A outer s H E hr => by
  have nd := sc_shifted.nd
  have tk : Takes (cxOf (L2.CX P w) P w K mg base ["way", "place", "many", "sender", "numbers", "turn", "old", "frames", "answers", "receiver", "kept", "one", "at", "letter"] "shifted" (defScope s_shifted) f cdv A outer s H E) (fun cls d _ H => E cls d H) := takes_of rfl rfl rfl rfl
  have hx : Passes (L2.CX P w) (cxOf (L2.CX P w) P w K mg base ["way", "place", "many", "sender", "numbers", "turn", "old", "frames", "answers", "receiver", "kept", "one", "at", "letter"] "shifted" (defScope s_shifted) f cdv A outer s H E) E := passes_call tk fun _ _ _ _ h => h
  have po : PassesOwn (model P w) (A.deeper (envOfC "shifted" (defScope s_shifted) s.heap.objs.size f cdv)) (cxOf (L2.CX P w) P w K mg base ["way", "place", "many", "sender", "numbers", "turn", "old", "frames", "answers", "receiver", "kept", "one", "at", "letter"] "shifted" (defScope s_shifted) f cdv A outer s H E).env (cxOf (L2.CX P w) P w K mg base ["way", "place", "many", "sender", "numbers", "turn", "old", "frames", "answers", "receiver", "kept", "one", "at", "letter"] "shifted" (defScope s_shifted) f cdv A outer s H E).xe := passes_of (X := cxOf (L2.CX P w) P w K mg base ["way", "place", "many", "sender", "numbers", "turn", "old", "frames", "answers", "receiver", "kept", "one", "at", "letter"] "shifted" (defScope s_shifted) f cdv A outer s H E) rfl
  have hu : (A.deeper (envOfC "shifted" (defScope s_shifted) s.heap.objs.size f cdv)).units + 100 < cLine := by have := hr.un; omega
  exact (dss_cons (ds_asg (de_tup (da_cons (de_ix (dv 0) de_int) (da_cons (dv 1) da_nil))) (dg_tup rfl (dgs_cons (dg_name (i := 4) nd rfl (Or.inr rfl)) (dgs_cons (dg_tup rfl (dgs_cons (dg_name (i := 5) nd rfl (Or.inl rfl)) (dgs_cons (dg_name (i := 6) nd rfl (Or.inl rfl)) (dgs_cons (dg_name (i := 7) nd rfl (Or.inl rfl)) (dgs_cons (dg_name (i := 8) nd rfl (Or.inl rfl)) (dgs_cons (dg_name (i := 9) nd rfl (Or.inl rfl)) dgs_nil)))))) dgs_nil))))
  (dss_cons (ds_set (i := 7) nd rfl (Or.inl rfl) (de_tuple rfl B.tuple (da_cons (de_lc (own := [("one", 11)]) (ct := (.nm 11)) rfl nd (di_any (dv 7)) (blkOk_by (N := ["way", "place", "many", "sender", "numbers", "turn", "old", "frames", "answers", "receiver", "kept", "one", "at", "letter"]) (sc := defScope s_shifted) (own := [("one", 11)]) (by decide +kernel)) (by decide) (fun _ _ _ _ _ => pg_name (i := 11) nd rfl (Or.inl rfl)) (fun _ _ _ _ _ => dts_nil) (fun _ _ _ _ _ => (de_fn h_moved (hr.mono (by decide)) passL (da_cons (dv 11) (da_cons (dv 2) da_nil))))) da_nil)))
  (dss_cons (ds_set (i := 8) nd rfl (Or.inl rfl) (de_tuple rfl B.tuple (da_cons (de_lc (own := [("one", 11)]) (ct := (.nm 11)) rfl nd (di_any (de_slice (dv 8) (do_some de_int) do_none)) (blkOk_by (N := ["way", "place", "many", "sender", "numbers", "turn", "old", "frames", "answers", "receiver", "kept", "one", "at", "letter"]) (sc := defScope s_shifted) (own := [("one", 11)]) (by decide +kernel)) (by decide) (fun _ _ _ _ _ => pg_name (i := 11) nd rfl (Or.inl rfl)) (fun _ _ _ _ _ => dts_nil) (fun _ _ _ _ _ => (de_if (dt_c c_is (dv 11) de_non) de_non (de_mod (de_sub (dv 11) (dv 2)) (dv 4))))) da_nil)))
  (dss_cons (ds_set (i := 10) nd rfl (Or.inl rfl) (de_tuple rfl B.tuple (da_cons (de_lc (own := [("at", 12), ("letter", 13)]) (ct := (.tp [12, 13])) rfl nd (di_any (de_ix (dv 9) de_int)) (blkOk_by (N := ["way", "place", "many", "sender", "numbers", "turn", "old", "frames", "answers", "receiver", "kept", "one", "at", "letter"]) (sc := defScope s_shifted) (own := [("at", 12), ("letter", 13)]) (by decide +kernel)) (by decide) (fun _ _ _ _ _ => pg_tup rfl (pgs_cons (pg_name (i := 12) nd rfl (Or.inl rfl)) (pgs_cons (pg_name (i := 13) nd rfl (Or.inl rfl)) pgs_nil))) (fun _ _ _ _ _ => dts_nil) (fun _ _ _ _ _ => (de_tup (da_cons (dv 12) (da_cons (de_sub (dv 13) (dv 2)) da_nil))))) da_nil)))
  (dss_one (ds_ret (de_tup (da_cons (de_mod (de_add (dv 5) (dv 2)) (dv 4)) (da_cons (dv 3) (da_cons (dv 7) (da_cons (dv 8) (da_cons (de_tup (da_cons (de_sub (de_ix (dv 9) de_int) (dv 2)) (da_cons (dv 10) da_nil))) da_nil))))))))))))
abbrev s_tick : Stmt := top 17
theorem sc_tick : FnScope ["wire", "way", "place", "fate", "sender", "answers", "many", "turn", "frames", "receiver", "again", "letter", "seen", "comes", "wants", "given", "reply", "told", "kept", "good", "new", "at", "one"] ["wire", "way", "place", "fate"] (defScope s_tick) := ⟨rfl, rfl, rfl, by decide +kernel, rfl, by decide +kernel, by decide +kernel⟩
theorem f_tick {f : Addr} {fd : FuncData} (F : Fun K "tick" "tick" s_tick f fd) (B : NoB mg) (T : Txt K mg) (h_got : Def8 P w K mg base 2 "got" ["way", "receiver", "letter"] g_got) (h_heard : Def8 P w K mg base 2 "heard" ["way", "sender", "number"] g_heard) (h_is_again : Def8 P w K mg base 1 "is_again" ["way", "sender"] g_is_again) (h_sent_by : Def8 P w K mg base 2 "sent_by" ["way", "sender"] g_sent_by) (h_shifted : Def8 P w K mg base 2 "shifted" ["way", "place", "many", "sender"] g_shifted) : Fn8 P w K mg base 3 f fd ["wire", "way", "place", "fate"] (runF 23 4 (b_tick)) := fn_ok F sc_tick fun cdv A outer s H E hr => by
  have nd := sc_tick.nd
  have tk : Takes (cxOf (L2.CX P w) P w K mg base ["wire", "way", "place", "fate", "sender", "answers", "many", "turn", "frames", "receiver", "again", "letter", "seen", "comes", "wants", "given", "reply", "told", "kept", "good", "new", "at", "one"] "tick" (defScope s_tick) f cdv A outer s H E) (fun cls d _ H => E cls d H) := takes_of rfl rfl rfl rfl
  have hx : Passes (L2.CX P w) (cxOf (L2.CX P w) P w K mg base ["wire", "way", "place", "fate", "sender", "answers", "many", "turn", "frames", "receiver", "again", "letter", "seen", "comes", "wants", "given", "reply", "told", "kept", "good", "new", "at", "one"] "tick" (defScope s_tick) f cdv A outer s H E) E := passes_call tk fun _ _ _ _ h => h
  have po : PassesOwn (model P w) (A.deeper (envOfC "tick" (defScope s_tick) s.heap.objs.size f cdv)) (cxOf (L2.CX P w) P w K mg base ["wire", "way", "place", "fate", "sender", "answers", "many", "turn", "frames", "receiver", "again", "letter", "seen", "comes", "wants", "given", "reply", "told", "kept", "good", "new", "at", "one"] "tick" (defScope s_tick) f cdv A outer s H E).env (cxOf (L2.CX P w) P w K mg base ["wire", "way", "place", "fate", "sender", "answers", "many", "turn", "frames", "receiver", "again", "letter", "seen", "comes", "wants", "given", "reply", "told", "kept", "good", "new", "at", "one"] "tick" (defScope s_tick) f cdv A outer s H E).xe := passes_of (X := cxOf (L2.CX P w) P w K mg base ["wire", "way", "place", "fate", "sender", "answers", "many", "turn", "frames", "receiver", "again", "letter", "seen", "comes", "wants", "given", "reply", "told", "kept", "good", "new", "at", "one"] "tick" (defScope s_tick) f cdv A outer s H E) rfl
  have hu : (A.deeper (envOfC "tick" (defScope s_tick) s.heap.objs.size f cdv)).units + 100 < cLine := by have := hr.un; omega
  exact (dss_cons (ds_par3 (i := 4) (j := 5) (l := 6) rfl nd rfl rfl rfl (by decide) (by decide) (by decide) rfl rfl rfl (da_cons (de_ix (dv 2) de_int) (da_cons (de_ix (dv 2) de_int) (da_cons de_int da_nil))))
  (dss_cons (ds_if (dt_c c_isNot (de_ix (dv 5) de_int) de_non)
  (dss_one (ds_asg (de_fn h_heard (hr.mono (by decide)) hx (da_cons (dv 1) (da_cons (dv 4) (da_cons (de_ix (dv 5) de_int) da_nil)))) (dg_tup rfl (dgs_cons (dg_name (i := 4) nd rfl (Or.inl rfl)) (dgs_cons (dg_name (i := 6) nd rfl (Or.inl rfl)) dgs_nil)))))
  dss_nil)
  (dss_cons (ds_asg (de_fn h_shifted (hr.mono (by decide)) hx (da_cons (dv 1) (da_cons (dv 2) (da_cons (dv 6) (da_cons (dv 4) da_nil))))) (dg_tup rfl (dgs_cons (dg_name (i := 7) nd rfl (Or.inl rfl)) (dgs_cons (dg_name (i := 4) nd rfl (Or.inl rfl)) (dgs_cons (dg_name (i := 8) nd rfl (Or.inl rfl)) (dgs_cons (dg_name (i := 5) nd rfl (Or.inl rfl)) (dgs_cons (dg_name (i := 9) nd rfl (Or.inl rfl)) dgs_nil)))))))
  (dss_cons (ds_set (i := 10) nd rfl (Or.inl rfl) (de_fn h_is_again (hr.mono (by decide)) hx (da_cons (dv 1) (da_cons (dv 4) da_nil))))
  (dss_cons (ds_asg (de_fn h_sent_by (hr.mono (by decide)) hx (da_cons (dv 1) (da_cons (dv 4) da_nil))) (dg_tup rfl (dgs_cons (dg_name (i := 11) nd rfl (Or.inl rfl)) (dgs_cons (dg_name (i := 4) nd rfl (Or.inl rfl)) dgs_nil))))
  (dss_cons (ds_set (i := 12) nd rfl (Or.inl rfl) (de_if (dt_c c_is (dv 11) de_non) de_non (de_mod (de_add (dv 7) (dv 11)) (de_ix (dv 1) de_int))))
  (dss_cons (ds_set (i := 8) nd rfl (Or.inl rfl) (de_add (dv 8) (de_tup (da_cons (de_if (dt_c (c_in hu) (dv 3) (de_tup (da_cons de_str (da_cons de_str da_nil)))) de_non (dv 11)) da_nil))))
  (dss_cons (ds_asg (de_tup (da_cons (de_ix (dv 8) de_int) (da_cons (de_ix (dv 9) de_int) (da_cons (de_lst da_nil) (da_cons de_non da_nil))))) (dg_tup rfl (dgs_cons (dg_name (i := 13) nd rfl (Or.inl rfl)) (dgs_cons (dg_name (i := 14) nd rfl (Or.inr rfl)) (dgs_cons (dg_name (i := 15) nd rfl (Or.inl rfl)) (dgs_cons (dg_name (i := 16) nd rfl (Or.inl rfl)) dgs_nil))))))
  (dss_cons (ds_if (dt_c c_isNot (dv 13) de_non)
  (dss_one (ds_asg (de_fn h_got (hr.mono (by decide)) hx (da_cons (dv 1) (da_cons (dv 9) (da_cons (dv 13) da_nil)))) (dg_tup rfl (dgs_cons (dg_name (i := 9) nd rfl (Or.inl rfl)) (dgs_cons (dg_name (i := 15) nd rfl (Or.inl rfl)) (dgs_cons (dg_name (i := 16) nd rfl (Or.inl rfl)) dgs_nil))))))
  dss_nil)
  (dss_cons (ds_set (i := 17) nd rfl (Or.inl rfl) (de_if (dt_c c_is (dv 16) de_non) de_non (de_mod (de_add (dv 7) (dv 16)) (de_ix (dv 1) de_int))))
  (dss_cons (ds_set (i := 18) nd rfl (Or.inl rfl) (de_if (dt_w (dw_or (dt_c c_is (dv 16) de_non) (dw_or1 (dt_c (c_in hu) (dv 3) (de_tup (da_cons de_str (da_cons de_str da_nil))))))) de_non (de_mod (dv 16) (de_ix (dv 1) de_int))))
  (dss_cons (ds_set (i := 19) nd rfl (Or.inl rfl) (de_all rfl rfl B.all (da_cons (de_lc (own := [("at", 21), ("one", 22)]) (ct := (.tp [21, 22])) rfl nd (di_enumA rfl B.enumerate (da_cons (dv 15) da_nil)) (blkOk_by (N := ["wire", "way", "place", "fate", "sender", "answers", "many", "turn", "frames", "receiver", "again", "letter", "seen", "comes", "wants", "given", "reply", "told", "kept", "good", "new", "at", "one"]) (sc := defScope s_tick) (own := [("at", 21), ("one", 22)]) (by decide +kernel)) (by decide) (fun _ _ _ _ _ => pg_tup rfl (pgs_cons (pg_name (i := 21) nd rfl (Or.inl rfl)) (pgs_cons (pg_name (i := 22) nd rfl (Or.inl rfl)) pgs_nil))) (fun _ _ _ _ _ => dts_nil) (fun _ _ _ _ _ => (de_c (c_eq hu) (dv 22) (de_add (dv 14) (dv 21))))) da_nil)))
  (dss_cons (ds_set (i := 20) nd rfl (Or.inl rfl) (de_tup (da_cons (dv 7) (da_cons (dv 4) (da_cons (de_slice (dv 8) (do_some de_int) do_none) (da_cons (de_add (dv 5) (de_tup (da_cons (dv 18) da_nil))) (da_cons (dv 9) da_nil)))))))
  (dss_one (ds_ret (de_tup (da_cons (dv 20) (da_cons (de_tup (da_cons (dv 12) (da_cons (dv 17) da_nil))) (da_cons (de_tup (da_cons (de_if (dt_val (dv 19)) (de_len rfl B.len (da_cons (dv 15) da_nil)) de_non) (da_cons (de_if (dt_val (dv 10)) de_int de_int) (da_cons (dv 6) (da_cons (dv 15) da_nil))))) da_nil)))))))))))))))))))
abbrev s_run : Stmt := top 38
theorem sc_run : FnScope ["wire", "way", "fates", "place", "base", "seen", "given", "fate", "shown", "counts", "letter"] ["wire", "way", "fates"] (defScope s_run) := ⟨rfl, rfl, rfl, by decide +kernel, rfl, by decide +kernel, by decide +kernel⟩
theorem f_run {f : Addr} {fd : FuncData} (F : Fun K "run" "run" s_run f fd) (B : NoB mg) (T : Txt K mg) (h_begun : Def8 P w K mg base 2 "begun" ["wire", "way"] g_begun) (h_tick : Def8 P w K mg base 3 "tick" ["wire", "way", "place", "fate"] g_tick) : Fn8 P w K mg base 4 f fd ["wire", "way", "fates"] (runF 11 3 (b_run)) := fn_ok F sc_run fun cdv A outer s H E hr => by
  have nd := sc_run.nd
  have tk : Takes (cxOf (L2.CX P w) P w K mg base ["wire", "way", "fates", "place", "base", "seen", "given", "fate", "shown", "counts", "letter"] "run" (defScope s_run) f cdv A outer s H E) (fun cls d _ H => E cls d H) := takes_of rfl rfl rfl rfl
  have hx : Passes (L2.CX P w) (cxOf (L2.CX P w) P w K mg base ["wire", "way", "fates", "place", "base", "seen", "given", "fate", "shown", "counts", "letter"] "run" (defScope s_run) f cdv A outer s H E) E := passes_call tk fun _ _ _ _ h => h
  have po : PassesOwn (model P w) (A.deeper (envOfC "run" (defScope s_run) s.heap.objs.size f cdv)) (cxOf (L2.CX P w) P w K mg base ["wire", "way", "fates", "place", "base", "seen", "given", "fate", "shown", "counts", "letter"] "run" (defScope s_run) f cdv A outer s H E).env (cxOf (L2.CX P w) P w K mg base ["wire", "way", "fates", "place", "base", "seen", "given", "fate", "shown", "counts", "letter"] "run" (defScope s_run) f cdv A outer s H E).xe := passes_of (X := cxOf (L2.CX P w) P w K mg base ["wire", "way", "fates", "place", "base", "seen", "given", "fate", "shown", "counts", "letter"] "run" (defScope s_run) f cdv A outer s H E) rfl
  have hu : (A.deeper (envOfC "run" (defScope s_run) s.heap.objs.size f cdv)).units + 100 < cLine := by have := hr.un; omega
  exact (dss_cons (ds_asg (de_tup (da_cons (de_fn h_begun (hr.mono (by decide)) hx (da_cons (dv 0) (da_cons (dv 1) da_nil))) (da_cons de_int (da_cons (de_lstC da_nil) (da_cons (de_lstC da_nil) da_nil))))) (dg_tup rfl (dgs_cons (dg_name (i := 3) nd rfl (Or.inl rfl)) (dgs_cons (dg_name (i := 4) nd rfl (Or.inr rfl)) (dgs_cons (dg_name (i := 5) nd rfl (Or.inl rfl)) (dgs_cons (dg_name (i := 6) nd rfl (Or.inl rfl)) dgs_nil))))))
  (dss_cons (ds_for po rfl (di_any (dv 2)) (dg_name (i := 7) nd rfl (Or.inl rfl))
  (dss_cons (ds_asg (de_fn h_tick (hr.mono (by decide)) hx (da_cons (dv 0) (da_cons (dv 1) (da_cons (dv 3) (da_cons (dv 7) da_nil))))) (dg_tup rfl (dgs_cons (dg_name (i := 3) nd rfl (Or.inl rfl)) (dgs_cons (dg_name (i := 8) nd rfl (Or.inl rfl)) (dgs_cons (dg_name (i := 9) nd rfl (Or.inl rfl)) dgs_nil)))))
  (dss_cons (ds_augAdd (i := 4) nd rfl (Or.inr rfl) (de_ix (dv 9) de_int))
  (dss_cons (ds_expr (de_append (dv 5) (dv 8)))
  (dss_one (ds_expr (de_append (dv 6) (de_lc (own := [("letter", 10)]) (ct := (.nm 10)) rfl nd (di_any (de_ix (dv 9) de_int)) (blkOk_by (N := ["wire", "way", "fates", "place", "base", "seen", "given", "fate", "shown", "counts", "letter"]) (sc := defScope s_run) (own := [("letter", 10)]) (by decide +kernel)) (by decide) (fun _ _ _ _ _ => pg_name (i := 10) nd rfl (Or.inl rfl)) (fun _ _ _ _ _ => dts_nil) (fun _ _ _ _ _ => (de_add (dv 4) (dv 10)))))))))))
  (dss_one (ds_ret (de_tup (da_cons (dv 5) (da_cons (dv 6) (da_cons (dv 3) da_nil))))))))
abbrev s_given_along : Stmt := top 41
theorem sc_given_along : FnScope ["wire", "way", "fates"] ["wire", "way", "fates"] (defScope s_given_along) := ⟨rfl, rfl, rfl, by decide +kernel, rfl, by decide +kernel, by decide +kernel⟩
theorem f_given_along {f : Addr} {fd : FuncData} (F : Fun K "given_along" "given_along" s_given_along f fd) (B : NoB mg) (T : Txt K mg) (h_need_run : Def8 P w K mg base 5 "need_run" ["wire", "way", "fates"] g_need_run) (h_run : Def8 P w K mg base 4 "run" ["wire", "way", "fates"] g_run) : Fn8 P w K mg base 6 f fd ["wire", "way", "fates"] (runF 3 3 (b_given_along)) := fn_ok F sc_given_along fun cdv A outer s H E hr => by
  have nd := sc_given_along.nd
  have tk : Takes (cxOf (L2.CX P w) P w K mg base ["wire", "way", "fates"] "given_along" (defScope s_given_along) f cdv A outer s H E) (fun cls d _ H => E cls d H) := takes_of rfl rfl rfl rfl
  have hx : Passes (L2.CX P w) (cxOf (L2.CX P w) P w K mg base ["wire", "way", "fates"] "given_along" (defScope s_given_along) f cdv A outer s H E) E := passes_call tk fun _ _ _ _ h => h
  have po : PassesOwn (model P w) (A.deeper (envOfC "given_along" (defScope s_given_along) s.heap.objs.size f cdv)) (cxOf (L2.CX P w) P w K mg base ["wire", "way", "fates"] "given_along" (defScope s_given_along) f cdv A outer s H E).env (cxOf (L2.CX P w) P w K mg base ["wire", "way", "fates"] "given_along" (defScope s_given_along) f cdv A outer s H E).xe := passes_of (X := cxOf (L2.CX P w) P w K mg base ["wire", "way", "fates"] "given_along" (defScope s_given_along) f cdv A outer s H E) rfl
  have hu : (A.deeper (envOfC "given_along" (defScope s_given_along) s.heap.objs.size f cdv)).units + 100 < cLine := by have := hr.un; omega
  exact (dss_cons (ds_expr (de_fn h_need_run (hr.mono (by decide)) hx (da_cons (dv 0) (da_cons (dv 1) (da_cons (dv 2) da_nil)))))
  (dss_one (ds_ret (de_ix (de_fn h_run (hr.mono (by decide)) hx (da_cons (dv 0) (da_cons (dv 1) (da_cons (dv 2) da_nil)))) de_int))))
abbrev s_seen_along : Stmt := top 40
theorem sc_seen_along : FnScope ["wire", "way", "fates"] ["wire", "way", "fates"] (defScope s_seen_along) := ⟨rfl, rfl, rfl, by decide +kernel, rfl, by decide +kernel, by decide +kernel⟩
theorem f_seen_along {f : Addr} {fd : FuncData} (F : Fun K "seen_along" "seen_along" s_seen_along f fd) (B : NoB mg) (T : Txt K mg) (h_need_run : Def8 P w K mg base 5 "need_run" ["wire", "way", "fates"] g_need_run) (h_run : Def8 P w K mg base 4 "run" ["wire", "way", "fates"] g_run) : Fn8 P w K mg base 6 f fd ["wire", "way", "fates"] (runF 3 3 (b_seen_along)) := fn_ok F sc_seen_along fun cdv A outer s H E hr => by
  have nd := sc_seen_along.nd
  have tk : Takes (cxOf (L2.CX P w) P w K mg base ["wire", "way", "fates"] "seen_along" (defScope s_seen_along) f cdv A outer s H E) (fun cls d _ H => E cls d H) := takes_of rfl rfl rfl rfl
  have hx : Passes (L2.CX P w) (cxOf (L2.CX P w) P w K mg base ["wire", "way", "fates"] "seen_along" (defScope s_seen_along) f cdv A outer s H E) E := passes_call tk fun _ _ _ _ h => h
  have po : PassesOwn (model P w) (A.deeper (envOfC "seen_along" (defScope s_seen_along) s.heap.objs.size f cdv)) (cxOf (L2.CX P w) P w K mg base ["wire", "way", "fates"] "seen_along" (defScope s_seen_along) f cdv A outer s H E).env (cxOf (L2.CX P w) P w K mg base ["wire", "way", "fates"] "seen_along" (defScope s_seen_along) f cdv A outer s H E).xe := passes_of (X := cxOf (L2.CX P w) P w K mg base ["wire", "way", "fates"] "seen_along" (defScope s_seen_along) f cdv A outer s H E) rfl
  have hu : (A.deeper (envOfC "seen_along" (defScope s_seen_along) s.heap.objs.size f cdv)).units + 100 < cLine := by have := hr.un; omega
  exact (dss_cons (ds_expr (de_fn h_need_run (hr.mono (by decide)) hx (da_cons (dv 0) (da_cons (dv 1) (da_cons (dv 2) da_nil)))))
  (dss_one (ds_ret (de_ix (de_fn h_run (hr.mono (by decide)) hx (da_cons (dv 0) (da_cons (dv 1) (da_cons (dv 2) da_nil)))) de_int))))
abbrev s_law : Stmt := top 60
theorem sc_law : FnScope ["script", "town", "k", "wire", "other", "way", "fates", "due", "row"] ["script"] (defScope s_law) := ⟨rfl, rfl, rfl, by decide +kernel, rfl, by decide +kernel, by decide +kernel⟩
theorem f_law {f : Addr} {fd : FuncData} (F : Fun K "law" "law" s_law f fd) (B : NoB mg) (T : Txt K mg) (h__law_fates : Def8 P w K mg base 3 "_law_fates" ["script", "town", "wire", "most"] g__law_fates) (h__law_play : Def8 P w K mg base 3 "_law_play" ["wire", "way", "fates"] g__law_play) (h__law_way : Def8 P w K mg base 3 "_law_way" ["script", "town"] g__law_way) (h__law_wire : Def8 P w K mg base 3 "_law_wire" ["script", "town"] g__law_wire) (h_given_along : Def8 P w K mg base 6 "given_along" ["wire", "way", "fates"] g_given_along) (h_seen_along : Def8 P w K mg base 6 "seen_along" ["wire", "way", "fates"] g_seen_along) : Fn8 P w K mg base 7 f fd ["script"] (runF 9 1 (b_law)) := fn_ok F sc_law fun cdv A outer s H E hr => by
  have nd := sc_law.nd
  have tk : Takes (cxOf (L2.CX P w) P w K mg base ["script", "town", "k", "wire", "other", "way", "fates", "due", "row"] "law" (defScope s_law) f cdv A outer s H E) (fun cls d _ H => E cls d H) := takes_of rfl rfl rfl rfl
  have hx : Passes (L2.CX P w) (cxOf (L2.CX P w) P w K mg base ["script", "town", "k", "wire", "other", "way", "fates", "due", "row"] "law" (defScope s_law) f cdv A outer s H E) E := passes_call tk fun _ _ _ _ h => h
  have po : PassesOwn (model P w) (A.deeper (envOfC "law" (defScope s_law) s.heap.objs.size f cdv)) (cxOf (L2.CX P w) P w K mg base ["script", "town", "k", "wire", "other", "way", "fates", "due", "row"] "law" (defScope s_law) f cdv A outer s H E).env (cxOf (L2.CX P w) P w K mg base ["script", "town", "k", "wire", "other", "way", "fates", "due", "row"] "law" (defScope s_law) f cdv A outer s H E).xe := passes_of (X := cxOf (L2.CX P w) P w K mg base ["script", "town", "k", "wire", "other", "way", "fates", "due", "row"] "law" (defScope s_law) f cdv A outer s H E) rfl
  have hu : (A.deeper (envOfC "law" (defScope s_law) s.heap.objs.size f cdv)).units + 100 < cLine := by have := hr.un; omega
  exact (dss_cons (ds_set (i := 1) nd rfl (Or.inl rfl) (de_lstC (da_cons de_int (da_cons de_int da_nil))))
  (dss_cons (ds_for po rfl (di_rng1 rfl B.range (da_cons de_int da_nil)) (dg_name (i := 2) nd rfl (Or.inl rfl))
  (dss_cons (ds_par2 (i := 3) (j := 4) rfl nd rfl rfl (by decide) rfl rfl (da_cons (de_fn h__law_wire (hr.mono (by decide)) hx (da_cons (dv 0) (da_cons (dv 1) da_nil))) (da_cons (de_fn h__law_way (hr.mono (by decide)) hx (da_cons (dv 0) (da_cons (dv 1) da_nil))) da_nil)))
  (dss_cons (ds_set (i := 5) nd rfl (Or.inl rfl) (de_add (de_tup (da_cons de_str da_nil)) (de_slice (dv 4) (do_some de_int) do_none)))
  (dss_cons (ds_set (i := 6) nd rfl (Or.inl rfl) (de_fn h__law_fates (hr.mono (by decide)) hx (da_cons (dv 0) (da_cons (dv 1) (da_cons (dv 3) (da_cons de_int da_nil))))))
  (dss_cons (ds_set (i := 7) nd rfl (Or.inl rfl) (de_fn h__law_play (hr.mono (by decide)) hx (da_cons (dv 3) (da_cons (dv 5) (da_cons (dv 6) da_nil)))))
  (dss_cons (ds_if (dt_c (c_ne hu) (de_fn h_seen_along (hr.mono (by decide)) hx (da_cons (dv 3) (da_cons (dv 5) (da_cons (dv 6) da_nil)))) (de_lc (own := [("row", 8)]) (ct := (.nm 8)) rfl nd (di_any (dv 7)) (blkOk_by (N := ["script", "town", "k", "wire", "other", "way", "fates", "due", "row"]) (sc := defScope s_law) (own := [("row", 8)]) (by decide +kernel)) (by decide) (fun _ _ _ _ _ => pg_name (i := 8) nd rfl (Or.inl rfl)) (fun _ _ _ _ _ => dts_nil) (fun _ _ _ _ _ => (de_ix (dv 8) de_int))))
  (dss_one (ds_ret de_bl))
  dss_nil)
  (dss_one (ds_if (dt_c (c_ne hu) (de_fn h_given_along (hr.mono (by decide)) hx (da_cons (dv 3) (da_cons (dv 5) (da_cons (dv 6) da_nil)))) (de_lc (own := [("row", 8)]) (ct := (.nm 8)) rfl nd (di_any (dv 7)) (blkOk_by (N := ["script", "town", "k", "wire", "other", "way", "fates", "due", "row"]) (sc := defScope s_law) (own := [("row", 8)]) (by decide +kernel)) (by decide) (fun _ _ _ _ _ => pg_name (i := 8) nd rfl (Or.inl rfl)) (fun _ _ _ _ _ => dts_nil) (fun _ _ _ _ _ => (de_ix (dv 8) de_int))))
  (dss_one (ds_ret de_bl))
  dss_nil))))))))
  (dss_one (ds_ret de_bl))))
end
theorem all_mk {l : PySem.W.OpenLaw} {w : World} {K : PySem.W.Frag} {h : Heap} {mg : Str → Option Value} {fa : Addr} (X : K.In h) (G : h.Ns mainGlobals mg) (hfa : mg "law" = some (.ref fa))
    {f0 : Addr} {od0 an0 : Option Addr} {sl0 : Array (Option Value)} {oc0 kV0 dc0 pm0 cd0 ct0 : Value}
    {f1 : Addr} {od1 an1 : Option Addr} {sl1 : Array (Option Value)} {oc1 kV1 dc1 pm1 cd1 ct1 : Value}
    {f2 : Addr} {od2 an2 : Option Addr} {sl2 : Array (Option Value)} {oc2 kV2 dc2 pm2 cd2 ct2 : Value}
    {f3 : Addr} {od3 an3 : Option Addr} {sl3 : Array (Option Value)} {oc3 kV3 dc3 pm3 cd3 ct3 : Value}
    {f4 : Addr} {od4 an4 : Option Addr} {sl4 : Array (Option Value)} {oc4 kV4 dc4 pm4 cd4 ct4 : Value}
    {f5 : Addr} {od5 an5 : Option Addr} {sl5 : Array (Option Value)} {oc5 kV5 dc5 pm5 cd5 ct5 : Value}
    {f6 : Addr} {od6 an6 : Option Addr} {sl6 : Array (Option Value)} {oc6 kV6 dc6 pm6 cd6 ct6 : Value}
    {f7 : Addr} {od7 an7 : Option Addr} {sl7 : Array (Option Value)} {oc7 kV7 dc7 pm7 cd7 ct7 : Value}
    {f8 : Addr} {od8 an8 : Option Addr} {sl8 : Array (Option Value)} {oc8 kV8 dc8 pm8 cd8 ct8 : Value}
    {f9 : Addr} {od9 an9 : Option Addr} {sl9 : Array (Option Value)} {oc9 kV9 dc9 pm9 cd9 ct9 : Value}
    {f10 : Addr} {od10 an10 : Option Addr} {sl10 : Array (Option Value)} {oc10 kV10 dc10 pm10 cd10 ct10 : Value}
    {f11 : Addr} {od11 an11 : Option Addr} {sl11 : Array (Option Value)} {oc11 kV11 dc11 pm11 cd11 ct11 : Value}
    {f12 : Addr} {od12 an12 : Option Addr} {sl12 : Array (Option Value)} {oc12 kV12 dc12 pm12 cd12 ct12 : Value}
    {f13 : Addr} {od13 an13 : Option Addr} {sl13 : Array (Option Value)} {oc13 kV13 dc13 pm13 cd13 ct13 : Value}
    {f14 : Addr} {od14 an14 : Option Addr} {sl14 : Array (Option Value)} {oc14 kV14 dc14 pm14 cd14 ct14 : Value}
    {f15 : Addr} {od15 an15 : Option Addr} {sl15 : Array (Option Value)} {oc15 kV15 dc15 pm15 cd15 ct15 : Value}
    {f16 : Addr} {od16 an16 : Option Addr} {sl16 : Array (Option Value)} {oc16 kV16 dc16 pm16 cd16 ct16 : Value}
    {f17 : Addr} {od17 an17 : Option Addr} {sl17 : Array (Option Value)} {oc17 kV17 dc17 pm17 cd17 ct17 : Value}
    {f18 : Addr} {od18 an18 : Option Addr} {sl18 : Array (Option Value)} {oc18 kV18 dc18 pm18 cd18 ct18 : Value}
    {f19 : Addr} {od19 an19 : Option Addr} {sl19 : Array (Option Value)} {oc19 kV19 dc19 pm19 cd19 ct19 : Value}
    {f20 : Addr} {od20 an20 : Option Addr} {sl20 : Array (Option Value)} {oc20 kV20 dc20 pm20 cd20 ct20 : Value}
    {f21 : Addr} {od21 an21 : Option Addr} {sl21 : Array (Option Value)} {oc21 kV21 dc21 pm21 cd21 ct21 : Value}
    {f22 : Addr} {od22 an22 : Option Addr} {sl22 : Array (Option Value)} {oc22 kV22 dc22 pm22 cd22 ct22 : Value}
    {f23 : Addr} {od23 an23 : Option Addr} {sl23 : Array (Option Value)} {oc23 kV23 dc23 pm23 cd23 ct23 : Value}
    {f24 : Addr} {od24 an24 : Option Addr} {sl24 : Array (Option Value)} {oc24 kV24 dc24 pm24 cd24 ct24 : Value}
    {f25 : Addr} {od25 an25 : Option Addr} {sl25 : Array (Option Value)} {oc25 kV25 dc25 pm25 cd25 ct25 : Value}
    {f26 : Addr} {od26 an26 : Option Addr} {sl26 : Array (Option Value)} {oc26 kV26 dc26 pm26 cd26 ct26 : Value}
    {f27 : Addr} {od27 an27 : Option Addr} {sl27 : Array (Option Value)} {oc27 kV27 dc27 pm27 cd27 ct27 : Value}
    {f28 : Addr} {od28 an28 : Option Addr} {sl28 : Array (Option Value)} {oc28 kV28 dc28 pm28 cd28 ct28 : Value}
    {f29 : Addr} {od29 an29 : Option Addr} {sl29 : Array (Option Value)} {oc29 kV29 dc29 pm29 cd29 ct29 : Value}
    {f30 : Addr} {od30 an30 : Option Addr} {sl30 : Array (Option Value)} {oc30 kV30 dc30 pm30 cd30 ct30 : Value}
    {f31 : Addr} {od31 an31 : Option Addr} {sl31 : Array (Option Value)} {oc31 kV31 dc31 pm31 cd31 ct31 : Value}
    {f32 : Addr} {od32 an32 : Option Addr} {sl32 : Array (Option Value)} {oc32 kV32 dc32 pm32 cd32 ct32 : Value}
    {f33 : Addr} {od33 an33 : Option Addr} {sl33 : Array (Option Value)} {oc33 kV33 dc33 pm33 cd33 ct33 : Value}
    {f34 : Addr} {od34 an34 : Option Addr} {sl34 : Array (Option Value)} {oc34 kV34 dc34 pm34 cd34 ct34 : Value}
    {f35 : Addr} {od35 an35 : Option Addr} {sl35 : Array (Option Value)} {oc35 kV35 dc35 pm35 cd35 ct35 : Value}
    {f36 : Addr} {od36 an36 : Option Addr} {sl36 : Array (Option Value)} {oc36 kV36 dc36 pm36 cd36 ct36 : Value}
    {f37 : Addr} {od37 an37 : Option Addr} {sl37 : Array (Option Value)} {oc37 kV37 dc37 pm37 cd37 ct37 : Value}
    {f38 : Addr} {od38 an38 : Option Addr} {sl38 : Array (Option Value)} {oc38 kV38 dc38 pm38 cd38 ct38 : Value}
    {f39 : Addr} {od39 an39 : Option Addr} {sl39 : Array (Option Value)} {oc39 kV39 dc39 pm39 cd39 ct39 : Value}
    {f40 : Addr} {od40 an40 : Option Addr} {sl40 : Array (Option Value)} {oc40 kV40 dc40 pm40 cd40 ct40 : Value}
    {f41 : Addr} {od41 an41 : Option Addr} {sl41 : Array (Option Value)} {oc41 kV41 dc41 pm41 cd41 ct41 : Value}
    {f42 : Addr} {od42 an42 : Option Addr} {sl42 : Array (Option Value)} {oc42 kV42 dc42 pm42 cd42 ct42 : Value}
    {f43 : Addr} {od43 an43 : Option Addr} {sl43 : Array (Option Value)} {oc43 kV43 dc43 pm43 cd43 ct43 : Value}
    {f44 : Addr} {od44 an44 : Option Addr} {sl44 : Array (Option Value)} {oc44 kV44 dc44 pm44 cd44 ct44 : Value}
    {C_InvalidFates : Addr}
    {C_InvalidWay : Addr}
    {C_InvalidWire : Addr}
    {t_ANSWERED : Tok}
    {p_FATES : Addr} {t0_FATES t1_FATES t2_FATES t3_FATES : Tok} {od_FATES : Option Addr} {n_FATES : Nat} {sl_FATES : Array (Option Value)}
    {p_KINDS : Addr} {t0_KINDS t1_KINDS t2_KINDS : Tok} {od_KINDS : Option Addr} {n_KINDS : Nat} {sl_KINDS : Array (Option Value)}
    {t_LONGEST : Tok}
    (a0 : PySem.W.nsIn K mainGlobals "_law_draw" = some (some (.ref f0)))
    (l0 : K.lookup f0 = some ⟨oc0, od0, .func (PySem.W.fnOf "_law_draw" "_law_draw" (defArgs s__law_draw) (defBody s__law_draw) (defScope s__law_draw) .none kV0 dc0 pm0 an0 cd0 ct0), sl0⟩)
    (c0 : PySem.W.codeIn K cd0 "_law_draw" = true)
    (k0 : PySem.W.keepIn K (.ref f0) = true)
    (a1 : PySem.W.nsIn K mainGlobals "_law_let" = some (some (.ref f1)))
    (l1 : K.lookup f1 = some ⟨oc1, od1, .func (PySem.W.fnOf "_law_let" "_law_let" (defArgs s__law_let) (defBody s__law_let) (defScope s__law_let) .none kV1 dc1 pm1 an1 cd1 ct1), sl1⟩)
    (c1 : PySem.W.codeIn K cd1 "_law_let" = true)
    (k1 : PySem.W.keepIn K (.ref f1) = true)
    (a2 : PySem.W.nsIn K mainGlobals "_law_pick" = some (some (.ref f2)))
    (l2 : K.lookup f2 = some ⟨oc2, od2, .func (PySem.W.fnOf "_law_pick" "_law_pick" (defArgs s__law_pick) (defBody s__law_pick) (defScope s__law_pick) .none kV2 dc2 pm2 an2 cd2 ct2), sl2⟩)
    (c2 : PySem.W.codeIn K cd2 "_law_pick" = true)
    (k2 : PySem.W.keepIn K (.ref f2) = true)
    (a3 : PySem.W.nsIn K mainGlobals "_law_rest" = some (some (.ref f3)))
    (l3 : K.lookup f3 = some ⟨oc3, od3, .func (PySem.W.fnOf "_law_rest" "_law_rest" (defArgs s__law_rest) (defBody s__law_rest) (defScope s__law_rest) .none kV3 dc3 pm3 an3 cd3 ct3), sl3⟩)
    (c3 : PySem.W.codeIn K cd3 "_law_rest" = true)
    (k3 : PySem.W.keepIn K (.ref f3) = true)
    (a4 : PySem.W.nsIn K mainGlobals "_law_fates" = some (some (.ref f4)))
    (l4 : K.lookup f4 = some ⟨oc4, od4, .func (PySem.W.fnOf "_law_fates" "_law_fates" (defArgs s__law_fates) (defBody s__law_fates) (defScope s__law_fates) .none kV4 dc4 pm4 an4 cd4 ct4), sl4⟩)
    (c4 : PySem.W.codeIn K cd4 "_law_fates" = true)
    (k4 : PySem.W.keepIn K (.ref f4) = true)
    (a5 : PySem.W.nsIn K mainGlobals "_law_both" = some (some (.ref f5)))
    (l5 : K.lookup f5 = some ⟨oc5, od5, .func (PySem.W.fnOf "_law_both" "_law_both" (defArgs s__law_both) (defBody s__law_both) (defScope s__law_both) .none kV5 dc5 pm5 an5 cd5 ct5), sl5⟩)
    (c5 : PySem.W.codeIn K cd5 "_law_both" = true)
    (k5 : PySem.W.keepIn K (.ref f5) = true)
    (a6 : PySem.W.nsIn K mainGlobals "_law_begin" = some (some (.ref f6)))
    (l6 : K.lookup f6 = some ⟨oc6, od6, .func (PySem.W.fnOf "_law_begin" "_law_begin" (defArgs s__law_begin) (defBody s__law_begin) (defScope s__law_begin) .none kV6 dc6 pm6 an6 cd6 ct6), sl6⟩)
    (c6 : PySem.W.codeIn K cd6 "_law_begin" = true)
    (k6 : PySem.W.keepIn K (.ref f6) = true)
    (a7 : PySem.W.nsIn K mainGlobals "_law_copy" = some (some (.ref f7)))
    (l7 : K.lookup f7 = some ⟨oc7, od7, .func (PySem.W.fnOf "_law_copy" "_law_copy" (defArgs s__law_copy) (defBody s__law_copy) (defScope s__law_copy) .none kV7 dc7 pm7 an7 cd7 ct7), sl7⟩)
    (c7 : PySem.W.codeIn K cd7 "_law_copy" = true)
    (k7 : PySem.W.keepIn K (.ref f7) = true)
    (a8 : PySem.W.nsIn K mainGlobals "_law_get" = some (some (.ref f8)))
    (l8 : K.lookup f8 = some ⟨oc8, od8, .func (PySem.W.fnOf "_law_get" "_law_get" (defArgs s__law_get) (defBody s__law_get) (defScope s__law_get) .none kV8 dc8 pm8 an8 cd8 ct8), sl8⟩)
    (c8 : PySem.W.codeIn K cd8 "_law_get" = true)
    (k8 : PySem.W.keepIn K (.ref f8) = true)
    (a9 : PySem.W.nsIn K mainGlobals "_law_hear" = some (some (.ref f9)))
    (l9 : K.lookup f9 = some ⟨oc9, od9, .func (PySem.W.fnOf "_law_hear" "_law_hear" (defArgs s__law_hear) (defBody s__law_hear) (defScope s__law_hear) .none kV9 dc9 pm9 an9 cd9 ct9), sl9⟩)
    (c9 : PySem.W.codeIn K cd9 "_law_hear" = true)
    (k9 : PySem.W.keepIn K (.ref f9) = true)
    (a10 : PySem.W.nsIn K mainGlobals "_law_send" = some (some (.ref f10)))
    (l10 : K.lookup f10 = some ⟨oc10, od10, .func (PySem.W.fnOf "_law_send" "_law_send" (defArgs s__law_send) (defBody s__law_send) (defScope s__law_send) .none kV10 dc10 pm10 an10 cd10 ct10), sl10⟩)
    (c10 : PySem.W.codeIn K cd10 "_law_send" = true)
    (k10 : PySem.W.keepIn K (.ref f10) = true)
    (a11 : PySem.W.nsIn K mainGlobals "_law_tick" = some (some (.ref f11)))
    (l11 : K.lookup f11 = some ⟨oc11, od11, .func (PySem.W.fnOf "_law_tick" "_law_tick" (defArgs s__law_tick) (defBody s__law_tick) (defScope s__law_tick) .none kV11 dc11 pm11 an11 cd11 ct11), sl11⟩)
    (c11 : PySem.W.codeIn K cd11 "_law_tick" = true)
    (k11 : PySem.W.keepIn K (.ref f11) = true)
    (a12 : PySem.W.nsIn K mainGlobals "_law_play" = some (some (.ref f12)))
    (l12 : K.lookup f12 = some ⟨oc12, od12, .func (PySem.W.fnOf "_law_play" "_law_play" (defArgs s__law_play) (defBody s__law_play) (defScope s__law_play) .none kV12 dc12 pm12 an12 cd12 ct12), sl12⟩)
    (c12 : PySem.W.codeIn K cd12 "_law_play" = true)
    (k12 : PySem.W.keepIn K (.ref f12) = true)
    (a13 : PySem.W.nsIn K mainGlobals "_law_way" = some (some (.ref f13)))
    (l13 : K.lookup f13 = some ⟨oc13, od13, .func (PySem.W.fnOf "_law_way" "_law_way" (defArgs s__law_way) (defBody s__law_way) (defScope s__law_way) .none kV13 dc13 pm13 an13 cd13 ct13), sl13⟩)
    (c13 : PySem.W.codeIn K cd13 "_law_way" = true)
    (k13 : PySem.W.keepIn K (.ref f13) = true)
    (a14 : PySem.W.nsIn K mainGlobals "_law_wire" = some (some (.ref f14)))
    (l14 : K.lookup f14 = some ⟨oc14, od14, .func (PySem.W.fnOf "_law_wire" "_law_wire" (defArgs s__law_wire) (defBody s__law_wire) (defScope s__law_wire) .none kV14 dc14 pm14 an14 cd14 ct14), sl14⟩)
    (c14 : PySem.W.codeIn K cd14 "_law_wire" = true)
    (k14 : PySem.W.keepIn K (.ref f14) = true)
    (a15 : PySem.W.nsIn K mainGlobals "fates_at" = some (some (.ref f15)))
    (l15 : K.lookup f15 = some ⟨oc15, od15, .func (PySem.W.fnOf "fates_at" "fates_at" (defArgs s_fates_at) (defBody s_fates_at) (defScope s_fates_at) .none kV15 dc15 pm15 an15 cd15 ct15), sl15⟩)
    (c15 : PySem.W.codeIn K cd15 "fates_at" = true)
    (k15 : PySem.W.keepIn K (.ref f15) = true)
    (a16 : PySem.W.nsIn K mainGlobals "rest_behind" = some (some (.ref f16)))
    (l16 : K.lookup f16 = some ⟨oc16, od16, .func (PySem.W.fnOf "rest_behind" "rest_behind" (defArgs s_rest_behind) (defBody s_rest_behind) (defScope s_rest_behind) .none kV16 dc16 pm16 an16 cd16 ct16), sl16⟩)
    (c16 : PySem.W.codeIn K cd16 "rest_behind" = true)
    (k16 : PySem.W.keepIn K (.ref f16) = true)
    (a17 : PySem.W.nsIn K mainGlobals "are_fates_of" = some (some (.ref f17)))
    (l17 : K.lookup f17 = some ⟨oc17, od17, .func (PySem.W.fnOf "are_fates_of" "are_fates_of" (defArgs s_are_fates_of) (defBody s_are_fates_of) (defScope s_are_fates_of) .none kV17 dc17 pm17 an17 cd17 ct17), sl17⟩)
    (c17 : PySem.W.codeIn K cd17 "are_fates_of" = true)
    (k17 : PySem.W.keepIn K (.ref f17) = true)
    (a18 : PySem.W.nsIn K mainGlobals "need_fates" = some (some (.ref f18)))
    (l18 : K.lookup f18 = some ⟨oc18, od18, .func (PySem.W.fnOf "need_fates" "need_fates" (defArgs s_need_fates) (defBody s_need_fates) (defScope s_need_fates) .none kV18 dc18 pm18 an18 cd18 ct18), sl18⟩)
    (c18 : PySem.W.codeIn K cd18 "need_fates" = true)
    (k18 : PySem.W.keepIn K (.ref f18) = true)
    (a19 : PySem.W.nsIn K mainGlobals "is_int" = some (some (.ref f19)))
    (l19 : K.lookup f19 = some ⟨oc19, od19, .func (PySem.W.fnOf "is_int" "is_int" (defArgs s_is_int) (defBody s_is_int) (defScope s_is_int) .none kV19 dc19 pm19 an19 cd19 ct19), sl19⟩)
    (c19 : PySem.W.codeIn K cd19 "is_int" = true)
    (k19 : PySem.W.keepIn K (.ref f19) = true)
    (a20 : PySem.W.nsIn K mainGlobals "is_kind" = some (some (.ref f20)))
    (l20 : K.lookup f20 = some ⟨oc20, od20, .func (PySem.W.fnOf "is_kind" "is_kind" (defArgs s_is_kind) (defBody s_is_kind) (defScope s_is_kind) .none kV20 dc20 pm20 an20 cd20 ct20), sl20⟩)
    (c20 : PySem.W.codeIn K cd20 "is_kind" = true)
    (k20 : PySem.W.keepIn K (.ref f20) = true)
    (a21 : PySem.W.nsIn K mainGlobals "is_way" = some (some (.ref f21)))
    (l21 : K.lookup f21 = some ⟨oc21, od21, .func (PySem.W.fnOf "is_way" "is_way" (defArgs s_is_way) (defBody s_is_way) (defScope s_is_way) .none kV21 dc21 pm21 an21 cd21 ct21), sl21⟩)
    (c21 : PySem.W.codeIn K cd21 "is_way" = true)
    (k21 : PySem.W.keepIn K (.ref f21) = true)
    (a22 : PySem.W.nsIn K mainGlobals "is_wire" = some (some (.ref f22)))
    (l22 : K.lookup f22 = some ⟨oc22, od22, .func (PySem.W.fnOf "is_wire" "is_wire" (defArgs s_is_wire) (defBody s_is_wire) (defScope s_is_wire) .none kV22 dc22 pm22 an22 cd22 ct22), sl22⟩)
    (c22 : PySem.W.codeIn K cd22 "is_wire" = true)
    (k22 : PySem.W.keepIn K (.ref f22) = true)
    (a23 : PySem.W.nsIn K mainGlobals "need_wire" = some (some (.ref f23)))
    (l23 : K.lookup f23 = some ⟨oc23, od23, .func (PySem.W.fnOf "need_wire" "need_wire" (defArgs s_need_wire) (defBody s_need_wire) (defScope s_need_wire) .none kV23 dc23 pm23 an23 cd23 ct23), sl23⟩)
    (c23 : PySem.W.codeIn K cd23 "need_wire" = true)
    (k23 : PySem.W.keepIn K (.ref f23) = true)
    (a24 : PySem.W.nsIn K mainGlobals "need_way" = some (some (.ref f24)))
    (l24 : K.lookup f24 = some ⟨oc24, od24, .func (PySem.W.fnOf "need_way" "need_way" (defArgs s_need_way) (defBody s_need_way) (defScope s_need_way) .none kV24 dc24 pm24 an24 cd24 ct24), sl24⟩)
    (c24 : PySem.W.codeIn K cd24 "need_way" = true)
    (k24 : PySem.W.keepIn K (.ref f24) = true)
    (a25 : PySem.W.nsIn K mainGlobals "need_run" = some (some (.ref f25)))
    (l25 : K.lookup f25 = some ⟨oc25, od25, .func (PySem.W.fnOf "need_run" "need_run" (defArgs s_need_run) (defBody s_need_run) (defScope s_need_run) .none kV25 dc25 pm25 an25 cd25 ct25), sl25⟩)
    (c25 : PySem.W.codeIn K cd25 "need_run" = true)
    (k25 : PySem.W.keepIn K (.ref f25) = true)
    (a26 : PySem.W.nsIn K mainGlobals "sender_of" = some (some (.ref f26)))
    (l26 : K.lookup f26 = some ⟨oc26, od26, .func (PySem.W.fnOf "sender_of" "sender_of" (defArgs s_sender_of) (defBody s_sender_of) (defScope s_sender_of) .none kV26 dc26 pm26 an26 cd26 ct26), sl26⟩)
    (c26 : PySem.W.codeIn K cd26 "sender_of" = true)
    (k26 : PySem.W.keepIn K (.ref f26) = true)
    (a27 : PySem.W.nsIn K mainGlobals "begun" = some (some (.ref f27)))
    (l27 : K.lookup f27 = some ⟨oc27, od27, .func (PySem.W.fnOf "begun" "begun" (defArgs s_begun) (defBody s_begun) (defScope s_begun) .none kV27 dc27 pm27 an27 cd27 ct27), sl27⟩)
    (c27 : PySem.W.codeIn K cd27 "begun" = true)
    (k27 : PySem.W.keepIn K (.ref f27) = true)
    (a28 : PySem.W.nsIn K mainGlobals "gets_back" = some (some (.ref f28)))
    (l28 : K.lookup f28 = some ⟨oc28, od28, .func (PySem.W.fnOf "gets_back" "gets_back" (defArgs s_gets_back) (defBody s_gets_back) (defScope s_gets_back) .none kV28 dc28 pm28 an28 cd28 ct28), sl28⟩)
    (c28 : PySem.W.codeIn K cd28 "gets_back" = true)
    (k28 : PySem.W.keepIn K (.ref f28) = true)
    (a29 : PySem.W.nsIn K mainGlobals "gets_own" = some (some (.ref f29)))
    (l29 : K.lookup f29 = some ⟨oc29, od29, .func (PySem.W.fnOf "gets_own" "gets_own" (defArgs s_gets_own) (defBody s_gets_own) (defScope s_gets_own) .none kV29 dc29 pm29 an29 cd29 ct29), sl29⟩)
    (c29 : PySem.W.codeIn K cd29 "gets_own" = true)
    (k29 : PySem.W.keepIn K (.ref f29) = true)
    (a30 : PySem.W.nsIn K mainGlobals "got" = some (some (.ref f30)))
    (l30 : K.lookup f30 = some ⟨oc30, od30, .func (PySem.W.fnOf "got" "got" (defArgs s_got) (defBody s_got) (defScope s_got) .none kV30 dc30 pm30 an30 cd30 ct30), sl30⟩)
    (c30 : PySem.W.codeIn K cd30 "got" = true)
    (k30 : PySem.W.keepIn K (.ref f30) = true)
    (a31 : PySem.W.nsIn K mainGlobals "hears_back" = some (some (.ref f31)))
    (l31 : K.lookup f31 = some ⟨oc31, od31, .func (PySem.W.fnOf "hears_back" "hears_back" (defArgs s_hears_back) (defBody s_hears_back) (defScope s_hears_back) .none kV31 dc31 pm31 an31 cd31 ct31), sl31⟩)
    (c31 : PySem.W.codeIn K cd31 "hears_back" = true)
    (k31 : PySem.W.keepIn K (.ref f31) = true)
    (a32 : PySem.W.nsIn K mainGlobals "hears_own" = some (some (.ref f32)))
    (l32 : K.lookup f32 = some ⟨oc32, od32, .func (PySem.W.fnOf "hears_own" "hears_own" (defArgs s_hears_own) (defBody s_hears_own) (defScope s_hears_own) .none kV32 dc32 pm32 an32 cd32 ct32), sl32⟩)
    (c32 : PySem.W.codeIn K cd32 "hears_own" = true)
    (k32 : PySem.W.keepIn K (.ref f32) = true)
    (a33 : PySem.W.nsIn K mainGlobals "heard" = some (some (.ref f33)))
    (l33 : K.lookup f33 = some ⟨oc33, od33, .func (PySem.W.fnOf "heard" "heard" (defArgs s_heard) (defBody s_heard) (defScope s_heard) .none kV33 dc33 pm33 an33 cd33 ct33), sl33⟩)
    (c33 : PySem.W.codeIn K cd33 "heard" = true)
    (k33 : PySem.W.keepIn K (.ref f33) = true)
    (a34 : PySem.W.nsIn K mainGlobals "is_again" = some (some (.ref f34)))
    (l34 : K.lookup f34 = some ⟨oc34, od34, .func (PySem.W.fnOf "is_again" "is_again" (defArgs s_is_again) (defBody s_is_again) (defScope s_is_again) .none kV34 dc34 pm34 an34 cd34 ct34), sl34⟩)
    (c34 : PySem.W.codeIn K cd34 "is_again" = true)
    (k34 : PySem.W.keepIn K (.ref f34) = true)
    (a35 : PySem.W.nsIn K mainGlobals "sends_back" = some (some (.ref f35)))
    (l35 : K.lookup f35 = some ⟨oc35, od35, .func (PySem.W.fnOf "sends_back" "sends_back" (defArgs s_sends_back) (defBody s_sends_back) (defScope s_sends_back) .none kV35 dc35 pm35 an35 cd35 ct35), sl35⟩)
    (c35 : PySem.W.codeIn K cd35 "sends_back" = true)
    (k35 : PySem.W.keepIn K (.ref f35) = true)
    (a36 : PySem.W.nsIn K mainGlobals "sends_own" = some (some (.ref f36)))
    (l36 : K.lookup f36 = some ⟨oc36, od36, .func (PySem.W.fnOf "sends_own" "sends_own" (defArgs s_sends_own) (defBody s_sends_own) (defScope s_sends_own) .none kV36 dc36 pm36 an36 cd36 ct36), sl36⟩)
    (c36 : PySem.W.codeIn K cd36 "sends_own" = true)
    (k36 : PySem.W.keepIn K (.ref f36) = true)
    (a37 : PySem.W.nsIn K mainGlobals "sent_by" = some (some (.ref f37)))
    (l37 : K.lookup f37 = some ⟨oc37, od37, .func (PySem.W.fnOf "sent_by" "sent_by" (defArgs s_sent_by) (defBody s_sent_by) (defScope s_sent_by) .none kV37 dc37 pm37 an37 cd37 ct37), sl37⟩)
    (c37 : PySem.W.codeIn K cd37 "sent_by" = true)
    (k37 : PySem.W.keepIn K (.ref f37) = true)
    (a38 : PySem.W.nsIn K mainGlobals "moved" = some (some (.ref f38)))
    (l38 : K.lookup f38 = some ⟨oc38, od38, .func (PySem.W.fnOf "moved" "moved" (defArgs s_moved) (defBody s_moved) (defScope s_moved) .none kV38 dc38 pm38 an38 cd38 ct38), sl38⟩)
    (c38 : PySem.W.codeIn K cd38 "moved" = true)
    (k38 : PySem.W.keepIn K (.ref f38) = true)
    (a39 : PySem.W.nsIn K mainGlobals "shifted" = some (some (.ref f39)))
    (l39 : K.lookup f39 = some ⟨oc39, od39, .func (PySem.W.fnOf "shifted" "shifted" (defArgs s_shifted) (defBody s_shifted) (defScope s_shifted) .none kV39 dc39 pm39 an39 cd39 ct39), sl39⟩)
    (c39 : PySem.W.codeIn K cd39 "shifted" = true)
    (k39 : PySem.W.keepIn K (.ref f39) = true)
    (a40 : PySem.W.nsIn K mainGlobals "tick" = some (some (.ref f40)))
    (l40 : K.lookup f40 = some ⟨oc40, od40, .func (PySem.W.fnOf "tick" "tick" (defArgs s_tick) (defBody s_tick) (defScope s_tick) .none kV40 dc40 pm40 an40 cd40 ct40), sl40⟩)
    (c40 : PySem.W.codeIn K cd40 "tick" = true)
    (k40 : PySem.W.keepIn K (.ref f40) = true)
    (a41 : PySem.W.nsIn K mainGlobals "run" = some (some (.ref f41)))
    (l41 : K.lookup f41 = some ⟨oc41, od41, .func (PySem.W.fnOf "run" "run" (defArgs s_run) (defBody s_run) (defScope s_run) .none kV41 dc41 pm41 an41 cd41 ct41), sl41⟩)
    (c41 : PySem.W.codeIn K cd41 "run" = true)
    (k41 : PySem.W.keepIn K (.ref f41) = true)
    (a42 : PySem.W.nsIn K mainGlobals "given_along" = some (some (.ref f42)))
    (l42 : K.lookup f42 = some ⟨oc42, od42, .func (PySem.W.fnOf "given_along" "given_along" (defArgs s_given_along) (defBody s_given_along) (defScope s_given_along) .none kV42 dc42 pm42 an42 cd42 ct42), sl42⟩)
    (c42 : PySem.W.codeIn K cd42 "given_along" = true)
    (k42 : PySem.W.keepIn K (.ref f42) = true)
    (a43 : PySem.W.nsIn K mainGlobals "seen_along" = some (some (.ref f43)))
    (l43 : K.lookup f43 = some ⟨oc43, od43, .func (PySem.W.fnOf "seen_along" "seen_along" (defArgs s_seen_along) (defBody s_seen_along) (defScope s_seen_along) .none kV43 dc43 pm43 an43 cd43 ct43), sl43⟩)
    (c43 : PySem.W.codeIn K cd43 "seen_along" = true)
    (k43 : PySem.W.keepIn K (.ref f43) = true)
    (a44 : PySem.W.nsIn K mainGlobals "law" = some (some (.ref f44)))
    (l44 : K.lookup f44 = some ⟨oc44, od44, .func (PySem.W.fnOf "law" "law" (defArgs s_law) (defBody s_law) (defScope s_law) .none kV44 dc44 pm44 an44 cd44 ct44), sl44⟩)
    (c44 : PySem.W.codeIn K cd44 "law" = true)
    (k44 : PySem.W.keepIn K (.ref f44) = true)
    (e_InvalidFates : PySem.W.nsIn K mainGlobals "InvalidFates" = some (some (.ref C_InvalidFates)))
    (ei_InvalidFates : PySem.W.excIn K C_InvalidFates [.type "ValueError", .type "Exception", .type "BaseException", .type "object"] "ValueError.__new__" = true)
    (ek_InvalidFates : PySem.W.keepIn K (.ref C_InvalidFates) = true)
    (eb_InvalidFates : PySem.W.subIn K (.ref C_InvalidFates) (.type "BaseException") = some true)
    (et_InvalidFates : PySem.W.typeIn K (.ref C_InvalidFates) = some (.type "type"))
    (e_InvalidWay : PySem.W.nsIn K mainGlobals "InvalidWay" = some (some (.ref C_InvalidWay)))
    (ei_InvalidWay : PySem.W.excIn K C_InvalidWay [.type "ValueError", .type "Exception", .type "BaseException", .type "object"] "ValueError.__new__" = true)
    (ek_InvalidWay : PySem.W.keepIn K (.ref C_InvalidWay) = true)
    (eb_InvalidWay : PySem.W.subIn K (.ref C_InvalidWay) (.type "BaseException") = some true)
    (et_InvalidWay : PySem.W.typeIn K (.ref C_InvalidWay) = some (.type "type"))
    (e_InvalidWire : PySem.W.nsIn K mainGlobals "InvalidWire" = some (some (.ref C_InvalidWire)))
    (ei_InvalidWire : PySem.W.excIn K C_InvalidWire [.type "ValueError", .type "Exception", .type "BaseException", .type "object"] "ValueError.__new__" = true)
    (ek_InvalidWire : PySem.W.keepIn K (.ref C_InvalidWire) = true)
    (eb_InvalidWire : PySem.W.subIn K (.ref C_InvalidWire) (.type "BaseException") = some true)
    (et_InvalidWire : PySem.W.typeIn K (.ref C_InvalidWire) = some (.type "type"))
    (g_ANSWERED : PySem.W.nsIn K mainGlobals "ANSWERED" = some (some (.int (-1) t_ANSWERED)))
    (g_FATES : PySem.W.nsIn K mainGlobals "FATES" = some (some (.ref p_FATES)))
    (gl_FATES : K.lookup p_FATES = some ⟨.type "tuple", od_FATES, .seq #[.str "answer" t0_FATES, .str "both" t1_FATES, .str "frame" t2_FATES, .str "none" t3_FATES] n_FATES, sl_FATES⟩)
    (g_KINDS : PySem.W.nsIn K mainGlobals "KINDS" = some (some (.ref p_KINDS)))
    (gl_KINDS : K.lookup p_KINDS = some ⟨.type "tuple", od_KINDS, .seq #[.str "back" t0_KINDS, .str "own" t1_KINDS, .str "quick" t2_KINDS] n_KINDS, sl_KINDS⟩)
    (g_LONGEST : PySem.W.nsIn K mainGlobals "LONGEST" = some (some (.int (40) t_LONGEST)))
    (z_len : PySem.W.nsIn K mainGlobals "len" = some none)
    (z_max : PySem.W.nsIn K mainGlobals "max" = some none)
    (z_min : PySem.W.nsIn K mainGlobals "min" = some none)
    (z_list : PySem.W.nsIn K mainGlobals "list" = some none)
    (z_tuple : PySem.W.nsIn K mainGlobals "tuple" = some none)
    (z_all : PySem.W.nsIn K mainGlobals "all" = some none)
    (z_any : PySem.W.nsIn K mainGlobals "any" = some none)
    (z_isinstance : PySem.W.nsIn K mainGlobals "isinstance" = some none)
    (z_int : PySem.W.nsIn K mainGlobals "int" = some none)
    (z_bool : PySem.W.nsIn K mainGlobals "bool" = some none)
    (z_str : PySem.W.nsIn K mainGlobals "str" = some none)
    (z_range : PySem.W.nsIn K mainGlobals "range" = some none)
    (z_enumerate : PySem.W.nsIn K mainGlobals "enumerate" = some none)
    (z_zip : PySem.W.nsIn K mainGlobals "zip" = some none)
    (z_sum : PySem.W.nsIn K mainGlobals "sum" = some none)
    (z_sorted : PySem.W.nsIn K mainGlobals "sorted" = some none)
    (z_abs : PySem.W.nsIn K mainGlobals "abs" = some none)
    (z_dict : PySem.W.nsIn K mainGlobals "dict" = some none) :
    ∃ fd : FuncData, (∀ (s : Shared) (v : Value), BindsTo s fd ⟨[v], []⟩ [("script", v)]) ∧ ∀ base : Heap, K.In base → base.Ns mainGlobals mg → FnOk l.prog w K mg base (L2.CX l.prog w) 7 fa fd ["script"] (spLaw K) := by
  have e := hfa.symm.trans (PySem.W.mg_of X G a44)
  cases e
  have B : NoB mg := ⟨PySem.W.mg_none_of X G z_len, PySem.W.mg_none_of X G z_max, PySem.W.mg_none_of X G z_min, PySem.W.mg_none_of X G z_list, PySem.W.mg_none_of X G z_tuple, PySem.W.mg_none_of X G z_all, PySem.W.mg_none_of X G z_any, PySem.W.mg_none_of X G z_isinstance, PySem.W.mg_none_of X G z_int, PySem.W.mg_none_of X G z_bool, PySem.W.mg_none_of X G z_str, PySem.W.mg_none_of X G z_range, PySem.W.mg_none_of X G z_enumerate, PySem.W.mg_none_of X G z_zip, PySem.W.mg_none_of X G z_sum, PySem.W.mg_none_of X G z_sorted, PySem.W.mg_none_of X G z_abs, PySem.W.mg_none_of X G z_dict⟩
  have T : Txt K mg := ⟨⟨_, PySem.W.mg_of X G g_ANSWERED⟩, gtup4 (PySem.W.mg_of X G g_FATES) gl_FATES, gtup3 (PySem.W.mg_of X G g_KINDS) gl_KINDS, ⟨_, PySem.W.mg_of X G g_LONGEST⟩⟩
  have X_InvalidFates : Exc8 K mg "InvalidFates" C_InvalidFates := ⟨PySem.W.mg_of X G e_InvalidFates, ei_InvalidFates, ek_InvalidFates, eb_InvalidFates, et_InvalidFates⟩
  have X_InvalidWay : Exc8 K mg "InvalidWay" C_InvalidWay := ⟨PySem.W.mg_of X G e_InvalidWay, ei_InvalidWay, ek_InvalidWay, eb_InvalidWay, et_InvalidWay⟩
  have X_InvalidWire : Exc8 K mg "InvalidWire" C_InvalidWire := ⟨PySem.W.mg_of X G e_InvalidWire, ei_InvalidWire, ek_InvalidWire, eb_InvalidWire, et_InvalidWire⟩
  have F0 := fun_mk (st := s__law_draw) l0 c0 k0
  have B0 := F0.binds (ps := ["script", "town", "many"]) fun _ _ _ _ _ _ us hl => match us, hl with | [_, _, _], _ => rfl
  have F1 := fun_mk (st := s__law_let) l1 c1 k1
  have B1 := F1.binds (ps := ["left"]) fun _ _ _ _ _ _ us hl => match us, hl with | [_], _ => rfl
  have F2 := fun_mk (st := s__law_pick) l2 c2 k2
  have B2 := F2.binds (ps := ["script", "town", "some"]) fun _ _ _ _ _ _ us hl => match us, hl with | [_, _, _], _ => rfl
  have F3 := fun_mk (st := s__law_rest) l3 c3 k3
  have B3 := F3.binds (ps := ["wire", "left", "fate"]) fun _ _ _ _ _ _ us hl => match us, hl with | [_, _, _], _ => rfl
  have F4 := fun_mk (st := s__law_fates) l4 c4 k4
  have B4 := F4.binds (ps := ["script", "town", "wire", "most"]) fun _ _ _ _ _ _ us hl => match us, hl with | [_, _, _, _], _ => rfl
  have F5 := fun_mk (st := s__law_both) l5 c5 k5
  have B5 := F5.binds (ps := []) fun _ _ _ _ _ _ us hl => match us, hl with | [], _ => rfl
  have F6 := fun_mk (st := s__law_begin) l6 c6 k6
  have B6 := F6.binds (ps := ["wire"]) fun _ _ _ _ _ _ us hl => match us, hl with | [_], _ => rfl
  have F7 := fun_mk (st := s__law_copy) l7 c7 k7
  have B7 := F7.binds (ps := ["state"]) fun _ _ _ _ _ _ us hl => match us, hl with | [_], _ => rfl
  have F8 := fun_mk (st := s__law_get) l8 c8 k8
  have B8 := F8.binds (ps := ["way", "receiver", "letter"]) fun _ _ _ _ _ _ us hl => match us, hl with | [_, _, _], _ => rfl
  have F9 := fun_mk (st := s__law_hear) l9 c9 k9
  have B9 := F9.binds (ps := ["way", "sender", "answer"]) fun _ _ _ _ _ _ us hl => match us, hl with | [_, _, _], _ => rfl
  have F10 := fun_mk (st := s__law_send) l10 c10 k10
  have B10 := F10.binds (ps := ["way", "sender"]) fun _ _ _ _ _ _ us hl => match us, hl with | [_, _], _ => rfl
  have F11 := fun_mk (st := s__law_tick) l11 c11 k11
  have B11 := F11.binds (ps := ["way", "old", "fate"]) fun _ _ _ _ _ _ us hl => match us, hl with | [_, _, _], _ => rfl
  have F12 := fun_mk (st := s__law_play) l12 c12 k12
  have B12 := F12.binds (ps := ["wire", "way", "fates"]) fun _ _ _ _ _ _ us hl => match us, hl with | [_, _, _], _ => rfl
  have F13 := fun_mk (st := s__law_way) l13 c13 k13
  have B13 := F13.binds (ps := ["script", "town"]) fun _ _ _ _ _ _ us hl => match us, hl with | [_, _], _ => rfl
  have F14 := fun_mk (st := s__law_wire) l14 c14 k14
  have B14 := F14.binds (ps := ["script", "town"]) fun _ _ _ _ _ _ us hl => match us, hl with | [_, _], _ => rfl
  have F15 := fun_mk (st := s_fates_at) l15 c15 k15
  have B15 := F15.binds (ps := ["left"]) fun _ _ _ _ _ _ us hl => match us, hl with | [_], _ => rfl
  have F16 := fun_mk (st := s_rest_behind) l16 c16 k16
  have B16 := F16.binds (ps := ["wire", "left", "fate"]) fun _ _ _ _ _ _ us hl => match us, hl with | [_, _, _], _ => rfl
  have F17 := fun_mk (st := s_are_fates_of) l17 c17 k17
  have B17 := F17.binds (ps := ["wire", "value"]) fun _ _ _ _ _ _ us hl => match us, hl with | [_, _], _ => rfl
  have F18 := fun_mk (st := s_need_fates) l18 c18 k18
  have B18 := F18.binds (ps := ["wire", "value"]) fun _ _ _ _ _ _ us hl => match us, hl with | [_, _], _ => rfl
  have F19 := fun_mk (st := s_is_int) l19 c19 k19
  have B19 := F19.binds (ps := ["value", "least", "most"]) fun _ _ _ _ _ _ us hl => match us, hl with | [_, _, _], _ => rfl
  have F20 := fun_mk (st := s_is_kind) l20 c20 k20
  have B20 := F20.binds (ps := ["value"]) fun _ _ _ _ _ _ us hl => match us, hl with | [_], _ => rfl
  have F21 := fun_mk (st := s_is_way) l21 c21 k21
  have B21 := F21.binds (ps := ["candidate"]) fun _ _ _ _ _ _ us hl => match us, hl with | [_], _ => rfl
  have F22 := fun_mk (st := s_is_wire) l22 c22 k22
  have B22 := F22.binds (ps := ["candidate"]) fun _ _ _ _ _ _ us hl => match us, hl with | [_], _ => rfl
  have F23 := fun_mk (st := s_need_wire) l23 c23 k23
  have B23 := F23.binds (ps := ["value"]) fun _ _ _ _ _ _ us hl => match us, hl with | [_], _ => rfl
  have F24 := fun_mk (st := s_need_way) l24 c24 k24
  have B24 := F24.binds (ps := ["wire", "way"]) fun _ _ _ _ _ _ us hl => match us, hl with | [_, _], _ => rfl
  have F25 := fun_mk (st := s_need_run) l25 c25 k25
  have B25 := F25.binds (ps := ["wire", "way", "fates"]) fun _ _ _ _ _ _ us hl => match us, hl with | [_, _, _], _ => rfl
  have F26 := fun_mk (st := s_sender_of) l26 c26 k26
  have B26 := F26.binds (ps := ["way"]) fun _ _ _ _ _ _ us hl => match us, hl with | [_], _ => rfl
  have F27 := fun_mk (st := s_begun) l27 c27 k27
  have B27 := F27.binds (ps := ["wire", "way"]) fun _ _ _ _ _ _ us hl => match us, hl with | [_, _], _ => rfl
  have F28 := fun_mk (st := s_gets_back) l28 c28 k28
  have B28 := F28.binds (ps := ["way", "receiver", "letter"]) fun _ _ _ _ _ _ us hl => match us, hl with | [_, _, _], _ => rfl
  have F29 := fun_mk (st := s_gets_own) l29 c29 k29
  have B29 := F29.binds (ps := ["way", "receiver", "letter"]) fun _ _ _ _ _ _ us hl => match us, hl with | [_, _, _], _ => rfl
  have F30 := fun_mk (st := s_got) l30 c30 k30
  have B30 := F30.binds (ps := ["way", "receiver", "letter"]) fun _ _ _ _ _ _ us hl => match us, hl with | [_, _, _], _ => rfl
  have F31 := fun_mk (st := s_hears_back) l31 c31 k31
  have B31 := F31.binds (ps := ["way", "sender", "number"]) fun _ _ _ _ _ _ us hl => match us, hl with | [_, _, _], _ => rfl
  have F32 := fun_mk (st := s_hears_own) l32 c32 k32
  have B32 := F32.binds (ps := ["way", "sender", "number"]) fun _ _ _ _ _ _ us hl => match us, hl with | [_, _, _], _ => rfl
  have F33 := fun_mk (st := s_heard) l33 c33 k33
  have B33 := F33.binds (ps := ["way", "sender", "number"]) fun _ _ _ _ _ _ us hl => match us, hl with | [_, _, _], _ => rfl
  have F34 := fun_mk (st := s_is_again) l34 c34 k34
  have B34 := F34.binds (ps := ["way", "sender"]) fun _ _ _ _ _ _ us hl => match us, hl with | [_, _], _ => rfl
  have F35 := fun_mk (st := s_sends_back) l35 c35 k35
  have B35 := F35.binds (ps := ["way", "sender"]) fun _ _ _ _ _ _ us hl => match us, hl with | [_, _], _ => rfl
  have F36 := fun_mk (st := s_sends_own) l36 c36 k36
  have B36 := F36.binds (ps := ["way", "sender"]) fun _ _ _ _ _ _ us hl => match us, hl with | [_, _], _ => rfl
  have F37 := fun_mk (st := s_sent_by) l37 c37 k37
  have B37 := F37.binds (ps := ["way", "sender"]) fun _ _ _ _ _ _ us hl => match us, hl with | [_, _], _ => rfl
  have F38 := fun_mk (st := s_moved) l38 c38 k38
  have B38 := F38.binds (ps := ["value", "many"]) fun _ _ _ _ _ _ us hl => match us, hl with | [_, _], _ => rfl
  have F39 := fun_mk (st := s_shifted) l39 c39 k39
  have B39 := F39.binds (ps := ["way", "place", "many", "sender"]) fun _ _ _ _ _ _ us hl => match us, hl with | [_, _, _, _], _ => rfl
  have F40 := fun_mk (st := s_tick) l40 c40 k40
  have B40 := F40.binds (ps := ["wire", "way", "place", "fate"]) fun _ _ _ _ _ _ us hl => match us, hl with | [_, _, _, _], _ => rfl
  have F41 := fun_mk (st := s_run) l41 c41 k41
  have B41 := F41.binds (ps := ["wire", "way", "fates"]) fun _ _ _ _ _ _ us hl => match us, hl with | [_, _, _], _ => rfl
  have F42 := fun_mk (st := s_given_along) l42 c42 k42
  have B42 := F42.binds (ps := ["wire", "way", "fates"]) fun _ _ _ _ _ _ us hl => match us, hl with | [_, _, _], _ => rfl
  have F43 := fun_mk (st := s_seen_along) l43 c43 k43
  have B43 := F43.binds (ps := ["wire", "way", "fates"]) fun _ _ _ _ _ _ us hl => match us, hl with | [_, _, _], _ => rfl
  have F44 := fun_mk (st := s_law) l44 c44 k44
  refine ⟨PySem.W.fnOf "law" "law" (defArgs s_law) (defBody s_law) (defScope s_law) .none kV44 dc44 pm44 an44 cd44 ct44, fun s v => .of_eq rfl, fun base _ _ => ?_⟩
  have h__law_draw : Def8 l.prog w K mg base 1 "_law_draw" ["script", "town", "many"] g__law_draw := def_mk (Fn8.townG (f__law_draw F0 B T)) (PySem.W.mg_of X G a0) k0 B0
  have h__law_let : Def8 l.prog w K mg base 1 "_law_let" ["left"] g__law_let := def_mk (Fn8.pureG (f__law_let F1 B T)) (PySem.W.mg_of X G a1) k1 B1
  have h__law_pick : Def8 l.prog w K mg base 2 "_law_pick" ["script", "town", "some"] g__law_pick := def_mk (Fn8.townG (f__law_pick F2 B T h__law_draw)) (PySem.W.mg_of X G a2) k2 B2
  have h__law_rest : Def8 l.prog w K mg base 1 "_law_rest" ["wire", "left", "fate"] g__law_rest := def_mk (Fn8.pureG (f__law_rest F3 B T)) (PySem.W.mg_of X G a3) k3 B3
  have h__law_fates : Def8 l.prog w K mg base 3 "_law_fates" ["script", "town", "wire", "most"] g__law_fates := def_mk (Fn8.townG (f__law_fates F4 B T h__law_draw h__law_let h__law_pick h__law_rest)) (PySem.W.mg_of X G a4) k4 B4
  have h__law_both : Def8 l.prog w K mg base 1 "_law_both" [] g__law_both := def_mk (id (f__law_both F5 B T)) (PySem.W.mg_of X G a5) k5 B5
  have h__law_begin : Def8 l.prog w K mg base 2 "_law_begin" ["wire"] g__law_begin := def_mk (id (f__law_begin F6 B T h__law_both)) (PySem.W.mg_of X G a6) k6 B6
  have h__law_copy : Def8 l.prog w K mg base 1 "_law_copy" ["state"] g__law_copy := def_mk (id (f__law_copy F7 B T)) (PySem.W.mg_of X G a7) k7 B7
  have h__law_get : Def8 l.prog w K mg base 1 "_law_get" ["way", "receiver", "letter"] g__law_get := def_mk (id (f__law_get F8 B T)) (PySem.W.mg_of X G a8) k8 B8
  have h__law_hear : Def8 l.prog w K mg base 1 "_law_hear" ["way", "sender", "answer"] g__law_hear := def_mk (id (f__law_hear F9 B T)) (PySem.W.mg_of X G a9) k9 B9
  have h__law_send : Def8 l.prog w K mg base 1 "_law_send" ["way", "sender"] g__law_send := def_mk (id (f__law_send F10 B T)) (PySem.W.mg_of X G a10) k10 B10
  have h__law_tick : Def8 l.prog w K mg base 2 "_law_tick" ["way", "old", "fate"] g__law_tick := def_mk (id (f__law_tick F11 B T h__law_copy h__law_get h__law_hear h__law_send)) (PySem.W.mg_of X G a11) k11 B11
  have h__law_play : Def8 l.prog w K mg base 3 "_law_play" ["wire", "way", "fates"] g__law_play := def_mk (Fn8.pureGd (f__law_play F12 B T h__law_begin h__law_tick)) (PySem.W.mg_of X G a12) k12 B12
  have h__law_way : Def8 l.prog w K mg base 3 "_law_way" ["script", "town"] g__law_way := def_mk (Fn8.townG (f__law_way F13 B T h__law_draw h__law_pick)) (PySem.W.mg_of X G a13) k13 B13
  have h__law_wire : Def8 l.prog w K mg base 3 "_law_wire" ["script", "town"] g__law_wire := def_mk (Fn8.townG (f__law_wire F14 B T h__law_draw h__law_pick)) (PySem.W.mg_of X G a14) k14 B14
  have h_fates_at : Def8 l.prog w K mg base 1 "fates_at" ["left"] g_fates_at := def_mk (Fn8.pureG (f_fates_at F15 B T)) (PySem.W.mg_of X G a15) k15 B15
  have h_rest_behind : Def8 l.prog w K mg base 1 "rest_behind" ["wire", "left", "fate"] g_rest_behind := def_mk (Fn8.pureG (f_rest_behind F16 B T)) (PySem.W.mg_of X G a16) k16 B16
  have h_are_fates_of : Def8 l.prog w K mg base 2 "are_fates_of" ["wire", "value"] g_are_fates_of := def_mk (Fn8.pureG (f_are_fates_of F17 B T h_fates_at h_rest_behind)) (PySem.W.mg_of X G a17) k17 B17
  have h_need_fates : Def8 l.prog w K mg base 3 "need_fates" ["wire", "value"] g_need_fates := def_mk (Fn8.pureG (f_need_fates F18 B T h_are_fates_of X_InvalidFates)) (PySem.W.mg_of X G a18) k18 B18
  have h_is_int : Def8 l.prog w K mg base 1 "is_int" ["value", "least", "most"] g_is_int := def_mk (Fn8.pureG (f_is_int F19 B T)) (PySem.W.mg_of X G a19) k19 B19
  have h_is_kind : Def8 l.prog w K mg base 1 "is_kind" ["value"] g_is_kind := def_mk (Fn8.pureG (f_is_kind F20 B T)) (PySem.W.mg_of X G a20) k20 B20
  have h_is_way : Def8 l.prog w K mg base 2 "is_way" ["candidate"] g_is_way := def_mk (Fn8.pureG (f_is_way F21 B T h_is_int h_is_kind)) (PySem.W.mg_of X G a21) k21 B21
  have h_is_wire : Def8 l.prog w K mg base 2 "is_wire" ["candidate"] g_is_wire := def_mk (Fn8.pureG (f_is_wire F22 B T h_is_int)) (PySem.W.mg_of X G a22) k22 B22
  have h_need_wire : Def8 l.prog w K mg base 3 "need_wire" ["value"] g_need_wire := def_mk (Fn8.pureG (f_need_wire F23 B T h_is_wire X_InvalidWire)) (PySem.W.mg_of X G a23) k23 B23
  have h_need_way : Def8 l.prog w K mg base 4 "need_way" ["wire", "way"] g_need_way := def_mk (Fn8.pureG (f_need_way F24 B T h_is_way h_need_wire X_InvalidWay)) (PySem.W.mg_of X G a24) k24 B24
  have h_need_run : Def8 l.prog w K mg base 5 "need_run" ["wire", "way", "fates"] g_need_run := def_mk (Fn8.pureG (f_need_run F25 B T h_need_fates h_need_way)) (PySem.W.mg_of X G a25) k25 B25
  have h_sender_of : Def8 l.prog w K mg base 1 "sender_of" ["way"] g_sender_of := def_mk (Fn8.pureG (f_sender_of F26 B T)) (PySem.W.mg_of X G a26) k26 B26
  have h_begun : Def8 l.prog w K mg base 2 "begun" ["wire", "way"] g_begun := def_mk (Fn8.pureG (f_begun F27 B T h_sender_of)) (PySem.W.mg_of X G a27) k27 B27
  have h_gets_back : Def8 l.prog w K mg base 1 "gets_back" ["way", "receiver", "letter"] g_gets_back := def_mk (Fn8.pureG (f_gets_back F28 B T)) (PySem.W.mg_of X G a28) k28 B28
  have h_gets_own : Def8 l.prog w K mg base 1 "gets_own" ["way", "receiver", "letter"] g_gets_own := def_mk (Fn8.pureG (f_gets_own F29 B T)) (PySem.W.mg_of X G a29) k29 B29
  have h_got : Def8 l.prog w K mg base 2 "got" ["way", "receiver", "letter"] g_got := def_mk (Fn8.pureG (f_got F30 B T h_gets_back h_gets_own)) (PySem.W.mg_of X G a30) k30 B30
  have h_hears_back : Def8 l.prog w K mg base 1 "hears_back" ["way", "sender", "number"] g_hears_back := def_mk (Fn8.pureG (f_hears_back F31 B T)) (PySem.W.mg_of X G a31) k31 B31
  have h_hears_own : Def8 l.prog w K mg base 1 "hears_own" ["way", "sender", "number"] g_hears_own := def_mk (Fn8.pureG (f_hears_own F32 B T)) (PySem.W.mg_of X G a32) k32 B32
  have h_heard : Def8 l.prog w K mg base 2 "heard" ["way", "sender", "number"] g_heard := def_mk (Fn8.pureG (f_heard F33 B T h_hears_back h_hears_own)) (PySem.W.mg_of X G a33) k33 B33
  have h_is_again : Def8 l.prog w K mg base 1 "is_again" ["way", "sender"] g_is_again := def_mk (Fn8.pureG (f_is_again F34 B T)) (PySem.W.mg_of X G a34) k34 B34
  have h_sends_back : Def8 l.prog w K mg base 1 "sends_back" ["way", "sender"] g_sends_back := def_mk (Fn8.pureG (f_sends_back F35 B T)) (PySem.W.mg_of X G a35) k35 B35
  have h_sends_own : Def8 l.prog w K mg base 1 "sends_own" ["way", "sender"] g_sends_own := def_mk (Fn8.pureG (f_sends_own F36 B T)) (PySem.W.mg_of X G a36) k36 B36
  have h_sent_by : Def8 l.prog w K mg base 2 "sent_by" ["way", "sender"] g_sent_by := def_mk (Fn8.pureG (f_sent_by F37 B T h_sends_back h_sends_own)) (PySem.W.mg_of X G a37) k37 B37
  have h_moved : Def8 l.prog w K mg base 1 "moved" ["value", "many"] g_moved := def_mk (Fn8.pureG (f_moved F38 B T)) (PySem.W.mg_of X G a38) k38 B38
  have h_shifted : Def8 l.prog w K mg base 2 "shifted" ["way", "place", "many", "sender"] g_shifted := def_mk (Fn8.pureG (f_shifted F39 B T h_moved)) (PySem.W.mg_of X G a39) k39 B39
  have h_tick : Def8 l.prog w K mg base 3 "tick" ["wire", "way", "place", "fate"] g_tick := def_mk (Fn8.pureG (f_tick F40 B T h_got h_heard h_is_again h_sent_by h_shifted)) (PySem.W.mg_of X G a40) k40 B40
  have h_run : Def8 l.prog w K mg base 4 "run" ["wire", "way", "fates"] g_run := def_mk (Fn8.pureG (f_run F41 B T h_begun h_tick)) (PySem.W.mg_of X G a41) k41 B41
  have h_given_along : Def8 l.prog w K mg base 6 "given_along" ["wire", "way", "fates"] g_given_along := def_mk (Fn8.pureG (f_given_along F42 B T h_need_run h_run)) (PySem.W.mg_of X G a42) k42 B42
  have h_seen_along : Def8 l.prog w K mg base 6 "seen_along" ["wire", "way", "fates"] g_seen_along := def_mk (Fn8.pureG (f_seen_along F43 B T h_need_run h_run)) (PySem.W.mg_of X G a43) k43 B43
  exact law_fn (f_law F44 B T h__law_fates h__law_play h__law_way h__law_wire h_given_along h_seen_along) law_main
end R
open PySem PySem.W PyProof.Rows in
set_option maxRecDepth 100000 in
set_option maxHeartbeats 0 in
theorem PySem.Challenge.cw_resendways_k05_whole_own_holds : PySem.Challenge.rw_resendways_k05_whole_own.Holds := by
  w_on; o_law; k_head; (case hw => w_witness2)
  k_fill
  refine HI.walk8 (l := PySem.Challenge.rw_resendways_k05_whole_own) (k := 7) (by decide) rfl rfl (fun w h Y => PySem.W.kIn_of Y) ?F
  case F =>
    intro w mg fa h KX G hmg
    refine' R.all_mk KX G hmg ?a0 ?l0 ?c0 ?k0 ?a1 ?l1 ?c1 ?k1 ?a2 ?l2 ?c2 ?k2 ?a3 ?l3 ?c3 ?k3 ?a4 ?l4 ?c4 ?k4 ?a5 ?l5 ?c5 ?k5 ?a6 ?l6 ?c6 ?k6 ?a7 ?l7 ?c7 ?k7 ?a8 ?l8 ?c8 ?k8 ?a9 ?l9 ?c9 ?k9 ?a10 ?l10 ?c10 ?k10 ?a11 ?l11 ?c11 ?k11 ?a12 ?l12 ?c12 ?k12 ?a13 ?l13 ?c13 ?k13 ?a14 ?l14 ?c14 ?k14 ?a15 ?l15 ?c15 ?k15 ?a16 ?l16 ?c16 ?k16 ?a17 ?l17 ?c17 ?k17 ?a18 ?l18 ?c18 ?k18 ?a19 ?l19 ?c19 ?k19 ?a20 ?l20 ?c20 ?k20 ?a21 ?l21 ?c21 ?k21 ?a22 ?l22 ?c22 ?k22 ?a23 ?l23 ?c23 ?k23 ?a24 ?l24 ?c24 ?k24 ?a25 ?l25 ?c25 ?k25 ?a26 ?l26 ?c26 ?k26 ?a27 ?l27 ?c27 ?k27 ?a28 ?l28 ?c28 ?k28 ?a29 ?l29 ?c29 ?k29 ?a30 ?l30 ?c30 ?k30 ?a31 ?l31 ?c31 ?k31 ?a32 ?l32 ?c32 ?k32 ?a33 ?l33 ?c33 ?k33 ?a34 ?l34 ?c34 ?k34 ?a35 ?l35 ?c35 ?k35 ?a36 ?l36 ?c36 ?k36 ?a37 ?l37 ?c37 ?k37 ?a38 ?l38 ?c38 ?k38 ?a39 ?l39 ?c39 ?k39 ?a40 ?l40 ?c40 ?k40 ?a41 ?l41 ?c41 ?k41 ?a42 ?l42 ?c42 ?k42 ?a43 ?l43 ?c43 ?k43 ?a44 ?l44 ?c44 ?k44 ?e_InvalidFates ?ei_InvalidFates ?ek_InvalidFates ?eb_InvalidFates ?et_InvalidFates ?e_InvalidWay ?ei_InvalidWay ?ek_InvalidWay ?eb_InvalidWay ?et_InvalidWay ?e_InvalidWire ?ei_InvalidWire ?ek_InvalidWire ?eb_InvalidWire ?et_InvalidWire ?g_ANSWERED ?g_FATES ?gl_FATES ?g_KINDS ?gl_KINDS ?g_LONGEST ?z_len ?z_max ?z_min ?z_list ?z_tuple ?z_all ?z_any ?z_isinstance ?z_int ?z_bool ?z_str ?z_range ?z_enumerate ?z_zip ?z_sum ?z_sorted ?z_abs ?z_dict
    (case a0 => k_is)
    (case l0 => k_is)
    (case c0 => k_is)
    (case k0 => k_is)
    (case a1 => k_is)
    (case l1 => k_is)
    (case c1 => k_is)
    (case k1 => k_is)
    (case a2 => k_is)
    (case l2 => k_is)
    (case c2 => k_is)
    (case k2 => k_is)
    (case a3 => k_is)
    (case l3 => k_is)
    (case c3 => k_is)
    (case k3 => k_is)
    (case a4 => k_is)
    (case l4 => k_is)
    (case c4 => k_is)
    (case k4 => k_is)
    (case a5 => k_is)
    (case l5 => k_is)
    (case c5 => k_is)
    (case k5 => k_is)
    (case a6 => k_is)
    (case l6 => k_is)
    (case c6 => k_is)
    (case k6 => k_is)
    (case a7 => k_is)
    (case l7 => k_is)
    (case c7 => k_is)
    (case k7 => k_is)
    (case a8 => k_is)
    (case l8 => k_is)
    (case c8 => k_is)
    (case k8 => k_is)
    (case a9 => k_is)
    (case l9 => k_is)
    (case c9 => k_is)
    (case k9 => k_is)
    (case a10 => k_is)
    (case l10 => k_is)
    (case c10 => k_is)
    (case k10 => k_is)
    (case a11 => k_is)
    (case l11 => k_is)
    (case c11 => k_is)
    (case k11 => k_is)
    (case a12 => k_is)
    (case l12 => k_is)
    (case c12 => k_is)
    (case k12 => k_is)
    (case a13 => k_is)
    (case l13 => k_is)
    (case c13 => k_is)
    (case k13 => k_is)
    (case a14 => k_is)
    (case l14 => k_is)
    (case c14 => k_is)
    (case k14 => k_is)
    (case a15 => k_is)
    (case l15 => k_is)
    (case c15 => k_is)
    (case k15 => k_is)
    (case a16 => k_is)
    (case l16 => k_is)
    (case c16 => k_is)
    (case k16 => k_is)
    (case a17 => k_is)
    (case l17 => k_is)
    (case c17 => k_is)
    (case k17 => k_is)
    (case a18 => k_is)
    (case l18 => k_is)
    (case c18 => k_is)
    (case k18 => k_is)
    (case a19 => k_is)
    (case l19 => k_is)
    (case c19 => k_is)
    (case k19 => k_is)
    (case a20 => k_is)
    (case l20 => k_is)
    (case c20 => k_is)
    (case k20 => k_is)
    (case a21 => k_is)
    (case l21 => k_is)
    (case c21 => k_is)
    (case k21 => k_is)
    (case a22 => k_is)
    (case l22 => k_is)
    (case c22 => k_is)
    (case k22 => k_is)
    (case a23 => k_is)
    (case l23 => k_is)
    (case c23 => k_is)
    (case k23 => k_is)
    (case a24 => k_is)
    (case l24 => k_is)
    (case c24 => k_is)
    (case k24 => k_is)
    (case a25 => k_is)
    (case l25 => k_is)
    (case c25 => k_is)
    (case k25 => k_is)
    (case a26 => k_is)
    (case l26 => k_is)
    (case c26 => k_is)
    (case k26 => k_is)
    (case a27 => k_is)
    (case l27 => k_is)
    (case c27 => k_is)
    (case k27 => k_is)
    (case a28 => k_is)
    (case l28 => k_is)
    (case c28 => k_is)
    (case k28 => k_is)
    (case a29 => k_is)
    (case l29 => k_is)
    (case c29 => k_is)
    (case k29 => k_is)
    (case a30 => k_is)
    (case l30 => k_is)
    (case c30 => k_is)
    (case k30 => k_is)
    (case a31 => k_is)
    (case l31 => k_is)
    (case c31 => k_is)
    (case k31 => k_is)
    (case a32 => k_is)
    (case l32 => k_is)
    (case c32 => k_is)
    (case k32 => k_is)
    (case a33 => k_is)
    (case l33 => k_is)
    (case c33 => k_is)
    (case k33 => k_is)
    (case a34 => k_is)
    (case l34 => k_is)
    (case c34 => k_is)
    (case k34 => k_is)
    (case a35 => k_is)
    (case l35 => k_is)
    (case c35 => k_is)
    (case k35 => k_is)
    (case a36 => k_is)
    (case l36 => k_is)
    (case c36 => k_is)
    (case k36 => k_is)
    (case a37 => k_is)
    (case l37 => k_is)
    (case c37 => k_is)
    (case k37 => k_is)
    (case a38 => k_is)
    (case l38 => k_is)
    (case c38 => k_is)
    (case k38 => k_is)
    (case a39 => k_is)
    (case l39 => k_is)
    (case c39 => k_is)
    (case k39 => k_is)
    (case a40 => k_is)
    (case l40 => k_is)
    (case c40 => k_is)
    (case k40 => k_is)
    (case a41 => k_is)
    (case l41 => k_is)
    (case c41 => k_is)
    (case k41 => k_is)
    (case a42 => k_is)
    (case l42 => k_is)
    (case c42 => k_is)
    (case k42 => k_is)
    (case a43 => k_is)
    (case l43 => k_is)
    (case c43 => k_is)
    (case k43 => k_is)
    (case a44 => k_is)
    (case l44 => k_is)
    (case c44 => k_is)
    (case k44 => k_is)
    (case e_InvalidFates => k_is)
    (case ei_InvalidFates => k_exc)
    (case ek_InvalidFates => k_is)
    (case eb_InvalidFates => k_is)
    (case et_InvalidFates => k_is)
    (case e_InvalidWay => k_is)
    (case ei_InvalidWay => k_exc)
    (case ek_InvalidWay => k_is)
    (case eb_InvalidWay => k_is)
    (case et_InvalidWay => k_is)
    (case e_InvalidWire => k_is)
    (case ei_InvalidWire => k_exc)
    (case ek_InvalidWire => k_is)
    (case eb_InvalidWire => k_is)
    (case et_InvalidWire => k_is)
    (case g_ANSWERED => k_is)
    (case g_FATES => k_is)
    (case gl_FATES => k_is)
    (case g_KINDS => k_is)
    (case gl_KINDS => k_is)
    (case g_LONGEST => k_is)
    (case z_len => k_is)
    (case z_max => k_is)
    (case z_min => k_is)
    (case z_list => k_is)
    (case z_tuple => k_is)
    (case z_all => k_is)
    (case z_any => k_is)
    (case z_isinstance => k_is)
    (case z_int => k_is)
    (case z_bool => k_is)
    (case z_str => k_is)
    (case z_range => k_is)
    (case z_enumerate => k_is)
    (case z_zip => k_is)
    (case z_sum => k_is)
    (case z_sorted => k_is)
    (case z_abs => k_is)
    (case z_dict => k_is)
