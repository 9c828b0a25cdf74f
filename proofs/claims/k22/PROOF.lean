import PyProof.Rows.All
import Wide.All
import OpenK.AllK
import Wide.FinOn
import HandS.ForMost
import HandS.Wide
import HandS.Flow
import HandS.Defaults
import HandS.Star
import HandS.SortInts
import HandS.TupAny
import HandS.TupMul
import HandS.Zip
import HandS.MakeKwOnly
import HandS.Property
import KE.KEqDict
import HandS.DictComp
import PySem.Challenge.RW_rotatedlogs_k22_demands_that_rise
set_option Elab.async false
set_option linter.all false
set_option maxRecDepth 100000
set_option maxHeartbeats 4000000
namespace RL
open PySem L2

abbrev Fg := PySem.W.Frag
/-- an object that stays as it is, by what is true of it -/
structure OT where
  holds : Hp → Addr → Prop
  mono : ∀ (S S' : Hp) (a : Addr), Same S S' → holds S a → holds S' a

/-- data: what a value stands for -/
inductive D where
  | non | bl (b : Bool) | int (i : Int) | str (x : Str) | ref (a : Addr) | ty (n : String)
  | tup (xs : List D) | lst (xs : List D) | obj (t : OT)

mutual
def Rep (K : Fg) (S : Hp) : D → V → Prop
  | .non, v => v = .non
  | .bl b, v => v = .bl b
  | .int i, v => v = .int i
  | .str x, v => v = .str x
  | .ref a, v => v = .ref a
  | .ty n, v => v = .ty n
  | .tup ds, v => ∃ a vs, v = .ref a ∧ S a = some (.tup vs) ∧ Reps K S ds vs
  | .lst ds, v => ∃ a vs, v = .ref a ∧ S a = some (.lst vs) ∧ Reps K S ds vs
  | .obj t, v => ∃ a, v = .ref a ∧ t.holds S a
def Reps (K : Fg) (S : Hp) : List D → List V → Prop
  | [], vs => vs = []
  | d :: ds, vs => ∃ v ws, vs = v :: ws ∧ Rep K S d v ∧ Reps K S ds ws
end

theorem sqT_mono {K : Fg} {S S' : Hp} {a : Addr} {xs : List V} (h : Same S S') (q : SqT K S a xs) : SqT K S' a xs := by
  rcases q with (q | ⟨o, q⟩) | q
  · exact .inl (.inl (h _ _ q))
  · exact .inl (.inr ⟨o, h _ _ q⟩)
  · exact .inr q

mutual
theorem Rep.mono {K : Fg} {S S' : Hp} (h : Same S S') : ∀ (d : D) {v : V}, Rep K S d v → Rep K S' d v
  | .non, _, q => q
  | .bl _, _, q => q
  | .int _, _, q => q
  | .str _, _, q => q
  | .ref _, _, q => q
  | .ty _, _, q => q
  | .tup ds, _, q => by
    obtain ⟨a, vs, e, t, r⟩ := (by simpa only [Rep] using q)
    simp only [Rep]
    exact ⟨a, vs, e, h _ _ t, Reps.mono h ds r⟩
  | .lst ds, _, q => by
    obtain ⟨a, vs, e, t, r⟩ := (by simpa only [Rep] using q)
    simp only [Rep]
    exact ⟨a, vs, e, h _ _ t, Reps.mono h ds r⟩
  | .obj t, _, q => by
    obtain ⟨a, e, r⟩ := (by simpa only [Rep] using q)
    simp only [Rep]
    exact ⟨a, e, t.mono _ _ _ h r⟩
theorem Reps.mono {K : Fg} {S S' : Hp} (h : Same S S') : ∀ (ds : List D) {vs : List V}, Reps K S ds vs → Reps K S' ds vs
  | [], _, q => q
  | d :: ds, _, q => by
    obtain ⟨v, ws, e, a, b⟩ := (by simpa only [Reps] using q)
    simp only [Reps]
    exact ⟨v, ws, e, Rep.mono h d a, Reps.mono h ds b⟩
end
section
variable {K : Fg} {S : Hp}
theorem rep_int {i : Int} {v : V} : Rep K S (.int i) v ↔ v = .int i := by simp only [Rep]
theorem rep_bl {b : Bool} {v : V} : Rep K S (.bl b) v ↔ v = .bl b := by simp only [Rep]
theorem rep_str {b : Str} {v : V} : Rep K S (.str b) v ↔ v = .str b := by simp only [Rep]
theorem rep_non {v : V} : Rep K S .non v ↔ v = .non := by simp only [Rep]
theorem rep_ref {a : Addr} {v : V} : Rep K S (.ref a) v ↔ v = .ref a := by simp only [Rep]
theorem rep_tup {ds : List D} {v : V} : Rep K S (.tup ds) v ↔ ∃ a vs, v = .ref a ∧ S a = some (.tup vs) ∧ Reps K S ds vs := by simp only [Rep]
theorem rep_lst {ds : List D} {v : V} : Rep K S (.lst ds) v ↔ ∃ a vs, v = .ref a ∧ S a = some (.lst vs) ∧ Reps K S ds vs := by simp only [Rep]
theorem rep_obj {t : OT} {v : V} : Rep K S (.obj t) v ↔ ∃ a, v = .ref a ∧ t.holds S a := by simp only [Rep]
theorem reps_nil {vs : List V} : Reps K S [] vs ↔ vs = [] := by simp only [Reps]
theorem reps_cons {d : D} {ds : List D} {vs : List V} : Reps K S (d :: ds) vs ↔ ∃ v ws, vs = v :: ws ∧ Rep K S d v ∧ Reps K S ds ws := by simp only [Reps]
theorem Reps.length : ∀ {ds : List D} {vs : List V}, Reps K S ds vs → ds.length = vs.length
  | [], _, q => by rw [reps_nil.mp q]; rfl
  | d :: ds, _, q => by
    obtain ⟨v, ws, rfl, _, r⟩ := reps_cons.mp q
    simp [Reps.length r]
theorem Reps.get : ∀ {ds : List D} {vs : List V} {i : Nat} {d : D}, Reps K S ds vs → ds[i]? = some d → ∃ v, vs[i]? = some v ∧ Rep K S d v
  | [], _, _, _, _, e => by simp at e
  | c :: ds, _, 0, d, q, e => by
    obtain ⟨v, ws, rfl, a, r⟩ := reps_cons.mp q
    simp at e
    subst e
    exact ⟨v, rfl, a⟩
  | c :: ds, _, i + 1, d, q, e => by
    obtain ⟨v, ws, rfl, a, r⟩ := reps_cons.mp q
    simp at e
    obtain ⟨w, e1, e2⟩ := Reps.get r e
    exact ⟨w, by simpa using e1, e2⟩
theorem Reps.back : ∀ {ds : List D} {vs : List V} {i : Nat} {v : V}, Reps K S ds vs → vs[i]? = some v → ∃ d, ds[i]? = some d ∧ Rep K S d v := by
  intro ds vs i v q e
  have hi := (List.getElem?_eq_some_iff.mp e).1
  rw [← q.length] at hi
  obtain ⟨w, e1, e2⟩ := q.get (List.getElem?_eq_getElem hi)
  rw [e] at e1
  cases e1
  exact ⟨_, List.getElem?_eq_getElem hi, e2⟩
theorem Reps.append : ∀ {ds es : List D} {vs ws : List V}, Reps K S ds vs → Reps K S es ws → Reps K S (ds ++ es) (vs ++ ws)
  | [], _, _, _, q, r => by rw [reps_nil.mp q]; exact r
  | d :: ds, _, _, _, q, r => by
    obtain ⟨v, ws, rfl, a, b⟩ := reps_cons.mp q
    exact reps_cons.mpr ⟨v, _, rfl, a, b.append r⟩
theorem Reps.take : ∀ {ds : List D} {vs : List V} (n : Nat), Reps K S ds vs → Reps K S (ds.take n) (vs.take n)
  | _, _, 0, _ => by simp [Reps]
  | [], _, n + 1, q => by rw [reps_nil.mp q]; simp [Reps]
  | d :: ds, _, n + 1, q => by
    obtain ⟨v, ws, rfl, a, b⟩ := reps_cons.mp q
    exact reps_cons.mpr ⟨v, _, rfl, a, b.take n⟩
theorem Reps.drop : ∀ {ds : List D} {vs : List V} (n : Nat), Reps K S ds vs → Reps K S (ds.drop n) (vs.drop n)
  | _, _, 0, q => q
  | [], _, n + 1, q => by rw [reps_nil.mp q]; simp [Reps]
  | d :: ds, _, n + 1, q => by
    obtain ⟨v, ws, rfl, a, b⟩ := reps_cons.mp q
    exact b.drop n
theorem Reps.set {d : D} {v : V} (r : Rep K S d v) : ∀ {ds : List D} {vs : List V} (n : Nat), Reps K S ds vs → Reps K S (ds.set n d) (vs.set n v)
  | [], _, _, q => by rw [reps_nil.mp q]; simp [Reps]
  | c :: ds, _, 0, q => by
    obtain ⟨v', ws, rfl, a, b⟩ := reps_cons.mp q
    exact reps_cons.mpr ⟨v, _, rfl, r, b⟩
  | c :: ds, _, n + 1, q => by
    obtain ⟨v', ws, rfl, a, b⟩ := reps_cons.mp q
    exact reps_cons.mpr ⟨v', _, rfl, a, b.set r n⟩
theorem Reps.one {d : D} {v : V} (r : Rep K S d v) : Reps K S [d] [v] := reps_cons.mpr ⟨v, [], rfl, r, reps_nil.mpr rfl⟩
theorem Reps.ints : ∀ {ns : List Int} {vs : List V}, Reps K S (ns.map D.int) vs ↔ vs = ns.map V.int
  | [], vs => by simp [Reps]
  | n :: ns, vs => by
    rw [List.map_cons, reps_cons, List.map_cons]
    constructor
    · rintro ⟨v, ws, rfl, a, b⟩
      rw [rep_int.mp a, Reps.ints.mp b]
    · rintro rfl
      exact ⟨_, _, rfl, rep_int.mpr rfl, Reps.ints.mpr rfl⟩
theorem Reps.bls : ∀ {ns : List Bool} {vs : List V}, Reps K S (ns.map D.bl) vs ↔ vs = ns.map V.bl
  | [], vs => by simp [Reps]
  | n :: ns, vs => by
    rw [List.map_cons, reps_cons, List.map_cons]
    constructor
    · rintro ⟨v, ws, rfl, a, b⟩
      rw [rep_bl.mp a, Reps.bls.mp b]
    · rintro rfl
      exact ⟨_, _, rfl, rep_bl.mpr rfl, Reps.bls.mpr rfl⟩
theorem Reps.reverse : ∀ {ds : List D} {vs : List V}, Reps K S ds vs → Reps K S ds.reverse vs.reverse
  | [], _, q => by rw [reps_nil.mp q]; simp [Reps]
  | d :: ds, _, q => by
    obtain ⟨v, ws, rfl, a, b⟩ := reps_cons.mp q
    rw [List.reverse_cons, List.reverse_cons]
    exact b.reverse.append (.one a)
end

/-! ### what is changed: the store -/
inductive MO where
  | lst (xs : List D)
  | dK (kvs : List (Key × D))
  | dT (kvs : List (List Key × D))
  | ins (C : Addr) (fs : List (Str × D))
abbrev Mem := List (Addr × MO)
abbrev dm (M : Mem) : List Addr := M.map (·.1)
def RepM (K : Fg) (S : Hp) : MO → HO → Prop
  | .lst ds, o => ∃ vs, o = .lst vs ∧ Reps K S ds vs
  | .dK kvs, o => ∃ vs, o = .dK ((kvs.map (·.1)).zip vs) ∧ Reps K S (kvs.map (·.2)) vs
  | .dT kvs, o => ∃ vs, o = .dT ((kvs.map (·.1)).zip vs) ∧ Reps K S (kvs.map (·.2)) vs
  | .ins C fs, o => ∃ dx vs, o = .ins C dx ((fs.map (·.1)).zip vs) ∧ Reps K S (fs.map (·.2)) vs
theorem RepM.mono {K : Fg} {S S' : Hp} (h : Same S S') : ∀ {m : MO} {o : HO}, RepM K S m o → RepM K S' m o
  | .lst ds, _, ⟨vs, e, r⟩ => ⟨vs, e, r.mono h⟩
  | .dK ds, _, ⟨vs, e, r⟩ => ⟨vs, e, r.mono h⟩
  | .dT ds, _, ⟨vs, e, r⟩ => ⟨vs, e, r.mono h⟩
  | .ins _ _, _, ⟨dx, vs, e, r⟩ => ⟨dx, vs, e, r.mono h⟩

theorem upd_kp {H : Hp} {p a : Addr} {o : HO} (e : upd H p o a = none) : H a = none := by
  by_cases ha : a = p
  · subst ha; rw [upd_same] at e; cases e
  · rw [upd_ne ha] at e; exact e
structure Cfg (K : Fg) (S : Hp) (M : Mem) (H : Hp) : Prop where
  sub : Same S H
  nd : (dm M).Nodup
  mem : ∀ p ∈ M, S p.1 = none ∧ ∃ o, H p.1 = some o ∧ RepM K S p.2 o
structure Step (M : Mem) (S H : Hp) (M' : Mem) (S' H' : Hp) : Prop where
  sub : Same S S'
  frm : ∀ a o, a ∉ dm M → H a = some o → H' a = some o
  new : ∀ a, S a = none → S' a ≠ none → H a = none ∨ a ∈ dm M
  dom : ∀ a ∈ dm M', a ∈ dm M ∨ H a = none
  kp : ∀ a, H' a = none → H a = none
theorem Step.refl {M : Mem} {S H : Hp} : Step M S H M S H := ⟨Same.refl _, fun _ _ _ h => h, fun _ h q => absurd h q, fun _ h => .inl h, fun _ h => h⟩
theorem Step.trans {K : Fg} {M M1 M2 : Mem} {S S1 S2 H H1 H2 : Hp} (a : Step M S H M1 S1 H1) (c : Cfg K S1 M1 H1) (b : Step M1 S1 H1 M2 S2 H2) : Step M S H M2 S2 H2 := by
  refine ⟨a.sub.trans b.sub, fun x o hx e => ?_, fun x n q => ?_, fun x hx => ?_, fun x h => a.kp x (b.kp x h)⟩
  · refine b.frm x o (fun hm => ?_) (a.frm x o hx e)
    rcases a.dom x hm with z | z
    · exact hx z
    · rw [z] at e; cases e
  · by_cases n1 : S1 x = none
    · rcases b.new x n1 q with z | z
      · by_cases hm : x ∈ dm M
        · exact .inr hm
        · refine .inl ?_
          cases e : H x with
          | none => rfl
          | some o => rw [a.frm x o hm e] at z; cases z
      · exact (a.dom x z).symm
    · exact a.new x n n1
  · rcases b.dom x hx with z | z
    · exact a.dom x z
    · by_cases hm : x ∈ dm M
      · exact .inl hm
      · refine .inr ?_
        cases e : H x with
        | none => rfl
        | some o => rw [a.frm x o hm e] at z; cases z

/-- slots -/
abbrev Rho := List (Option D)
structure EnvR (K : Fg) (S : Hp) (σ : L2.St) (ρ : Rho) : Prop where
  len : σ.length = ρ.length
  get : ∀ (i : Nat) (d : D), ρ[i]? = some (some d) → ∃ v, σ[i]? = some (some v) ∧ Rep K S d v
theorem EnvR.mono {K : Fg} {S S' : Hp} {σ : L2.St} {ρ : Rho} (e : EnvR K S σ ρ) (h : Same S S') : EnvR K S' σ ρ :=
  ⟨e.len, fun i d q => let ⟨v, a, b⟩ := e.get i d q; ⟨v, a, b.mono h⟩⟩
theorem EnvR.set {K : Fg} {S : Hp} {σ : L2.St} {ρ : Rho} {d : D} {v : V} (e : EnvR K S σ ρ) (r : Rep K S d v) (i : Nat) : EnvR K S (σ.set i (some v)) (ρ.set i (some d)) := by
  refine ⟨by simp [e.len], fun j c q => ?_⟩
  by_cases hj : i = j
  · subst hj
    by_cases hi : i < ρ.length
    · rw [List.getElem?_set_self hi] at q
      cases q
      exact ⟨v, List.getElem?_set_self (by rw [e.len]; exact hi), r⟩
    · rw [List.getElem?_eq_none_iff.mpr (by simpa using Nat.le_of_not_lt hi)] at q
      cases q
  · rw [List.getElem?_set_ne hj] at q ⊢
    exact e.get j c q
/-- fewer slots known -/
def wk : Rho → Rho → Prop
  | [], [] => True
  | _ :: a, none :: b => wk a b
  | x :: a, some y :: b => x = some y ∧ wk a b
  | _, _ => False
theorem wk_len : ∀ {a b : Rho}, wk a b → a.length = b.length
  | [], [], _ => rfl
  | x :: a, none :: b, h => by simp [wk_len (a := a) (b := b) h]
  | x :: a, some y :: b, h => by simp [wk_len (a := a) (b := b) h.2]
theorem wk_get : ∀ {a b : Rho} {i : Nat} {d : D}, wk a b → b[i]? = some (some d) → a[i]? = some (some d)
  | [], [], _, _, _, e => by simp at e
  | x :: a, none :: b, 0, d, h, e => by simp at e
  | x :: a, none :: b, i + 1, d, h, e => by simpa using wk_get (a := a) (b := b) h (by simpa using e)
  | x :: a, some y :: b, 0, d, h, e => by
    simp at e
    simp [h.1, e]
  | x :: a, some y :: b, i + 1, d, h, e => by simpa using wk_get (a := a) (b := b) h.2 (by simpa using e)
theorem wk_refl : ∀ a : Rho, wk a a
  | [] => trivial
  | none :: a => wk_refl a
  | some x :: a => ⟨rfl, wk_refl a⟩
theorem EnvR.wk {K : Fg} {S : Hp} {σ : L2.St} {ρ ρ' : Rho} (e : EnvR K S σ ρ) (h : wk ρ ρ') : EnvR K S σ ρ' :=
  ⟨e.len.trans (wk_len h), fun i d q => e.get i d (wk_get h q)⟩

/-- what is wanted of a value is met at every outcome that P tells -/
def Res (K : Fg) (M : Mem) (S H : Hp) (Q : VK) (P : D → Mem → Prop) : Prop :=
  ∀ d M' v S' H', P d M' → Step M S H M' S' H' → Cfg K S' M' H' → Rep K S' d v → Q v H'
abbrev Out (d : D) (M : Mem) : D → Mem → Prop := fun d' M' => d' = d ∧ M' = M
theorem Res.after {K : Fg} {M M1 : Mem} {S S1 H H1 : Hp} {Q : VK} {P : D → Mem → Prop} (h : Res K M S H Q P) (s : Step M S H M1 S1 H1) (c : Cfg K S1 M1 H1) : Res K M1 S1 H1 Q P :=
  fun d M' v S' H' p st c' r => h d M' v S' H' p (s.trans c st) c' r
/-- nothing has changed -/
theorem Res.id {K : Fg} {M : Mem} {S H : Hp} {Q : VK} {d : D} {v : V} (h : Res K M S H Q (Out d M)) (c : Cfg K S M H) (r : Rep K S d v) : Q v H :=
  h d M v S H ⟨rfl, rfl⟩ .refl c r
/-- a new object that stays -/
theorem cfg_new {K : Fg} {M : Mem} {S H : Hp} {p : Addr} {o : HO} (c : Cfg K S M H) (h : H p = none) : Cfg K (upd S p o) M (upd H p o) ∧ Step M S H M (upd S p o) (upd H p o) := by
  have hS : S p = none := by
    cases e : S p with
    | none => rfl
    | some u => rw [c.sub p u e] at h; cases h
  have hM : ∀ q ∈ M, q.1 ≠ p := fun q hq e => by
    obtain ⟨_, u, z, _⟩ := c.mem q hq
    rw [e, h] at z; cases z
  have hs : Same S (upd S p o) := fun a u e => by rw [upd_ne (ne_of_none e hS)]; exact e
  refine ⟨⟨fun a u e => ?_, c.nd, fun q hq => ?_⟩, ⟨hs, fun a u _ e => ?_, fun a n q => ?_, fun a ha => .inl ha, fun a e => upd_kp e⟩⟩
  · by_cases ha : a = p
    · subst ha; rw [upd_same] at e ⊢; exact e
    · rw [upd_ne ha] at e ⊢; exact c.sub a u e
  · obtain ⟨n, u, z, r⟩ := c.mem q hq
    exact ⟨by rw [upd_ne (hM q hq)]; exact n, u, by rw [upd_ne (hM q hq)]; exact z, r.mono hs⟩
  · rw [upd_ne (ne_of_none e h)]; exact e
  · by_cases ha : a = p
    · subst ha; exact .inl h
    · rw [upd_ne ha] at q; exact absurd n q
/-- a new object that may change -/
theorem cfg_mut {K : Fg} {M : Mem} {S H : Hp} {p : Addr} {o : HO} {m : MO} (c : Cfg K S M H) (h : H p = none) (r : RepM K S m o) : Cfg K S (M ++ [(p, m)]) (upd H p o) ∧ Step M S H (M ++ [(p, m)]) S (upd H p o) := by
  have hS : S p = none := by
    cases e : S p with
    | none => rfl
    | some u => rw [c.sub p u e] at h; cases h
  have hM : ∀ q ∈ M, q.1 ≠ p := fun q hq e => by
    obtain ⟨_, u, z, _⟩ := c.mem q hq
    rw [e, h] at z; cases z
  refine ⟨⟨fun a u e => ?_, ?_, fun q hq => ?_⟩, ⟨Same.refl _, fun a u _ e => ?_, fun a n q => absurd n q, fun a ha => ?_, fun a e => upd_kp e⟩⟩
  · rw [upd_ne (ne_of_none e hS)]; exact c.sub a u e
  · rw [dm, List.map_append, List.nodup_append]
    refine ⟨c.nd, by simp, fun a ha b hb e => ?_⟩
    obtain ⟨q, hq, rfl⟩ := List.mem_map.mp ha
    have : b = p := by simpa using hb
    exact hM q hq (e.trans this)
  · rcases List.mem_append.mp hq with hq | hq
    · obtain ⟨n, u, z, r⟩ := c.mem q hq
      exact ⟨n, u, by rw [upd_ne (hM q hq)]; exact z, r⟩
    · have : q = (p, m) := by simpa using hq
      subst this
      exact ⟨hS, o, upd_same, r⟩
  · rw [upd_ne (ne_of_none e h)]; exact e
  · rw [dm, List.map_append] at ha
    rcases List.mem_append.mp ha with ha | ha
    · exact .inl ha
    · have : a = p := by simpa using ha
      subst this
      exact .inr h
/-- an object that may change has changed -/
theorem cfg_set {K : Fg} {M : Mem} {S H : Hp} {p : Addr} {o : HO} {m m' : MO} {k : Nat} (c : Cfg K S M H) (hk : M[k]? = some (p, m)) (r : RepM K S m' o) : Cfg K S (M.set k (p, m')) (upd H p o) ∧ Step M S H (M.set k (p, m')) S (upd H p o) := by
  have hlt := (List.getElem?_eq_some_iff.mp hk).1
  have hp : (p, m) ∈ M := List.mem_of_getElem? hk
  obtain ⟨hS, _, _, _⟩ := c.mem _ hp
  have hd : dm (M.set k (p, m')) = dm M := by
    show (M.set k (p, m')).map (·.1) = M.map (·.1)
    rw [List.map_set]
    refine List.ext_getElem? fun j => ?_
    by_cases hj : k = j
    · subst hj
      rw [List.getElem?_set_self (by simpa using hlt), List.getElem?_map, hk]
      rfl
    · rw [List.getElem?_set_ne hj]
  refine ⟨⟨fun a u e => ?_, by rw [hd]; exact c.nd, fun q hq => ?_⟩, ⟨Same.refl _, fun a u hn e => ?_, fun a n q => absurd n q, fun a ha => .inl (by rw [hd] at ha; exact ha), fun a e => upd_kp e⟩⟩
  · rw [upd_ne (fun z => by rw [z, hS] at e; cases e)]; exact c.sub a u e
  · obtain ⟨j, hj⟩ := List.mem_iff_getElem?.mp hq
    by_cases hkj : k = j
    · subst hkj
      rw [List.getElem?_set_self hlt] at hj
      cases hj
      exact ⟨hS, o, upd_same, r⟩
    · rw [List.getElem?_set_ne hkj] at hj
      have hqM := List.mem_of_getElem? hj
      have hne : q.1 ≠ p := fun z => by
        have e1 : (dm M)[j]? = some q.1 := by rw [dm, List.getElem?_map, hj]; rfl
        have e2 : (dm M)[k]? = some q.1 := by rw [dm, List.getElem?_map, hk, z]; rfl
        have hjl := (List.getElem?_eq_some_iff.mp e1)
        have hkl := (List.getElem?_eq_some_iff.mp e2)
        exact hkj ((List.getElem_inj c.nd).mp (hkl.2.trans hjl.2.symm))
      obtain ⟨n, u, z, r⟩ := c.mem q hqM
      exact ⟨n, u, by rw [upd_ne hne]; exact z, r⟩
  · rw [upd_ne (fun z => hn (by rw [z]; exact List.mem_map.mpr ⟨_, hp, rfl⟩))]; exact e
theorem Cfg.at {K : Fg} {M : Mem} {S H : Hp} {p : Addr} {m : MO} {k : Nat} (c : Cfg K S M H) (hk : M[k]? = some (p, m)) : ∃ o, H p = some o ∧ RepM K S m o :=
  (c.mem _ (List.mem_of_getElem? hk)).2
/-- an object that may change stays from now on -/
theorem cfg_frz {K : Fg} {M : Mem} {S H : Hp} {p : Addr} {m : MO} {k : Nat} (c : Cfg K S M H) (hk : M[k]? = some (p, m)) :
    ∃ o, RepM K S m o ∧ H p = some o ∧ Cfg K (upd S p o) (M.eraseIdx k) H ∧ Step M S H (M.eraseIdx k) (upd S p o) H := by
  have hp : (p, m) ∈ M := List.mem_of_getElem? hk
  obtain ⟨hS, o, ho, r⟩ := c.mem _ hp
  have hs : Same S (upd S p o) := fun a u e => by rw [upd_ne (ne_of_none e hS)]; exact e
  have sub : ∀ q ∈ M.eraseIdx k, q ∈ M := fun q hq => List.mem_of_mem_eraseIdx hq
  have hne : ∀ q ∈ M.eraseIdx k, q.1 ≠ p := fun q hq z => by
    obtain ⟨j, hjk, hj⟩ := List.mem_eraseIdx_iff_getElem?.mp hq
    have e1 : (dm M)[j]? = some q.1 := by rw [dm, List.getElem?_map, hj]; rfl
    have e2 : (dm M)[k]? = some q.1 := by rw [dm, List.getElem?_map, hk, z]; rfl
    have hjl := (List.getElem?_eq_some_iff.mp e1)
    have hkl := (List.getElem?_eq_some_iff.mp e2)
    exact hjk ((List.getElem_inj c.nd).mp (hjl.2.trans hkl.2.symm))
  refine ⟨o, r, ho, ⟨fun a u e => ?_, ?_, fun q hq => ?_⟩, ⟨hs, fun a u _ e => e, fun a n q => ?_, fun a ha => .inl ?_, fun _ e => e⟩⟩
  · by_cases ha : a = p
    · subst ha; rw [upd_same] at e; rw [← e]; exact ho
    · rw [upd_ne ha] at e; exact c.sub a u e
  · exact (List.Sublist.map _ (List.eraseIdx_sublist M k)).nodup c.nd
  · obtain ⟨n, u, z, r⟩ := c.mem q (sub q hq)
    exact ⟨by rw [upd_ne (hne q hq)]; exact n, u, z, r.mono hs⟩
  · by_cases ha : a = p
    · subst ha; exact .inr (List.mem_map.mpr ⟨_, hp, rfl⟩)
    · rw [upd_ne ha] at q; exact absurd n q
  · obtain ⟨q, hq, rfl⟩ := List.mem_map.mp ha
    exact List.mem_map.mpr ⟨q, sub q hq, rfl⟩
/-- the store's part that a callee does not see -/
theorem cfg_frame {K : Fg} {M Mr M' : Mem} {S H S' H' : Hp} (c : Cfg K S (M ++ Mr) H) (st : Step M S H M' S' H') (c' : Cfg K S' M' H') : Cfg K S' (M' ++ Mr) H' ∧ Step (M ++ Mr) S H (M' ++ Mr) S' H' := by
  have nd := c.nd
  rw [dm, List.map_append, List.nodup_append] at nd
  obtain ⟨n1, n2, n3⟩ := nd
  have out : ∀ q ∈ Mr, q.1 ∉ dm M := fun q hq hm => n3 q.1 hm q.1 (List.mem_map.mpr ⟨q, hq, rfl⟩) rfl
  have hr : ∀ q ∈ Mr, S q.1 = none ∧ ∃ o, H q.1 = some o ∧ RepM K S q.2 o := fun q hq => c.mem q (List.mem_append_right _ hq)
  refine ⟨⟨c'.sub, ?_, fun q hq => ?_⟩, ⟨st.sub, fun a o ha e => ?_, fun a n q => ?_, fun a ha => ?_, st.kp⟩⟩
  · rw [dm, List.map_append, List.nodup_append]
    refine ⟨c'.nd, n2, fun a ha b hb e => ?_⟩
    obtain ⟨q, hq, rfl⟩ := List.mem_map.mp hb
    subst e
    rcases st.dom _ ha with z | z
    · exact out q hq z
    · obtain ⟨_, o, e, _⟩ := hr q hq
      rw [z] at e; cases e
  · rcases List.mem_append.mp hq with hq | hq
    · exact c'.mem q hq
    · obtain ⟨n, o, e, r⟩ := hr q hq
      refine ⟨?_, o, st.frm _ _ (out q hq) e, r.mono st.sub⟩
      cases z : S' q.1 with
      | none => rfl
      | some u =>
        rcases st.new q.1 n (by rw [z]; simp) with y | y
        · rw [y] at e; cases e
        · exact absurd y (out q hq)
  · exact st.frm a o (fun hm => ha (by rw [dm, List.map_append]; exact List.mem_append_left _ hm)) e
  · rcases st.new a n q with z | z
    · exact .inl z
    · exact .inr (by rw [dm, List.map_append]; exact List.mem_append_left _ z)
  · rw [dm, List.map_append] at ha ⊢
    rcases List.mem_append.mp ha with ha | ha
    · rcases st.dom a ha with z | z
      · exact .inl (List.mem_append_left _ z)
      · exact .inr z
    · exact .inl (List.mem_append_right _ ha)
theorem cfg_part {K : Fg} {M Mr : Mem} {S H : Hp} (c : Cfg K S (M ++ Mr) H) : Cfg K S M H := by
  have nd := c.nd
  rw [dm, List.map_append, List.nodup_append] at nd
  exact ⟨c.sub, nd.1, fun q hq => c.mem q (List.mem_append_left _ hq)⟩
end RL
namespace RL
open PySem L2

/-! ### the weakest readings -/
def tE (X : Cx) (e : Expr) : TE := fun σ H Q => ∀ (pins : List (Addr × Obj)) (s : Shared), Inv X pins σ H s → wpAny (model X.prog X.w) X.A (eval e X.env) (EP X pins σ Q) X.xe s
theorem peW {X : Cx} {e : Expr} : PE X e (tE X e) := ⟨fun pins s _ _ _ I h => h pins s I⟩
theorem tE_of {X : Cx} {e : Expr} {t : TE} {σ : L2.St} {H : Hp} {Q : VK} (h : PE X e t) (q : t σ H Q) : tE X e σ H Q := fun pins s I => h.run pins s σ H Q I q
def tT (X : Cx) (e : Expr) : TT := fun σ H Q => ∀ (pins : List (Addr × Obj)) (s : Shared), Inv X pins σ H s → wpAny (model X.prog X.w) X.A (isTrue e X.env (eval e X.env)) (TP X pins σ Q) X.xe s
theorem ptW {X : Cx} {e : Expr} : PT X e (tT X e) := ⟨fun pins s _ _ _ I h => h pins s I⟩
theorem tT_of {X : Cx} {e : Expr} {t : TT} {σ : L2.St} {H : Hp} {Q : Bool → Hp → Prop} (h : PT X e t) (q : t σ H Q) : tT X e σ H Q := fun pins s I => h.run pins s σ H Q I q
def tW (X : Cx) (e : Expr) : TT := fun σ H Q => ∀ (wh : Sem Value) (pins : List (Addr × Obj)) (s : Shared), Inv X pins σ H s → wpAny (model X.prog X.w) X.A (isTrue e X.env wh) (TP X pins σ Q) X.xe s
theorem pwW {X : Cx} {e : Expr} : PW X e (tW X e) := ⟨fun wh pins s _ _ _ I h => h wh pins s I⟩
theorem tW_of {X : Cx} {e : Expr} {t : TT} {σ : L2.St} {H : Hp} {Q : Bool → Hp → Prop} (h : PW X e t) (q : t σ H Q) : tW X e σ H Q := fun wh pins s I => h.run wh pins s σ H Q I q
def tA (X : Cx) (es : List Expr) : TA := fun σ H Q => ∀ (pos : Pos) (pins : List (Addr × Obj)) (s : Shared), Inv X pins σ H s → wpAny (model X.prog X.w) X.A (spliced (backTo pos (starEach es X.env))) (AP X pins σ Q) X.xe s
theorem paW {X : Cx} {es : List Expr} : PA X es (tA X es) := ⟨fun pos pins s _ _ _ I h => h pos pins s I⟩
theorem tA_of {X : Cx} {es : List Expr} {t : TA} {σ : L2.St} {H : Hp} {Q : List V → Hp → Prop} (h : PA X es t) (q : t σ H Q) : tA X es σ H Q := fun pos pins s I => h.run pos pins s σ H Q I q
def tI (X : Cx) (tg iter : Expr) : TI := fun σ H R => ∀ (pins : List (Addr × Obj)) (s : Shared), Inv X pins σ H s →
  wpAny (model X.prog X.w) X.A (eval iter X.env) (fun v s1 => wpAny (model X.prog X.w) X.A (pyIter v) (PIE X pins σ tg R) X.xe s1) X.xe s
theorem piW {X : Cx} {tg iter : Expr} : PI X tg iter (tI X tg iter) := ⟨fun pins s _ _ _ I h => h pins s I⟩
theorem tI_of {X : Cx} {tg iter : Expr} {t : TI} {σ : L2.St} {H : Hp} {R : It → Hp → Prop} (h : PI X tg iter t) (q : t σ H R) : tI X tg iter σ H R := fun pins s I => h.run pins s σ H R I q
def tSt (X : Cx) (st : Stmt) : TS := fun D σ H => ∀ (pins : List (Addr × Obj)) (s : Shared), Inv X pins σ H s → wpAny (model X.prog X.w) X.A (exec st X.env) (SP X pins D) X.xe s
theorem psW {X : Cx} {st : Stmt} : PS X st (tSt X st) := ⟨fun pins s _ _ _ I h => h pins s I⟩
theorem tSt_of {X : Cx} {st : Stmt} {t : TS} {σ : L2.St} {H : Hp} {D : Ends} (h : PS X st t) (q : t D σ H) : tSt X st D σ H := fun pins s I => h.run pins s σ H D I q
def tSs (X : Cx) (st : List Stmt) : TS := fun D σ H => ∀ (pins : List (Addr × Obj)) (s : Shared), Inv X pins σ H s → wpAny (model X.prog X.w) X.A (execs st X.env) (SP X pins D) X.xe s
theorem pssW {X : Cx} {st : List Stmt} : PSs X st (tSs X st) := ⟨fun pins s _ _ _ I h => h pins s I⟩
theorem tSs_of {X : Cx} {st : List Stmt} {t : TS} {σ : L2.St} {H : Hp} {D : Ends} (h : PSs X st t) (q : t D σ H) : tSs X st D σ H := fun pins s I => h.run pins s σ H D I q

/-! ### the judgements over data -/
/-- e, at the slots ρ and the store M, gives what P tells -/
def EVp (X : Cx) (e : Expr) (ρ : Rho) (M : Mem) (P : D → Mem → Prop) : Prop :=
  ∀ σ S H Q, EnvR X.K S σ ρ → Cfg X.K S M H → Res X.K M S H Q P → tE X e σ H Q
abbrev EV (X : Cx) (e : Expr) (ρ : Rho) (M : Mem) (d : D) (M' : Mem) : Prop := EVp X e ρ M (Out d M')
/-- .. a list made anew -/
def FV (X : Cx) (e : Expr) (ρ : Rho) (M : Mem) (ds : List D) (M' : Mem) : Prop :=
  ∀ σ S H Q, EnvR X.K S σ ρ → Cfg X.K S M H →
    (∀ p vs S' H', Step M S H M' S' H' → Cfg X.K S' M' H' → H p = none → S' p = none → p ∉ dm M' → H' p = some (.lst vs) → Reps X.K S' ds vs → Q (.ref p) H') → tE X e σ H Q
def TV (X : Cx) (e : Expr) (ρ : Rho) (M : Mem) (b : Bool) (M' : Mem) : Prop :=
  ∀ σ S H (Q : Bool → Hp → Prop), EnvR X.K S σ ρ → Cfg X.K S M H → (∀ S' H', Step M S H M' S' H' → Cfg X.K S' M' H' → Q b H') → tT X e σ H Q
def WV (X : Cx) (e : Expr) (ρ : Rho) (M : Mem) (b : Bool) (M' : Mem) : Prop :=
  ∀ σ S H (Q : Bool → Hp → Prop), EnvR X.K S σ ρ → Cfg X.K S M H → (∀ S' H', Step M S H M' S' H' → Cfg X.K S' M' H' → Q b H') → tW X e σ H Q
def AV (X : Cx) (es : List Expr) (ρ : Rho) (M : Mem) (ds : List D) (M' : Mem) : Prop :=
  ∀ σ S H (Q : List V → Hp → Prop), EnvR X.K S σ ρ → Cfg X.K S M H → (∀ vs S' H', Step M S H M' S' H' → Cfg X.K S' M' H' → Reps X.K S' ds vs → Q vs H') → tA X es σ H Q

section
variable {X : Cx} {e a b c : Expr} {es : List Expr} {ρ : Rho} {M M1 M2 M3 : Mem} {d d1 d2 d3 : D} {ds ds2 : List D} {P : D → Mem → Prop} {pos : Pos}

theorem EVp.imp {P' : D → Mem → Prop} (h : EVp X e ρ M P) (i : ∀ d M, P d M → P' d M) : EVp X e ρ M P' :=
  fun σ S H Q hE hC hR => h σ S H Q hE hC fun d M' v S' H' p st c r => hR d M' v S' H' (i _ _ p) st c r
theorem EV.eq {d' : D} {M' : Mem} (h : EV X e ρ M d M1) (e1 : d = d') (e2 : M1 = M') : EV X e ρ M d' M' := by subst e1; subst e2; exact h
theorem TV.eq {k k' : Bool} (h : TV X e ρ M k M1) (e1 : k = k') : TV X e ρ M k' M1 := by subst e1; exact h
theorem FV.eq {ds' : List D} {M' : Mem} (h : FV X e ρ M ds M1) (e1 : ds = ds') (e2 : M1 = M') : FV X e ρ M ds' M' := by subst e1; subst e2; exact h
/-- use of an expression that gives one datum -/
theorem EV.use (h : EV X e ρ M d M1) {σ : L2.St} {S H : Hp} {Q : VK} (hE : EnvR X.K S σ ρ) (hC : Cfg X.K S M H)
    (k : ∀ v S' H', Step M S H M1 S' H' → Cfg X.K S' M1 H' → Rep X.K S' d v → Q v H') : tE X e σ H Q :=
  h σ S H Q hE hC fun d' M' v S' H' ⟨e1, e2⟩ st c r => by subst e1; subst e2; exact k v S' H' st c r
/-- a new list is data -/
theorem ev_fv (h : FV X e ρ M ds M1) : EV X e ρ M (.lst ds) M1 := fun σ S H Q hE hC hR =>
  h σ S H Q hE hC fun p vs S' H' st c n1 n2 n3 e1 r => by
    have hs : Same S' (upd S' p (.lst vs)) := fun a u z => by rw [upd_ne (ne_of_none z n2)]; exact z
    refine hR _ _ (.ref p) (upd S' p (.lst vs)) H' ⟨rfl, rfl⟩ ⟨st.sub.trans hs, st.frm, fun a n q => ?_, st.dom, st.kp⟩ ⟨fun a o z => ?_, c.nd, fun q hq => ?_⟩ (rep_lst.mpr ⟨p, vs, rfl, upd_same, r.mono hs⟩)
    · by_cases ha : a = p
      · subst ha; exact .inl n1
      · rw [upd_ne ha] at q; exact st.new a n q
    · by_cases ha : a = p
      · subst ha; rw [upd_same] at z; rw [← z]; exact e1
      · rw [upd_ne ha] at z; exact c.sub a o z
    · obtain ⟨m1, o, m2, m3⟩ := c.mem q hq
      refine ⟨?_, o, m2, m3.mono hs⟩
      rw [upd_ne (fun z => n3 (by rw [← z]; exact List.mem_map.mpr ⟨q, hq, rfl⟩))]
      exact m1

/-! names, constants -/
theorem ev_var {i : Nat} (h : PE X e (tVar i)) (hr : ρ[i]? = some (some d)) : EV X e ρ M d M := fun σ S H Q hE hC hR =>
  tE_of h (let ⟨v, e1, r⟩ := hE.get i d hr; ⟨v, e1, hR.id hC r⟩)
theorem ev_int {i : Int} {j : Nat} : EV X (.Constant (.int i) j pos) ρ M (.int i) M := fun _ _ _ _ _ hC hR => tE_of pe_int (hR.id hC (rep_int.mpr rfl))
theorem ev_bl {k : Bool} {j : Nat} : EV X (.Constant (.bool k) j pos) ρ M (.bl k) M := fun _ _ _ _ _ hC hR => tE_of pe_bl (hR.id hC (rep_bl.mpr rfl))
theorem ev_non {j : Nat} : EV X (.Constant .none j pos) ρ M .non M := fun _ _ _ _ _ hC hR => tE_of pe_non (hR.id hC (rep_non.mpr rfl))
theorem ev_str {x : Str} {j : Nat} : EV X (.Constant (.str x) j pos) ρ M (.str x) M := fun _ _ _ _ _ hC hR => tE_of pe_str (hR.id hC (rep_str.mpr rfl))
/-- a constant of the module -/
theorem ev_glob {v : V} (h : PE X e (tC v)) (r : ∀ S, Rep X.K S d v) : EV X e ρ M d M := fun _ _ _ _ _ hC hR => tE_of h (hR.id hC (r _))

/-! operations on two values -/
/-- what r gives on d1 and d2 -/
def RS2 (K : Fg) (r : R2) (M : Mem) (d1 d2 : D) (P : D → Mem → Prop) : Prop :=
  ∀ S H x y Q, Cfg K S M H → Rep K S d1 x → Rep K S d2 y → Res K M S H Q P → r x y H Q
theorem ev_bin {t : R2} {f : TE → TE → TE} (hp : PE X e (f (tE X a) (tE X b))) (hf : ∀ σ H Q, f (tE X a) (tE X b) σ H Q = tOp t (tE X a) (tE X b) σ H Q) (ha : EV X a ρ M d1 M1) (hb : EV X b ρ M1 d2 M2) (hr : RS2 X.K t M2 d1 d2 P) : EVp X e ρ M P := fun σ S H Q hE hC hR =>
  tE_of hp (by
    rw [hf]
    exact ha.use hE hC fun x S1 H1 s1 c1 r1 => hb.use (hE.mono s1.sub) c1 fun y S2 H2 s2 c2 r2 => hr S2 H2 x y Q c2 (r1.mono s2.sub) r2 (hR.after (s1.trans c1 s2) c2))
theorem ev_op {op : Operator} {r : R2} (ho : OpR X (binaryOp op) r) (ha : EV X a ρ M d1 M1) (hb : EV X b ρ M1 d2 M2) (hr : RS2 X.K r M2 d1 d2 P) : EVp X (.BinOp a op b pos) ρ M P :=
  ev_bin (f := tOp r) (pe_op ho peW peW) (fun _ _ _ => rfl) ha hb hr
theorem ev_cmp {op : CmpOp} {r : R2} (ho : OpR X (compareOp op) r) (hm : behindInMarks op b = false) (ha : EV X a ρ M d1 M1) (hb : EV X b ρ M1 d2 M2) (hr : RS2 X.K r M2 d1 d2 P) : EVp X (.Compare a [op] [b] pos) ρ M P :=
  ev_bin (f := tOp r) (pe_cmpR ho peW peW hm) (fun _ _ _ => rfl) ha hb hr
theorem tv_cmp {op : CmpOp} {r : R2} {k : Bool} (ho : OpR X (compareOp op) r) (hm : behindInMarks op b = false) (ha : EV X a ρ M d1 M1) (hb : EV X b ρ M1 d2 M2) (hr : RS2 X.K r M2 d1 d2 (Out (.bl k) M3)) : TV X (.Compare a [op] [b] pos) ρ M k M3 := fun σ S H Q hE hC hR =>
  tT_of (pt_cmpR ho peW peW hm) (ha.use hE hC fun x S1 H1 s1 c1 r1 => hb.use (hE.mono s1.sub) c1 fun y S2 H2 s2 c2 r2 => hr S2 H2 x y _ c2 (r1.mono s2.sub) r2 fun d M' v S' H' ⟨e1, e2⟩ st c r => by
    subst e1; subst e2
    exact ⟨k, rep_bl.mp r, hR S' H' ((s1.trans c1 s2).trans c2 st) c⟩)
theorem rs_int {g : Int → Int → V} {i j : Int} (hg : ∀ S, Rep X.K S d (g i j)) : RS2 X.K (rI0 g) M (.int i) (.int j) (Out d M) := fun S H x y Q c r1 r2 hR =>
  ⟨i, j, rep_int.mp r1, rep_int.mp r2, hR.id c (hg S)⟩
theorem rs_intC {C : Int → Int → Prop} {g : Int → Int → V} {i j : Int} (hc : C i j) (hg : ∀ S, Rep X.K S d (g i j)) : RS2 X.K (rI C g) M (.int i) (.int j) (Out d M) := fun S H x y Q c r1 r2 hR =>
  ⟨i, j, rep_int.mp r1, rep_int.mp r2, hc, hR.id c (hg S)⟩
variable {i j : Int}
theorem ev_add (ha : EV X a ρ M (.int i) M1) (hb : EV X b ρ M1 (.int j) M2) : EV X (.BinOp a .Add b pos) ρ M (.int (i + j)) M2 := ev_op op_add ha hb (rs_int fun _ => rep_int.mpr rfl)
theorem ev_sub (ha : EV X a ρ M (.int i) M1) (hb : EV X b ρ M1 (.int j) M2) : EV X (.BinOp a .Sub b pos) ρ M (.int (i - j)) M2 := ev_op op_sub ha hb (rs_int fun _ => rep_int.mpr rfl)
theorem ev_mul (ha : EV X a ρ M (.int i) M1) (hb : EV X b ρ M1 (.int j) M2) (hc : CMul i j) : EV X (.BinOp a .Mult b pos) ρ M (.int (i * j)) M2 := ev_op op_mul ha hb (rs_intC hc fun _ => rep_int.mpr rfl)
theorem ev_mulW (ha : EV X a ρ M (.int i) M1) (hb : EV X b ρ M1 (.int j) M2) (hc : CMulW i j) : EV X (.BinOp a .Mult b pos) ρ M (.int (i * j)) M2 := ev_op op_mulW ha hb (rs_intC hc fun _ => rep_int.mpr rfl)
theorem ev_mod (ha : EV X a ρ M (.int i) M1) (hb : EV X b ρ M1 (.int j) M2) (hc : 0 < j) : EV X (.BinOp a .Mod b pos) ρ M (.int (i % j)) M2 := ev_op op_mod ha hb (rs_intC hc fun _ => rep_int.mpr rfl)
theorem ev_div (ha : EV X a ρ M (.int i) M1) (hb : EV X b ρ M1 (.int j) M2) (hc : CDivW i j) : EV X (.BinOp a .FloorDiv b pos) ρ M (.int (i / j)) M2 := ev_op op_fdivW ha hb (rs_intC hc fun _ => rep_int.mpr rfl)
theorem ev_divS (ha : EV X a ρ M (.int i) M1) (hb : EV X b ρ M1 (.int j) M2) (hc : CDiv i j) : EV X (.BinOp a .FloorDiv b pos) ρ M (.int (i / j)) M2 := ev_op op_fdiv ha hb (rs_intC hc fun _ => rep_int.mpr rfl)
theorem ev_neg (ha : EV X a ρ M (.int i) M1) : EV X (.UnaryOp .USub a pos) ρ M (.int (-i)) M1 := fun σ S H Q hE hC hR =>
  tE_of (pe_un un_neg peW) (ha.use hE hC fun x S1 H1 s1 c1 r1 => ⟨i, rep_int.mp r1, (hR.after s1 c1).id c1 (rep_int.mpr rfl)⟩)
theorem ev_lt (ha : EV X a ρ M (.int i) M1) (hb : EV X b ρ M1 (.int j) M2) : EV X (.Compare a [.Lt] [b] pos) ρ M (.bl (decide (i < j))) M2 := ev_cmp op_lt (nomark _) ha hb (rs_int fun _ => rep_bl.mpr rfl)
theorem ev_le (ha : EV X a ρ M (.int i) M1) (hb : EV X b ρ M1 (.int j) M2) : EV X (.Compare a [.LtE] [b] pos) ρ M (.bl (decide (i ≤ j))) M2 := ev_cmp op_le (nomark _) ha hb (rs_int fun _ => rep_bl.mpr rfl)
theorem ev_gt (ha : EV X a ρ M (.int i) M1) (hb : EV X b ρ M1 (.int j) M2) : EV X (.Compare a [.Gt] [b] pos) ρ M (.bl (decide (j < i))) M2 := ev_cmp op_gt (nomark _) ha hb (rs_int fun _ => rep_bl.mpr rfl)
theorem ev_ge (ha : EV X a ρ M (.int i) M1) (hb : EV X b ρ M1 (.int j) M2) : EV X (.Compare a [.GtE] [b] pos) ρ M (.bl (decide (j ≤ i))) M2 := ev_cmp op_ge (nomark _) ha hb (rs_int fun _ => rep_bl.mpr rfl)
theorem tv_lt (ha : EV X a ρ M (.int i) M1) (hb : EV X b ρ M1 (.int j) M2) : TV X (.Compare a [.Lt] [b] pos) ρ M (decide (i < j)) M2 := tv_cmp op_lt (nomark _) ha hb (rs_int fun _ => rep_bl.mpr rfl)
theorem tv_le (ha : EV X a ρ M (.int i) M1) (hb : EV X b ρ M1 (.int j) M2) : TV X (.Compare a [.LtE] [b] pos) ρ M (decide (i ≤ j)) M2 := tv_cmp op_le (nomark _) ha hb (rs_int fun _ => rep_bl.mpr rfl)
theorem tv_gt (ha : EV X a ρ M (.int i) M1) (hb : EV X b ρ M1 (.int j) M2) : TV X (.Compare a [.Gt] [b] pos) ρ M (decide (j < i)) M2 := tv_cmp op_gt (nomark _) ha hb (rs_int fun _ => rep_bl.mpr rfl)
theorem tv_ge (ha : EV X a ρ M (.int i) M1) (hb : EV X b ρ M1 (.int j) M2) : TV X (.Compare a [.GtE] [b] pos) ρ M (decide (j ≤ i)) M2 := tv_cmp op_ge (nomark _) ha hb (rs_int fun _ => rep_bl.mpr rfl)
theorem rs_eqI : RS2 X.K rEq M (.int i) (.int j) (Out (.bl (decide (i = j))) M) := fun S H x y Q c r1 r2 hR => by
  rw [rep_int.mp r1, rep_int.mp r2]
  exact ⟨rfl, hR.id c (rep_bl.mpr (by simp))⟩
theorem rs_neI : RS2 X.K rNe M (.int i) (.int j) (Out (.bl (decide (i ≠ j))) M) := fun S H x y Q c r1 r2 hR => by
  rw [rep_int.mp r1, rep_int.mp r2]
  exact ⟨rfl, hR.id c (rep_bl.mpr (by simp))⟩
theorem ev_eqI (ha : EV X a ρ M (.int i) M1) (hb : EV X b ρ M1 (.int j) M2) : EV X (.Compare a [.Eq] [b] pos) ρ M (.bl (decide (i = j))) M2 := ev_cmp op_eq (nomark _) ha hb rs_eqI
theorem ev_neI (ha : EV X a ρ M (.int i) M1) (hb : EV X b ρ M1 (.int j) M2) : EV X (.Compare a [.NotEq] [b] pos) ρ M (.bl (decide (i ≠ j))) M2 := ev_cmp op_ne (nomark _) ha hb rs_neI
theorem tv_eqI (ha : EV X a ρ M (.int i) M1) (hb : EV X b ρ M1 (.int j) M2) : TV X (.Compare a [.Eq] [b] pos) ρ M (decide (i = j)) M2 := tv_cmp op_eq (nomark _) ha hb rs_eqI
theorem tv_neI (ha : EV X a ρ M (.int i) M1) (hb : EV X b ρ M1 (.int j) M2) : TV X (.Compare a [.NotEq] [b] pos) ρ M (decide (i ≠ j)) M2 := tv_cmp op_ne (nomark _) ha hb rs_neI
/-- is None -/
def isNon : D → Bool
  | .non => true
  | _ => false
theorem rep_isNon {K : Fg} {S : Hp} : ∀ {d : D} {v : V}, Rep K S d v → decide (v = .non) = isNon d := by
  intro d v r
  cases d with
  | non => rw [rep_non.mp r]; rfl
  | bl b => rw [rep_bl.mp r]; rfl
  | int b => rw [rep_int.mp r]; rfl
  | str b => rw [rep_str.mp r]; rfl
  | ref b => rw [rep_ref.mp r]; rfl
  | ty n => rw [show v = .ty n by simpa only [Rep] using r]; rfl
  | tup ds => obtain ⟨_, _, e, _⟩ := rep_tup.mp r; rw [e]; rfl
  | lst ds => obtain ⟨_, _, e, _⟩ := rep_lst.mp r; rw [e]; rfl
  | obj ds => obtain ⟨_, e, _⟩ := rep_obj.mp r; rw [e]; rfl
theorem tv_isN {k : Nat} {pos' : Pos} (ha : EV X a ρ M d M1) : TV X (.Compare a [.Is] [.Constant .none k pos'] pos) ρ M (isNon d) M1 :=
  tv_cmp op_isN (nomark _) ha ev_non fun S H x y Q c r1 r2 hR => ⟨rep_non.mp r2, hR.id c (rep_bl.mpr (by rw [rep_isNon r1]))⟩
theorem tv_notN {k : Nat} {pos' : Pos} (ha : EV X a ρ M d M1) : TV X (.Compare a [.IsNot] [.Constant .none k pos'] pos) ρ M (!isNon d) M1 :=
  tv_cmp op_notN (nomark _) ha ev_non fun S H x y Q c r1 r2 hR => ⟨rep_non.mp r2, hR.id c (rep_bl.mpr (by rw [rep_isNon r1]))⟩
theorem ev_isN {k : Nat} {pos' : Pos} (ha : EV X a ρ M d M1) : EV X (.Compare a [.Is] [.Constant .none k pos'] pos) ρ M (.bl (isNon d)) M1 :=
  ev_cmp op_isN (nomark _) ha ev_non fun S H x y Q c r1 r2 hR => ⟨rep_non.mp r2, hR.id c (rep_bl.mpr (by rw [rep_isNon r1]))⟩

/-! tests -/
theorem tv_val {k : Bool} (h : EV X e ρ M (.bl k) M1) (he : ∀ wh, isTrue e X.env wh = (do let v ← wh; standAt e.pos; holding [v] (truthy v)) := by intro _; rfl) : TV X e ρ M k M1 := fun σ S H Q hE hC hR =>
  tT_of (pt_val peW he) (h.use hE hC fun v S1 H1 s1 c1 r1 => ⟨k, rep_bl.mp r1, hR S1 H1 s1 c1⟩)
theorem tv_w {k : Bool} (h : WV X e ρ M k M1) : TV X e ρ M k M1 := fun σ S H Q hE hC hR => tT_of (PW.pt pwW) (h σ S H Q hE hC hR)
variable {k k2 : Bool} {rest : List Expr}
theorem wv_and1 (h : TV X a ρ M k M1) : WV X (.BoolOp .And [a] pos) ρ M k M1 := fun σ S H Q hE hC hR => tW_of (pw_and1 ptW) (h σ S H Q hE hC hR)
theorem wv_or1 (h : TV X a ρ M k M1) : WV X (.BoolOp .Or [a] pos) ρ M k M1 := fun σ S H Q hE hC hR => tW_of (pw_or1 ptW) (h σ S H Q hE hC hR)
/-- .. where the store stays -/
theorem wv_and (h : TV X a ρ M k M) (h2 : k = true → WV X (.BoolOp .And (b :: rest) pos) ρ M k2 M) : WV X (.BoolOp .And (a :: b :: rest) pos) ρ M (k && k2) M := fun σ S H Q hE hC hR =>
  tW_of (pw_and ptW pwW) (h σ S H _ hE hC fun S1 H1 s1 c1 => by
    cases k with
    | true =>
      rw [if_pos rfl]
      exact h2 rfl σ S1 H1 Q (hE.mono s1.sub) c1 fun S2 H2 s2 c2 => hR S2 H2 (s1.trans c1 s2) c2
    | false =>
      rw [if_neg Bool.false_ne_true]
      exact hR S1 H1 s1 c1)
theorem wv_or (h : TV X a ρ M k M) (h2 : k = false → WV X (.BoolOp .Or (b :: rest) pos) ρ M k2 M) : WV X (.BoolOp .Or (a :: b :: rest) pos) ρ M (k || k2) M := fun σ S H Q hE hC hR =>
  tW_of (pw_or ptW pwW) (h σ S H _ hE hC fun S1 H1 s1 c1 => by
    cases k with
    | true =>
      rw [if_pos rfl]
      exact hR S1 H1 s1 c1
    | false =>
      rw [if_neg Bool.false_ne_true]
      exact h2 rfl σ S1 H1 Q (hE.mono s1.sub) c1 fun S2 H2 s2 c2 => hR S2 H2 (s1.trans c1 s2) c2)
theorem tv_not (h : TV X a ρ M k M1) : TV X (.UnaryOp .Not a pos) ρ M (!k) M1 := fun σ S H Q hE hC hR => tT_of (pt_not ptW) (h σ S H _ hE hC hR)
theorem ev_one {op : BoolOp} (h : EVp X a ρ M P) : EVp X (.BoolOp op [a] pos) ρ M P := fun σ S H Q hE hC hR => tE_of (pe_one peW) (h σ S H Q hE hC hR)
theorem ev_and (h : EV X a ρ M (.bl k) M) (h2 : k = true → EV X (.BoolOp .And (b :: rest) pos) ρ M (.bl k2) M) : EV X (.BoolOp .And (a :: b :: rest) pos) ρ M (.bl (k && k2)) M := fun σ S H Q hE hC hR =>
  tE_of (pe_and peW peW) (h.use hE hC fun v S1 H1 s1 c1 r1 => ⟨k, rep_bl.mp r1, by
    cases k with
    | true =>
      rw [if_pos rfl]
      exact (h2 rfl).use (hE.mono s1.sub) c1 fun v S2 H2 s2 c2 r2 => hR _ _ _ _ _ ⟨rfl, rfl⟩ (s1.trans c1 s2) c2 r2
    | false =>
      rw [if_neg Bool.false_ne_true]
      exact hR _ _ _ _ _ ⟨rfl, rfl⟩ s1 c1 (rep_bl.mpr rfl)⟩)
theorem ev_or (h : EV X a ρ M (.bl k) M) (h2 : k = false → EV X (.BoolOp .Or (b :: rest) pos) ρ M (.bl k2) M) : EV X (.BoolOp .Or (a :: b :: rest) pos) ρ M (.bl (k || k2)) M := fun σ S H Q hE hC hR =>
  tE_of (pe_or peW peW) (h.use hE hC fun v S1 H1 s1 c1 r1 => ⟨k, rep_bl.mp r1, by
    cases k with
    | false =>
      rw [if_neg Bool.false_ne_true]
      exact (h2 rfl).use (hE.mono s1.sub) c1 fun v S2 H2 s2 c2 r2 => hR _ _ _ _ _ ⟨rfl, rfl⟩ (s1.trans c1 s2) c2 r2
    | true =>
      rw [if_pos rfl]
      exact hR _ _ _ _ _ ⟨rfl, rfl⟩ s1 c1 (rep_bl.mpr rfl)⟩)
theorem ev_not (h : EV X a ρ M (.bl k) M1) : EV X (.UnaryOp .Not a pos) ρ M (.bl (!k)) M1 := fun σ S H Q hE hC hR =>
  tE_of (pe_not peW) (h.use hE hC fun v S1 H1 s1 c1 r1 => ⟨k, rep_bl.mp r1, (hR.after s1 c1).id c1 (rep_bl.mpr rfl)⟩)
/-- a if t else b -/
theorem ev_ife (h : TV X c ρ M k M1) (h1 : k = true → EVp X a ρ M1 P) (h2 : k = false → EVp X b ρ M1 P) : EVp X (.IfExp c a b pos) ρ M P := fun σ S H Q hE hC hR =>
  tE_of (pe_ifExp ptW peW peW) (h σ S H _ hE hC fun S1 H1 s1 c1 => by
    cases k with
    | true =>
      rw [if_pos rfl]
      exact h1 rfl σ S1 H1 Q (hE.mono s1.sub) c1 (hR.after s1 c1)
    | false =>
      rw [if_neg Bool.false_ne_true]
      exact h2 rfl σ S1 H1 Q (hE.mono s1.sub) c1 (hR.after s1 c1))
theorem ev_if (h : TV X c ρ M k M1) (h1 : k = true → EV X a ρ M1 d1 M2) (h2 : k = false → EV X b ρ M1 d2 M2) : EV X (.IfExp c a b pos) ρ M (if k = true then d1 else d2) M2 :=
  ev_ife h (fun e => by rw [if_pos e]; exact h1 e) (fun e => by rw [if_neg (by rw [e]; decide)]; exact h2 e)
/-- a < b < c -/
theorem ev_chain {op op' : CmpOp} {r r' : R2} (ho : OpR X (compareOp op) r) (ho' : OpR X (compareOp op') r') (ha : EV X a ρ M d1 M) (hb : EV X b ρ M d2 M) (hr : RS2 X.K r M d1 d2 (Out (.bl k) M)) (hc : k = true → EV X c ρ M d3 M) (hr' : RS2 X.K r' M d2 d3 (Out (.bl k2) M))
    (hm : lastMarks [op, op'] [b, c] = false := by with_unfolding_all rfl) : EV X (.Compare a [op, op'] [b, c] pos) ρ M (.bl (k && k2)) M := fun σ S H Q hE hC hR =>
  tE_of (pe_chain ho ho' peW peW peW hm) (ha.use hE hC fun x S1 H1 s1 c1 r1 => hb.use (hE.mono s1.sub) c1 fun y S2 H2 s2 c2 r2 => hr S2 H2 x y _ c2 (r1.mono s2.sub) r2 fun d M' v S' H' ⟨e1, e2⟩ st c3 r3 => by
    subst e1; subst e2
    refine ⟨k, rep_bl.mp r3, ?_⟩
    have st' := (s1.trans c1 s2).trans c2 st
    cases k with
    | true =>
      rw [if_pos rfl]
      exact (hc rfl).use (hE.mono st'.sub) c3 fun z S4 H4 s4 c4 r4 => hr' S4 H4 y z Q c4 (r2.mono (st.sub.trans s4.sub)) r4 (hR.after (st'.trans c3 s4) c4)
    | false =>
      rw [if_neg Bool.false_ne_true]
      exact hR _ _ _ _ _ ⟨rfl, rfl⟩ st' c3 (rep_bl.mpr rfl))
theorem tv_chain {op op' : CmpOp} {r r' : R2} (ho : OpR X (compareOp op) r) (ho' : OpR X (compareOp op') r') (ha : EV X a ρ M d1 M) (hb : EV X b ρ M d2 M) (hr : RS2 X.K r M d1 d2 (Out (.bl k) M)) (hc : k = true → EV X c ρ M d3 M) (hr' : RS2 X.K r' M d2 d3 (Out (.bl k2) M))
    (hm : lastMarks [op, op'] [b, c] = false := by with_unfolding_all rfl) : TV X (.Compare a [op, op'] [b, c] pos) ρ M (k && k2) M := fun σ S H Q hE hC hR =>
  tT_of (pt_chain ho ho' peW peW peW hm) (ha.use hE hC fun x S1 H1 s1 c1 r1 => hb.use (hE.mono s1.sub) c1 fun y S2 H2 s2 c2 r2 => hr S2 H2 x y _ c2 (r1.mono s2.sub) r2 fun d M' v S' H' ⟨e1, e2⟩ st c3 r3 => by
    subst e1; subst e2
    refine ⟨k, rep_bl.mp r3, ?_⟩
    have st' := (s1.trans c1 s2).trans c2 st
    cases k with
    | true =>
      rw [if_pos rfl]
      exact (hc rfl).use (hE.mono st'.sub) c3 fun z S4 H4 s4 c4 r4 => hr' S4 H4 y z _ c4 (r2.mono (st.sub.trans s4.sub)) r4 fun d M' v S' H' ⟨e1, e2⟩ st5 c5 r5 => by
        subst e1; subst e2
        exact ⟨k2, rep_bl.mp r5, hR S' H' ((st'.trans c3 s4).trans c4 st5) c5⟩
    | false =>
      rw [if_neg Bool.false_ne_true]
      exact ⟨false, rfl, hR _ _ st' c3⟩)

/-! displays, arguments -/
theorem av_nil : AV X [] ρ M [] M := fun σ S H Q _ hC hR => tA_of pa_nil (hR [] S H .refl hC (reps_nil.mpr rfl))
theorem av_cons (ha : EV X a ρ M d M1) (hr : AV X es ρ M1 ds M2) (hs : starEach (a :: es) X.env = (false, eval a X.env) :: starEach es X.env := by rfl) : AV X (a :: es) ρ M (d :: ds) M2 := fun σ S H Q hE hC hR =>
  tA_of (pa_cons peW paW hs) (ha.use hE hC fun x S1 H1 s1 c1 r1 => hr σ S1 H1 _ (hE.mono s1.sub) c1 fun vs S2 H2 s2 c2 r2 => hR _ S2 H2 (s1.trans c1 s2) c2 (reps_cons.mpr ⟨x, vs, rfl, r1.mono s2.sub, r2⟩))
theorem ev_tup {x1 : Nat} (h : AV X es ρ M ds M1) (hl : ds.length ≤ sizeLine) : EV X (.Tuple es x1 pos) ρ M (.tup ds) M1 := fun σ S H Q hE hC hR =>
  tE_of (pe_tup paW) (h σ S H _ hE hC fun vs S1 H1 s1 c1 r1 => ⟨by rw [← r1.length]; exact hl, fun p hp => by
    obtain ⟨c2, s2⟩ := cfg_new (o := .tup vs) c1 hp
    exact hR _ _ _ _ _ ⟨rfl, rfl⟩ (s1.trans c1 s2) c2 (rep_tup.mpr ⟨p, vs, rfl, upd_same, r1.mono s2.sub⟩)⟩)
/-- a list that has just been made at p -/
theorem fv_at {S H S1 H1 : Hp} {Q : VK} {vs : List V} {p : Addr} (s1 : Step M S H M1 S1 H1) (c1 : Cfg X.K S1 M1 H1) (hp : H1 p = none) (r1 : Reps X.K S1 ds vs)
    (hR : ∀ p vs S' H', Step M S H M1 S' H' → Cfg X.K S' M1 H' → H p = none → S' p = none → p ∉ dm M1 → H' p = some (.lst vs) → Reps X.K S' ds vs → Q (.ref p) H') : Q (.ref p) (upd H1 p (.lst vs)) := by
  have hS : S1 p = none := by
    cases e : S1 p with
    | none => rfl
    | some u => rw [c1.sub p u e] at hp; cases hp
  have hM : p ∉ dm M1 := fun hm => by
    obtain ⟨q, hq, e⟩ := List.mem_map.mp hm
    obtain ⟨_, u, z, _⟩ := c1.mem q hq
    rw [e, hp] at z; cases z
  have hH : H p = none := s1.kp p hp
  exact hR p vs S1 _ ⟨s1.sub, fun a o ha e => by
    rw [upd_ne (fun z => by rw [z] at ha e; rw [s1.frm p o ha e] at hp; cases hp)]
    exact s1.frm a o ha e, s1.new, s1.dom, fun a e => s1.kp a (upd_kp e)⟩ ⟨fun a o e => by rw [upd_ne (ne_of_none e hS)]; exact c1.sub a o e, c1.nd, fun q hq => by
      obtain ⟨n, u, z, r⟩ := c1.mem q hq
      exact ⟨n, u, by rw [upd_ne (fun z => hM (by rw [← z]; exact List.mem_map.mpr ⟨q, hq, rfl⟩))]; exact z, r⟩⟩ hH hS hM upd_same r1
end
end RL
namespace RL
open PySem L2

/-! ### plain facts about lists of numbers -/
def minI : List Int → Int
  | [] => 0
  | x :: xs => xs.foldl min x
def maxI : List Int → Int
  | [] => 0
  | x :: xs => xs.foldl max x
theorem foldl_min_le : ∀ (xs : List Int) (x : Int), xs.foldl min x ≤ x ∧ ∀ y ∈ xs, xs.foldl min x ≤ y
  | [], x => ⟨Int.le_refl _, by simp⟩
  | a :: xs, x => by
    obtain ⟨h1, h2⟩ := foldl_min_le xs (min x a)
    rw [List.foldl_cons]
    refine ⟨by omega, fun y hy => ?_⟩
    rcases List.mem_cons.mp hy with rfl | hy
    · omega
    · exact h2 y hy
theorem foldl_min_mem : ∀ (xs : List Int) (x : Int), xs.foldl min x = x ∨ xs.foldl min x ∈ xs
  | [], x => .inl rfl
  | a :: xs, x => by
    rw [List.foldl_cons]
    rcases foldl_min_mem xs (min x a) with h | h
    · rw [h]
      by_cases q : x ≤ a
      · exact .inl (by omega)
      · exact .inr (List.mem_cons.mpr (.inl (by omega)))
    · exact .inr (List.mem_cons_of_mem _ h)
theorem minI_le {ns : List Int} {y : Int} (h : y ∈ ns) : minI ns ≤ y := by
  cases ns with
  | nil => cases h
  | cons x xs =>
    rcases List.mem_cons.mp h with rfl | h
    · exact (foldl_min_le xs _).1
    · exact (foldl_min_le xs _).2 y h
theorem minI_mem {ns : List Int} (h : ns ≠ []) : minI ns ∈ ns := by
  cases ns with
  | nil => exact absurd rfl h
  | cons x xs =>
    rcases foldl_min_mem xs x with e | e
    · show xs.foldl min x ∈ _
      rw [e]; exact List.mem_cons_self
    · exact List.mem_cons_of_mem _ e
theorem minI_eq {ns : List Int} {m : Int} (h : m ∈ ns) (hl : ∀ y ∈ ns, m ≤ y) : m = minI ns :=
  Int.le_antisymm (hl _ (minI_mem (List.ne_nil_of_mem h))) (minI_le h)
theorem foldl_max_le : ∀ (xs : List Int) (x : Int), x ≤ xs.foldl max x ∧ ∀ y ∈ xs, y ≤ xs.foldl max x
  | [], x => ⟨Int.le_refl _, by simp⟩
  | a :: xs, x => by
    obtain ⟨h1, h2⟩ := foldl_max_le xs (max x a)
    rw [List.foldl_cons]
    refine ⟨by omega, fun y hy => ?_⟩
    rcases List.mem_cons.mp hy with rfl | hy
    · omega
    · exact h2 y hy
theorem foldl_max_mem : ∀ (xs : List Int) (x : Int), xs.foldl max x = x ∨ xs.foldl max x ∈ xs
  | [], x => .inl rfl
  | a :: xs, x => by
    rw [List.foldl_cons]
    rcases foldl_max_mem xs (max x a) with h | h
    · rw [h]
      by_cases q : a ≤ x
      · exact .inl (by omega)
      · exact .inr (List.mem_cons.mpr (.inl (by omega)))
    · exact .inr (List.mem_cons_of_mem _ h)
theorem le_maxI {ns : List Int} {y : Int} (h : y ∈ ns) : y ≤ maxI ns := by
  cases ns with
  | nil => cases h
  | cons x xs =>
    rcases List.mem_cons.mp h with rfl | h
    · exact (foldl_max_le xs _).1
    · exact (foldl_max_le xs _).2 y h
theorem maxI_mem {ns : List Int} (h : ns ≠ []) : maxI ns ∈ ns := by
  cases ns with
  | nil => exact absurd rfl h
  | cons x xs =>
    rcases foldl_max_mem xs x with e | e
    · show xs.foldl max x ∈ _
      rw [e]; exact List.mem_cons_self
    · exact List.mem_cons_of_mem _ e
theorem maxI_eq {ns : List Int} {m : Int} (h : m ∈ ns) (hl : ∀ y ∈ ns, y ≤ m) : m = maxI ns :=
  Int.le_antisymm (le_maxI h) (hl _ (maxI_mem (List.ne_nil_of_mem h)))
/-- the sorted list -/
def srt (ns : List Int) : List Int := ns.mergeSort (fun a b => decide (a ≤ b))
theorem srt_perm (ns : List Int) : (srt ns).Perm ns := List.mergeSort_perm ns _
theorem srt_pw (ns : List Int) : (srt ns).Pairwise (· ≤ ·) :=
  (List.pairwise_mergeSort (le := fun a b => decide (a ≤ b)) (fun a b c h1 h2 => by simp at *; omega) (fun a b => by simp; omega) ns).imp fun h => by simpa using h
theorem srt_eq {ns ms : List Int} (h : ms.Perm ns) (hp : ms.Pairwise (· ≤ ·)) : ms = srt ns :=
  List.Perm.eq_of_pairwise (fun a b _ _ h1 h2 => Int.le_antisymm h1 h2) hp (srt_pw ns) (h.trans (srt_perm ns).symm)

/-! ### what is read as a list, as a tuple -/
/-- the script: a list of ints that stands by itself -/
def scrOT (K : Fg) (ns : List Int) : OT := ⟨fun S a => SqL K S a (ns.map V.int), fun S S' a h q => by
  rcases q with (q | ⟨o, q⟩) | q
  · exact .inl (.inl (h _ _ q))
  · exact .inl (.inr ⟨o, h _ _ q⟩)
  · exact .inr q⟩
inductive IsL (M : Mem) : D → List D → Prop
  | dat {ds : List D} : IsL M (.lst ds) ds
  | own {k : Nat} {a : Addr} {ds : List D} (h : M[k]? = some (a, .lst ds)) : IsL M (.ref a) ds
theorem IsL.get {K : Fg} {S H : Hp} {M : Mem} {d : D} {ds : List D} {v : V} (h : IsL M d ds) (c : Cfg K S M H) (r : Rep K S d v) : ∃ p vs, v = .ref p ∧ H p = some (.lst vs) ∧ Reps K S ds vs := by
  cases h with
  | dat =>
    obtain ⟨a, vs, e, z, q⟩ := rep_lst.mp r
    exact ⟨a, vs, e, c.sub _ _ z, q⟩
  | own h =>
    obtain ⟨o, z, vs, e, q⟩ := c.at h
    subst e
    exact ⟨_, vs, rep_ref.mp r, z, q⟩
/-- read as a list, the script too -/
inductive IsQ (K : Fg) (M : Mem) : D → List D → Prop
  | lst {d : D} {ds : List D} (h : IsL M d ds) : IsQ K M d ds
  | scr {ns : List Int} : IsQ K M (.obj (scrOT K ns)) (ns.map D.int)
theorem sqL_mono {K : Fg} {S S' : Hp} {a : Addr} {xs : List V} (h : Same S S') (q : SqL K S a xs) : SqL K S' a xs := by
  rcases q with (q | ⟨o, q⟩) | q
  · exact .inl (.inl (h _ _ q))
  · exact .inl (.inr ⟨o, h _ _ q⟩)
  · exact .inr q
theorem IsQ.get {K : Fg} {S H : Hp} {M : Mem} {d : D} {ds : List D} {v : V} (h : IsQ K M d ds) (c : Cfg K S M H) (r : Rep K S d v) : ∃ p vs, v = .ref p ∧ SqL K H p vs ∧ Reps K S ds vs := by
  cases h with
  | lst h =>
    obtain ⟨p, vs, e, z, q⟩ := h.get c r
    exact ⟨p, vs, e, .of z, q⟩
  | scr =>
    obtain ⟨p, e, z⟩ := rep_obj.mp r
    exact ⟨p, _, e, sqL_mono c.sub z, Reps.ints.mpr rfl⟩
theorem tup_get {K : Fg} {S H : Hp} {M : Mem} {ds : List D} {v : V} (c : Cfg K S M H) (r : Rep K S (.tup ds) v) : ∃ p vs, v = .ref p ∧ SqT K H p vs ∧ Reps K S ds vs :=
  let ⟨p, vs, e, z, q⟩ := rep_tup.mp r
  ⟨p, vs, e, .of (c.sub _ _ z), q⟩
theorem tup_at {K : Fg} {S H : Hp} {M : Mem} {ds : List D} {v : V} (c : Cfg K S M H) (r : Rep K S (.tup ds) v) : ∃ p vs, v = .ref p ∧ H p = some (.tup vs) ∧ Reps K S ds vs :=
  let ⟨p, vs, e, z, q⟩ := rep_tup.mp r
  ⟨p, vs, e, c.sub _ _ z, q⟩
theorem Reps.atI {K : Fg} {S : Hp} {ds : List D} {vs : List V} {i : Int} {d : D} (r : Reps K S ds vs) (h : atI ds i = some d) : ∃ v, L2.atI vs i = some v ∧ Rep K S d v := by
  unfold L2.atI at h ⊢
  rw [← r.length]
  cases e : ixN ds.length i with
  | none => rw [e] at h; cases h
  | some j =>
    rw [e] at h
    exact r.get h
theorem at_nat {α : Type} {xs : List α} {j : Nat} {i : Int} {v : α} (h : xs[j]? = some v) (e : i = (j : Int)) : atI xs i = some v := by subst e; exact atI_nat h

section
variable {X : Cx} {e a b c : Expr} {es : List Expr} {ρ : Rho} {M M1 M2 M3 : Mem} {d d1 d2 d3 : D} {ds ds2 : List D} {P : D → Mem → Prop} {pos : Pos} {i j : Int}

/-! subscripts -/
theorem ev_ix {r : R2} (ho : IxR X r) (hs : PlainIx b) (ha : EV X a ρ M d1 M1) (hb : EV X b ρ M1 d2 M2) (hr : RS2 X.K r M2 d1 d2 P) : EVp X (.Subscript a b pos) ρ M P :=
  ev_bin (f := tOp r) (pe_ix ho peW peW hs) (fun _ _ _ => rfl) ha hb hr
theorem rs_ixL (h : IsQ X.K M d1 ds) (hi : atI ds i = some d) : RS2 X.K (rIxL X.K) M d1 (.int i) (Out d M) := fun S H x y Q c r1 r2 hR => by
  obtain ⟨p, vs, e, z, q⟩ := h.get c r1
  obtain ⟨v, e2, q2⟩ := q.atI hi
  exact ⟨p, vs, i, v, e, rep_int.mp r2, z, e2, hR.id c q2⟩
theorem rs_ixT (hi : atI ds i = some d) : RS2 X.K (rIxT X.K) M (.tup ds) (.int i) (Out d M) := fun S H x y Q c r1 r2 hR => by
  obtain ⟨p, vs, e, z, q⟩ := tup_get c r1
  obtain ⟨v, e2, q2⟩ := q.atI hi
  exact ⟨p, vs, i, v, e, rep_int.mp r2, z, e2, hR.id c q2⟩
theorem ev_ixL (ha : EV X a ρ M d1 M1) (hb : EV X b ρ M1 (.int i) M2) (h : IsQ X.K M2 d1 ds) (hi : atI ds i = some d) (hs : PlainIx b := by exact fun _ _ => rfl) : EV X (.Subscript a b pos) ρ M d M2 := ev_ix ix_list hs ha hb (rs_ixL h hi)
theorem ev_ixT (ha : EV X a ρ M (.tup ds) M1) (hb : EV X b ρ M1 (.int i) M2) (hi : atI ds i = some d) (hs : PlainIx b := by exact fun _ _ => rfl) : EV X (.Subscript a b pos) ρ M d M2 := ev_ix ix_tup hs ha hb (rs_ixT hi)

/-! lists made anew -/
theorem fv_lst (h : AV X es ρ M ds M1) (hl : ds.length ≤ sizeLine) : FV X (.List es pos) ρ M ds M1 := fun σ S H Q hE hC hR =>
  tE_of (pe_lst paW) (h σ S H _ hE hC fun vs S1 H1 s1 c1 r1 => ⟨by rw [← r1.length]; exact hl, fun p hp => fv_at s1 c1 hp r1 hR⟩)
def FS2 (K : Fg) (r : R2) (M : Mem) (d1 d2 : D) (ds : List D) : Prop :=
  ∀ S H x y Q, Cfg K S M H → Rep K S d1 x → Rep K S d2 y → (∀ p vs, H p = none → Reps K S ds vs → Q (.ref p) (upd H p (.lst vs))) → r x y H Q
theorem fv_op {op : Operator} {r : R2} (ho : OpR X (binaryOp op) r) (ha : EV X a ρ M d1 M1) (hb : EV X b ρ M1 d2 M2) (hr : FS2 X.K r M2 d1 d2 ds) : FV X (.BinOp a op b pos) ρ M ds M2 := fun σ S H Q hE hC hR =>
  tE_of (pe_op ho peW peW) (ha.use hE hC fun x S1 H1 s1 c1 r1 => hb.use (hE.mono s1.sub) c1 fun y S2 H2 s2 c2 r2 => hr S2 H2 x y Q c2 (r1.mono s2.sub) r2 fun p vs hp q => fv_at (s1.trans c1 s2) c2 hp q hR)
theorem reps_flat {K : Fg} {S : Hp} {ds : List D} {vs : List V} (r : Reps K S ds vs) : ∀ n : Nat, Reps K S (List.replicate n ds).flatten (List.replicate n vs).flatten
  | 0 => by simp [Reps]
  | n + 1 => by
    rw [List.replicate_succ, List.replicate_succ, List.flatten_cons, List.flatten_cons]
    exact r.append (reps_flat r n)
theorem fs_rep (h : IsL M d1 ds) (h1 : -(2 ^ 63) ≤ i) (h2 : i < 2 ^ 63) (h3 : ds.length * i.toNat ≤ sizeLine) : FS2 X.K rRep M d1 (.int i) (List.replicate i.toNat ds).flatten := fun S H x y Q c r1 r2 hR => by
  obtain ⟨p, vs, e, z, q⟩ := h.get c r1
  exact ⟨p, i, vs, e, rep_int.mp r2, z, h1, h2, by rw [← q.length]; exact h3, fun l hl => hR l _ hl (reps_flat q _)⟩
theorem fv_rep (ha : EV X a ρ M d1 M1) (hb : EV X b ρ M1 (.int i) M2) (h : IsL M2 d1 ds) (h1 : -(2 ^ 63) ≤ i) (h2 : i < 2 ^ 63) (h3 : ds.length * i.toNat ≤ sizeLine) : FV X (.BinOp a .Mult b pos) ρ M (List.replicate i.toNat ds).flatten M2 := fv_op op_rep ha hb (fs_rep h h1 h2 h3)
theorem fs_cat (h : IsL M d1 ds) (h2 : IsL M d2 ds2) (hl : ds.length + ds2.length ≤ sizeLine) : FS2 X.K rCat M d1 d2 (ds ++ ds2) := fun S H x y Q c r1 r2 hR => by
  obtain ⟨p, vs, e, z, q⟩ := h.get c r1
  obtain ⟨p2, vs2, e2, z2, q2⟩ := h2.get c r2
  exact ⟨p, p2, vs, vs2, e, e2, z, z2, by rw [← q.length, ← q2.length]; exact hl, fun l hl => hR l _ hl (q.append q2)⟩
theorem fv_cat (ha : EV X a ρ M d1 M1) (hb : EV X b ρ M1 d2 M2) (h : IsL M2 d1 ds) (h2 : IsL M2 d2 ds2) (hl : ds.length + ds2.length ≤ sizeLine) : FV X (.BinOp a .Add b pos) ρ M (ds ++ ds2) M2 := fv_op op_cat ha hb (fs_cat h h2 hl)

/-! calls of built-in functions and classes -/
def RSn (K : Fg) (r : List V → Hp → VK → Prop) (M : Mem) (ds : List D) (P : D → Mem → Prop) : Prop :=
  ∀ S H vs Q, Cfg K S M H → Reps K S ds vs → Res K M S H Q P → r vs H Q
def FSn (K : Fg) (r : List V → Hp → VK → Prop) (M : Mem) (ds : List D) (out : List D) : Prop :=
  ∀ S H vs Q, Cfg K S M H → Reps K S ds vs → (∀ p ws, H p = none → Reps K S out ws → Q (.ref p) (upd H p (.lst ws))) → r vs H Q
theorem ev_cb {r : List V → Hp → VK → Prop} (hp : PE X e (tCB r (tA X es))) (ha : AV X es ρ M ds M1) (hr : RSn X.K r M1 ds P) : EVp X e ρ M P := fun σ S H Q hE hC hR =>
  tE_of hp (ha σ S H _ hE hC fun vs S1 H1 s1 c1 r1 => hr S1 H1 vs Q c1 r1 (hR.after s1 c1))
theorem fv_cb {r : List V → Hp → VK → Prop} {out : List D} (hp : PE X e (tCB r (tA X es))) (ha : AV X es ρ M ds M1) (hr : FSn X.K r M1 ds out) : FV X e ρ M out M1 := fun σ S H Q hE hC hR =>
  tE_of hp (ha σ S H _ hE hC fun vs S1 H1 s1 c1 r1 => hr S1 H1 vs Q c1 r1 fun p ws hn q => fv_at s1 c1 hn q hR)
theorem one_of {K : Fg} {S : Hp} {d : D} {vs : List V} (r : Reps K S [d] vs) : ∃ v, vs = [v] ∧ Rep K S d v := by
  obtain ⟨v, ws, e, a, b⟩ := reps_cons.mp r
  rw [reps_nil.mp b] at e
  exact ⟨v, e, a⟩
theorem two_of {K : Fg} {S : Hp} {d d2 : D} {vs : List V} (r : Reps K S [d, d2] vs) : ∃ v w, vs = [v, w] ∧ Rep K S d v ∧ Rep K S d2 w := by
  obtain ⟨v, ws, e, a, b⟩ := reps_cons.mp r
  obtain ⟨w, e2, q⟩ := one_of b
  rw [e2] at e
  exact ⟨v, w, e, a, q⟩
theorem rs_lenL (h : IsQ X.K M d ds) : RSn X.K (fun xs H Q => ∃ p ys, xs = [.ref p] ∧ (SqL X.K H p ys ∨ SqT X.K H p ys) ∧ Q (.int ys.length) H) M [d] (Out (.int ds.length) M) := fun S H vs Q c r hR => by
  obtain ⟨v, rfl, r1⟩ := one_of r
  obtain ⟨p, ws, rfl, z, q⟩ := h.get c r1
  exact ⟨p, ws, rfl, .inl z, by rw [← q.length]; exact hR.id c (rep_int.mpr rfl)⟩
theorem rs_lenT : RSn X.K (fun xs H Q => ∃ p ys, xs = [.ref p] ∧ (SqL X.K H p ys ∨ SqT X.K H p ys) ∧ Q (.int ys.length) H) M [.tup ds] (Out (.int ds.length) M) := fun S H vs Q c r hR => by
  obtain ⟨v, rfl, r1⟩ := one_of r
  obtain ⟨p, ws, rfl, z, q⟩ := tup_get c r1
  exact ⟨p, ws, rfl, .inr z, by rw [← q.length]; exact hR.id c (rep_int.mpr rfl)⟩
theorem rs_max2 : RSn X.K (fun xs H Q => ∃ i j, xs = [.int i, .int j] ∧ Q (.int (if j > i then j else i)) H) M [.int i, .int j] (Out (.int (max i j)) M) := fun S H vs Q c r hR => by
  obtain ⟨v, w, rfl, r1, r2⟩ := two_of r
  rw [rep_int.mp r1, rep_int.mp r2]
  exact ⟨i, j, rfl, hR.id c (rep_int.mpr (by congr 1; split <;> omega))⟩
theorem rs_min2 : RSn X.K (fun xs H Q => ∃ i j, xs = [.int i, .int j] ∧ Q (.int (if j < i then j else i)) H) M [.int i, .int j] (Out (.int (min i j)) M) := fun S H vs Q c r hR => by
  obtain ⟨v, w, rfl, r1, r2⟩ := two_of r
  rw [rep_int.mp r1, rep_int.mp r2]
  exact ⟨i, j, rfl, hR.id c (rep_int.mpr (by congr 1; split <;> omega))⟩
theorem rs_abs : RSn X.K (fun xs H Q => ∃ i, xs = [.int i] ∧ Q (.int (if i < 0 then -i else i)) H) M [.int i] (Out (.int (i.natAbs : Int)) M) := fun S H vs Q c r hR => by
  obtain ⟨v, rfl, r1⟩ := one_of r
  rw [rep_int.mp r1]
  exact ⟨i, rfl, hR.id c (rep_int.mpr (by congr 1; split <;> omega))⟩
theorem rs_intB {k : Bool} : RSn X.K (fun xs H Q => (∃ i, xs = [.int i] ∧ Q (.int i) H) ∨ ∃ k, xs = [.bl k] ∧ Q (.int (if k then 1 else 0)) H) M [.bl k] (Out (.int (if k then 1 else 0)) M) := fun S H vs Q c r hR => by
  obtain ⟨v, rfl, r1⟩ := one_of r
  rw [rep_bl.mp r1]
  exact .inr ⟨k, rfl, hR.id c (rep_int.mpr rfl)⟩
/-- tuple(a list) -/
theorem rs_tupL (h : IsL M d ds) : RSn X.K (fun xs H Q => ∃ p ys, xs = [.ref p] ∧ ((SqL X.K H p ys ∧ ∀ l, H l = none → Q (.ref l) (upd H l (.tup ys))) ∨ (SqT X.K H p ys ∧ Q (.ref p) H))) M [d] (Out (.tup ds) M) := fun S H vs Q c r hR => by
  obtain ⟨v, rfl, r1⟩ := one_of r
  obtain ⟨p, ws, rfl, z, q⟩ := h.get c r1
  refine ⟨p, ws, rfl, .inl ⟨.of z, fun l hl => ?_⟩⟩
  obtain ⟨c2, s2⟩ := cfg_new (o := .tup ws) c hl
  exact hR _ _ _ _ _ ⟨rfl, rfl⟩ s2 c2 (rep_tup.mpr ⟨l, ws, rfl, upd_same, q.mono s2.sub⟩)
/-- list(a list), list(a tuple) -/
theorem fs_listL (h : IsQ X.K M d ds) : FSn X.K (fun xs H Q => ∃ p ys, xs = [.ref p] ∧ (SqL X.K H p ys ∨ SqT X.K H p ys) ∧ ∀ l, H l = none → Q (.ref l) (upd H l (.lst ys))) M [d] ds := fun S H vs Q c r hR => by
  obtain ⟨v, rfl, r1⟩ := one_of r
  obtain ⟨p, ws, rfl, z, q⟩ := h.get c r1
  exact ⟨p, ws, rfl, .inl z, fun l hl => hR l ws hl q⟩
theorem fs_listT : FSn X.K (fun xs H Q => ∃ p ys, xs = [.ref p] ∧ (SqL X.K H p ys ∨ SqT X.K H p ys) ∧ ∀ l, H l = none → Q (.ref l) (upd H l (.lst ys))) M [.tup ds] ds := fun S H vs Q c r hR => by
  obtain ⟨v, rfl, r1⟩ := one_of r
  obtain ⟨p, ws, rfl, z, q⟩ := tup_get c r1
  exact ⟨p, ws, rfl, .inr z, fun l hl => hR l ws hl q⟩
variable {ns : List Int} {bs : List Bool}
theorem rs_min (h : IsQ X.K M d (ns.map D.int)) (h0 : ns ≠ []) : RSn X.K (rMin X.K) M [d] (Out (.int (minI ns)) M) := fun S H vs Q c r hR => by
  obtain ⟨v, rfl, r1⟩ := one_of r
  obtain ⟨p, ws, rfl, z, q⟩ := h.get c r1
  rw [Reps.ints.mp q] at z
  exact ⟨p, ns, rfl, z, List.length_pos_iff.mpr h0, fun m hm hl => hR.id c (rep_int.mpr (by rw [minI_eq hm hl]))⟩
theorem rs_max (h : IsQ X.K M d (ns.map D.int)) (h0 : ns ≠ []) : RSn X.K (rMax X.K) M [d] (Out (.int (maxI ns)) M) := fun S H vs Q c r hR => by
  obtain ⟨v, rfl, r1⟩ := one_of r
  obtain ⟨p, ws, rfl, z, q⟩ := h.get c r1
  rw [Reps.ints.mp q] at z
  exact ⟨p, ns, rfl, z, List.length_pos_iff.mpr h0, fun m hm hl => hR.id c (rep_int.mpr (by rw [maxI_eq hm hl]))⟩
theorem rs_sum (h : IsQ X.K M d (ns.map D.int)) : RSn X.K (rSum X.K) M [d] (Out (.int ns.sum) M) := fun S H vs Q c r hR => by
  obtain ⟨v, rfl, r1⟩ := one_of r
  obtain ⟨p, ws, rfl, z, q⟩ := h.get c r1
  rw [Reps.ints.mp q] at z
  exact ⟨p, ns, rfl, z, hR.id c (rep_int.mpr rfl)⟩
theorem rs_all (h : IsQ X.K M d (bs.map D.bl)) : RSn X.K (rAll X.K) M [d] (Out (.bl (bs.all id)) M) := fun S H vs Q c r hR => by
  obtain ⟨v, rfl, r1⟩ := one_of r
  obtain ⟨p, ws, rfl, z, q⟩ := h.get c r1
  rw [Reps.bls.mp q] at z
  exact ⟨p, bs, rfl, z, hR.id c (rep_bl.mpr rfl)⟩
theorem rs_any (h : IsQ X.K M d (bs.map D.bl)) : RSn X.K (rAny X.K) M [d] (Out (.bl (bs.any id)) M) := fun S H vs Q c r hR => by
  obtain ⟨v, rfl, r1⟩ := one_of r
  obtain ⟨p, ws, rfl, z, q⟩ := h.get c r1
  rw [Reps.bls.mp q] at z
  exact ⟨p, bs, rfl, z, hR.id c (rep_bl.mpr rfl)⟩
theorem fs_sorted (h : IsQ X.K M d (ns.map D.int)) : FSn X.K (rSortedI X.K) M [d] ((srt ns).map D.int) := fun S H vs Q c r hR => by
  obtain ⟨v, rfl, r1⟩ := one_of r
  obtain ⟨p, ws, rfl, z, q⟩ := h.get c r1
  rw [Reps.ints.mp q] at z
  exact ⟨p, ns, rfl, z, fun ms l hp hs hl => hR l _ hl (Reps.ints.mpr (by rw [srt_eq hp hs]))⟩

/-! slices of lists -/
theorem reps_cut {K : Fg} {S : Hp} {ds : List D} {vs : List V} (r : Reps K S ds vs) (lo hi : Option Int) :
    Reps K S ((ds.drop (HT.sIx ds.length 0 lo)).take (HT.sIx ds.length ds.length hi - HT.sIx ds.length 0 lo)) (cutV vs lo hi) := by
  unfold cutV
  rw [← r.length]
  exact (r.drop _).take _
def cutD (ds : List D) (lo hi : Option Int) : List D := (ds.drop (HT.sIx ds.length 0 lo)).take (HT.sIx ds.length ds.length hi - HT.sIx ds.length 0 lo)
/-- an end of a slice -/
def OV (X : Cx) (o : Option Expr) (ρ : Rho) (M : Mem) (i : Option Int) : Prop := ∃ t, PO X o t ∧ ∀ σ S H (Q : Option Int → Hp → Prop), EnvR X.K S σ ρ → Cfg X.K S M H → (∀ S' H', Step M S H M S' H' → Cfg X.K S' M H' → Q i H') → t σ H Q
theorem ov_none : OV X none ρ M none := ⟨_, po_none, fun _ S H Q _ hC hR => hR S H .refl hC⟩
theorem ov_some (h : EV X a ρ M (.int i) M) : OV X (some a) ρ M (some i) := ⟨_, po_some peW, fun σ S H Q hE hC hR => h.use hE hC fun v S1 H1 s1 c1 r1 => ⟨i, rep_int.mp r1, hR S1 H1 s1 c1⟩⟩
variable {lo hi : Option Expr} {l u : Option Int} {p2 : Pos}
theorem fv_slice (ha : EV X a ρ M d M) (hl : OV X lo ρ M l) (hu : OV X hi ρ M u) (h : IsQ X.K M d ds) : FV X (.Subscript a (.Slice lo hi none p2) pos) ρ M (cutD ds l u) M := fun σ S H Q hE hC hR => by
  obtain ⟨tl, pl, hl⟩ := hl
  obtain ⟨tu, pu, hu⟩ := hu
  refine tE_of (pe_slice sl_list peW pl pu) (ha.use hE hC fun x S1 H1 s1 c1 r1 => hl σ S1 H1 _ (hE.mono s1.sub) c1 fun S2 H2 s2 c2 => hu σ S2 H2 _ (hE.mono (s1.sub.trans s2.sub)) c2 fun S3 H3 s3 c3 => ?_)
  obtain ⟨p, vs, rfl, z, q⟩ := h.get c3 (r1.mono (s2.sub.trans s3.sub))
  exact ⟨p, vs, rfl, z, fun l hl => fv_at ((s1.trans c1 s2).trans c2 s3) c3 hl (reps_cut q _ _) hR⟩
theorem ev_sliceT (ha : EV X a ρ M (.tup ds) M) (hl : OV X lo ρ M l) (hu : OV X hi ρ M u) : EV X (.Subscript a (.Slice lo hi none p2) pos) ρ M (.tup (cutD ds l u)) M := fun σ S H Q hE hC hR => by
  obtain ⟨tl, pl, hl⟩ := hl
  obtain ⟨tu, pu, hu⟩ := hu
  refine tE_of (pe_slice sl_tupA peW pl pu) (ha.use hE hC fun x S1 H1 s1 c1 r1 => hl σ S1 H1 _ (hE.mono s1.sub) c1 fun S2 H2 s2 c2 => hu σ S2 H2 _ (hE.mono (s1.sub.trans s2.sub)) c2 fun S3 H3 s3 c3 => ?_)
  have st := (s1.trans c1 s2).trans c2 s3
  have r3 := r1.mono (s2.sub.trans s3.sub)
  obtain ⟨p, vs, rfl, z, q⟩ := tup_get c3 r3
  refine ⟨p, vs, rfl, z, fun hw => ?_, fun hw l hl => ?_⟩
  · refine hR _ _ _ _ _ ⟨rfl, rfl⟩ st c3 ?_
    have e : cutD ds l u = ds := by
      unfold cutD
      rw [q.length, hw.1, hw.2, List.drop_zero, Nat.sub_zero, ← q.length, List.take_length]
    rw [e]; exact r3
  · obtain ⟨c4, s4⟩ := cfg_new (o := .tup (cutV vs _ _)) c3 hl
    exact hR _ _ _ _ _ ⟨rfl, rfl⟩ (st.trans c3 s4) c4 (rep_tup.mpr ⟨l, _, rfl, upd_same, (reps_cut q _ _).mono s4.sub⟩)
end
end RL
namespace RL
open PySem L2

/-! ### statements -/
/-- what is wanted behind: at the next statement, of the value handed back, behind break, behind continue -/
structure Post where
  nx : Rho → Mem → Prop
  rt : D → Mem → Prop
  bk : Rho → Mem → Prop := fun _ _ => False
  ct : Rho → Mem → Prop := fun _ _ => False
structure Fin (K : Fg) (M : Mem) (S H : Hp) (E : Ends) (P : Post) : Prop where
  nx : ∀ ρ' M' σ' S' H', P.nx ρ' M' → Step M S H M' S' H' → Cfg K S' M' H' → EnvR K S' σ' ρ' → E.nx σ' H'
  rt : Res K M S H E.rt P.rt
  bk : ∀ ρ' M' σ' S' H', P.bk ρ' M' → Step M S H M' S' H' → Cfg K S' M' H' → EnvR K S' σ' ρ' → E.bk σ' H'
  ct : ∀ ρ' M' σ' S' H', P.ct ρ' M' → Step M S H M' S' H' → Cfg K S' M' H' → EnvR K S' σ' ρ' → E.ct σ' H'
theorem Fin.after {K : Fg} {M M1 : Mem} {S S1 H H1 : Hp} {E : Ends} {P : Post} (h : Fin K M S H E P) (s : Step M S H M1 S1 H1) (c : Cfg K S1 M1 H1) : Fin K M1 S1 H1 E P :=
  ⟨fun ρ' M' σ' S' H' p st c' r => h.nx ρ' M' σ' S' H' p (s.trans c st) c' r, h.rt.after s c, fun ρ' M' σ' S' H' p st c' r => h.bk ρ' M' σ' S' H' p (s.trans c st) c' r, fun ρ' M' σ' S' H' p st c' r => h.ct ρ' M' σ' S' H' p (s.trans c st) c' r⟩
theorem Fin.imp {K : Fg} {M : Mem} {S H : Hp} {E : Ends} {P P' : Post} (h : Fin K M S H E P) (h1 : ∀ ρ M, P'.nx ρ M → P.nx ρ M) (h2 : ∀ d M, P'.rt d M → P.rt d M) (h3 : ∀ ρ M, P'.bk ρ M → P.bk ρ M) (h4 : ∀ ρ M, P'.ct ρ M → P.ct ρ M) : Fin K M S H E P' :=
  ⟨fun ρ' M' σ' S' H' p => h.nx ρ' M' σ' S' H' (h1 _ _ p), fun d M' v S' H' p => h.rt d M' v S' H' (h2 _ _ p), fun ρ' M' σ' S' H' p => h.bk ρ' M' σ' S' H' (h3 _ _ p), fun ρ' M' σ' S' H' p => h.ct ρ' M' σ' S' H' (h4 _ _ p)⟩
def SV (X : Cx) (st : List Stmt) (ρ : Rho) (M : Mem) (P : Post) : Prop := ∀ σ S H E, EnvR X.K S σ ρ → Cfg X.K S M H → Fin X.K M S H E P → tSs X st E σ H
def S1 (X : Cx) (st : Stmt) (ρ : Rho) (M : Mem) (P : Post) : Prop := ∀ σ S H E, EnvR X.K S σ ρ → Cfg X.K S M H → Fin X.K M S H E P → tSt X st E σ H

section
variable {X : Cx} {e a b c tg iter : Expr} {es : List Expr} {st : Stmt} {rest body els : List Stmt} {ρ ρ1 : Rho} {M M1 M2 M3 : Mem} {d d1 d2 d3 : D} {ds ds2 : List D} {P : Post} {pos p1 p2 : Pos} {i j : Int} {x : Str}

theorem sv_nil (h : P.nx ρ M) : SV X [] ρ M P := fun σ S H E hE hC hF => tSs_of pss_nil (hF.nx ρ M σ S H h .refl hC hE)
theorem sv_cons {R : Rho → Mem → Prop} (h1 : S1 X st ρ M { P with nx := R }) (h2 : ∀ ρ' M', R ρ' M' → SV X rest ρ' M' P) : SV X (st :: rest) ρ M P := fun σ S H E hE hC hF =>
  tSs_of (pss_cons psW pssW) (h1 σ S H _ hE hC ⟨fun ρ' M' σ' S' H' r s c e => h2 ρ' M' r σ' S' H' E e c (hF.after s c), hF.rt, hF.bk, hF.ct⟩)
theorem sv_one (h1 : S1 X st ρ M P) : SV X [st] ρ M P := fun σ S H E hE hC hF => tSs_of (pss_one psW) (h1 σ S H E hE hC hF)
/-- a statement that changes the slots and the store in one way -/
theorem sv_seq {ρ1 : Rho} (h1 : ∀ Q : Rho → Mem → Prop, Q ρ1 M1 → S1 X st ρ M { P with nx := Q }) (h2 : SV X rest ρ1 M1 P) : SV X (st :: rest) ρ M P :=
  sv_cons (h1 (fun ρ' M' => ρ' = ρ1 ∧ M' = M1) ⟨rfl, rfl⟩) fun ρ' M' ⟨e1, e2⟩ => by subst e1; subst e2; exact h2
theorem SV.imp {P' : Post} (h : SV X body ρ M P') (h1 : ∀ ρ M, P'.nx ρ M → P.nx ρ M) (h2 : ∀ d M, P'.rt d M → P.rt d M) (h3 : ∀ ρ M, P'.bk ρ M → P.bk ρ M) (h4 : ∀ ρ M, P'.ct ρ M → P.ct ρ M) : SV X body ρ M P :=
  fun σ S H E hE hC hF => h σ S H E hE hC (hF.imp h1 h2 h3 h4)
theorem SV.wk (h : SV X body ρ1 M P) (w : wk ρ ρ1) : SV X body ρ M P := fun σ S H E hE hC hF => h σ S H E (hE.wk w) hC hF

/-! name = e; s is the HandS rule -/
theorem s1_set {n : Nat} (h : PS X st (tAsg (tE X e) (gName n))) (he : EV X e ρ M d M1) {Q : Rho → Mem → Prop} (q : Q (ρ.set n (some d)) M1) : S1 X st ρ M { P with nx := Q } := fun σ S H E hE hC hF =>
  tSt_of h (he.use hE hC fun v S1 H1 s1 c1 r1 => hF.nx _ _ _ _ _ q s1 c1 ((hE.mono s1.sub).set r1 n))
theorem sv_set {n : Nat} (h : PS X st (tAsg (tE X e) (gName n))) (he : EV X e ρ M d M1) (k : SV X rest (ρ.set n (some d)) M1 P) : SV X (st :: rest) ρ M P := sv_seq (fun Q q => s1_set h he q) k
theorem sv_setP {n : Nat} {R : D → Mem → Prop} (h : PS X st (tAsg (tE X e) (gName n))) (he : EVp X e ρ M R) (k : ∀ d M', R d M' → SV X rest (ρ.set n (some d)) M' P) : SV X (st :: rest) ρ M P := fun σ S H E hE hC hF =>
  tSs_of (pss_cons psW pssW) (tSt_of h (he σ S H _ hE hC fun d M' v S' H' p s c r => k d M' p _ S' H' E ((hE.mono s.sub).set r n) c (hF.after s c)))
/-- name = a new list that will change -/
theorem sv_setN {n : Nat} (h : PS X st (tAsg (tE X e) (gName n))) (he : FV X e ρ M ds M1) (k : ∀ p, p ∉ dm M1 → SV X rest (ρ.set n (some (.ref p))) (M1 ++ [(p, .lst ds)]) P) : SV X (st :: rest) ρ M P := fun σ S H E hE hC hF =>
  tSs_of (pss_cons psW pssW) (tSt_of h (he σ S H _ hE hC fun p vs S' H' s c n1 n2 n3 e1 r => by
    have c2 : Cfg X.K S' (M1 ++ [(p, .lst ds)]) H' := ⟨c.sub, by
      rw [dm, List.map_append, List.nodup_append]
      refine ⟨c.nd, by simp, fun a ha b hb z => n3 ?_⟩
      have : b = p := by simpa using hb
      rw [← this, ← z]; exact ha, fun q hq => by
      rcases List.mem_append.mp hq with hq | hq
      · exact c.mem q hq
      · have : q = (p, .lst ds) := by simpa using hq
        subst this
        exact ⟨n2, _, e1, vs, rfl, r⟩⟩
    have s2 : Step M S H (M1 ++ [(p, .lst ds)]) S' H' := ⟨s.sub, s.frm, s.new, fun a ha => by
      rw [dm, List.map_append] at ha
      rcases List.mem_append.mp ha with ha | ha
      · exact s.dom a ha
      · have : a = p := by simpa using ha
        subst this
        exact .inr n1, s.kp⟩
    exact k p n3 _ S' H' E ((hE.mono s.sub).set (rep_ref.mpr rfl) n) c2 (hF.after s2 c2)))
/-- name = {}: a new dict that will change -/
theorem sv_setD {n : Nat} (h : PS X st (tAsg (tE X e) (gName n))) (hk : PE X e tDNewK) (k : ∀ p, p ∉ dm M → SV X rest (ρ.set n (some (.ref p))) (M ++ [(p, .dK [])]) P) : SV X (st :: rest) ρ M P := fun σ S H E hE hC hF =>
  tSs_of (pss_cons psW pssW) (tSt_of h (tE_of hk fun p hp => by
    obtain ⟨c2, s2⟩ := cfg_mut (m := .dK []) hC hp ⟨[], rfl, reps_nil.mpr rfl⟩
    have hn : p ∉ dm M := fun hm => by
      obtain ⟨q, hq, z⟩ := List.mem_map.mp hm
      obtain ⟨_, u, y, _⟩ := hC.mem q hq
      rw [z, hp] at y; cases y
    exact k p hn _ S _ E ((hE.mono s2.sub).set (rep_ref.mpr rfl) n) c2 (hF.after s2 c2)))
theorem sv_setDT {n : Nat} (h : PS X st (tAsg (tE X e) (gName n))) (hk : PE X e tDNewT) (k : ∀ p, p ∉ dm M → SV X rest (ρ.set n (some (.ref p))) (M ++ [(p, .dT [])]) P) : SV X (st :: rest) ρ M P := fun σ S H E hE hC hF =>
  tSs_of (pss_cons psW pssW) (tSt_of h (tE_of hk fun p hp => by
    obtain ⟨c2, s2⟩ := cfg_mut (m := .dT []) hC hp ⟨[], rfl, reps_nil.mpr rfl⟩
    have hn : p ∉ dm M := fun hm => by
      obtain ⟨q, hq, z⟩ := List.mem_map.mp hm
      obtain ⟨_, u, y, _⟩ := hC.mem q hq
      rw [z, hp] at y; cases y
    exact k p hn _ S _ E ((hE.mono s2.sub).set (rep_ref.mpr rfl) n) c2 (hF.after s2 c2)))

/-! return -/
theorem sv_ret {R : D → Mem → Prop} (he : EVp X e ρ M R) (q : ∀ d M', R d M' → P.rt d M') : SV X (.Return (some e) pos :: rest) ρ M P := fun σ S H E hE hC hF =>
  tSs_of (pss_cons (ps_ret peW) pssW) (he σ S H _ hE hC fun d M' v S' H' p s c r => hF.rt d M' v S' H' (q _ _ p) s c r)
theorem sv_retE (he : EV X e ρ M d M1) (q : P.rt d M1) : SV X (.Return (some e) pos :: rest) ρ M P := sv_ret he fun d' M' ⟨e1, e2⟩ => by subst e1; subst e2; exact q
theorem sv_retN (q : P.rt .non M) : SV X (.Return none pos :: rest) ρ M P := fun σ S H E hE hC hF => tSs_of (pss_cons ps_retN pssW) (hF.rt _ _ _ _ _ q .refl hC (rep_non.mpr rfl))
/-- a list of the store is handed back: it stays from now on -/
theorem ev_frz {p : Addr} {k : Nat} (he : EV X e ρ M (.ref p) M1) (hk : M1[k]? = some (p, .lst ds)) : EV X e ρ M (.lst ds) (M1.eraseIdx k) := fun σ S H Q hE hC hR =>
  he.use hE hC fun v S1 H1 s1 c1 r1 => by
    obtain ⟨o, ⟨vs, e1, r⟩, ho, c2, s2⟩ := cfg_frz c1 hk
    subst e1
    exact hR _ _ v _ _ ⟨rfl, rfl⟩ (s1.trans c1 s2) c2 (rep_lst.mpr ⟨p, vs, rep_ref.mp r1, upd_same, r.mono s2.sub⟩)
/-- what is not asked for any more is forgotten -/
theorem cfg_take {K : Fg} {S H : Hp} (k : Nat) (c : Cfg K S M H) : Cfg K S (M.take k) H :=
  ⟨c.sub, by rw [dm, List.map_take]; exact (List.take_sublist k (dm M)).nodup c.nd, fun q hq => c.mem q (List.mem_of_mem_take hq)⟩
theorem step_take {S H S' H' : Hp} (k : Nat) (s : Step M S H M1 S' H') : Step M S H (M1.take k) S' H' :=
  ⟨s.sub, s.frm, s.new, fun a ha => s.dom a (by rw [dm, List.map_take] at ha; exact List.mem_of_mem_take ha), s.kp⟩
theorem ev_drop (k : Nat) (h : EV X e ρ M d M1) : EV X e ρ M d (M1.take k) := fun σ S H Q hE hC hR =>
  h.use hE hC fun v S1 H1 s1 c1 r1 => hR _ _ v _ _ ⟨rfl, rfl⟩ (step_take k s1) (cfg_take k c1) r1
/-- an expression whose value is dropped -/
theorem sv_expr {R : D → Mem → Prop} (hs : swapsWith e none pos.line X.env = pure false) (he : EVp X e ρ M R) (k : ∀ d M', R d M' → SV X rest ρ M' P) : SV X (.Expr e pos :: rest) ρ M P := fun σ S H E hE hC hF =>
  tSs_of (pss_cons (ps_expr peW hs) pssW) (he σ S H _ hE hC fun d M' v S' H' p s c r => k d M' p σ S' H' E (hE.mono s.sub) c (hF.after s c))
theorem sv_exprE (hs : swapsWith e none pos.line X.env = pure false) (he : EV X e ρ M d M1) (k : SV X rest ρ M1 P) : SV X (.Expr e pos :: rest) ρ M P := sv_expr hs he fun d' M' ⟨e1, e2⟩ => by subst e1; subst e2; exact k
theorem sv_pass (k : SV X rest ρ M P) : SV X (.Pass pos :: rest) ρ M P := fun σ S H E hE hC hF =>
  tSs_of (pss_cons ps_pass pssW) (k σ S H E hE hC hF)
theorem sv_brk (q : P.bk ρ M) : SV X (.Break pos :: rest) ρ M P := fun σ S H E hE hC hF => tSs_of (pss_cons ps_break pssW) (hF.bk ρ M σ S H q .refl hC hE)
theorem sv_cont (q : P.ct ρ M) : SV X (.Continue pos :: rest) ρ M P := fun σ S H E hE hC hF => tSs_of (pss_cons ps_continue pssW) (hF.ct ρ M σ S H q .refl hC hE)

/-! if -/
variable {k k2 : Bool}
theorem s1_if (hc : TV X c ρ M k M1) (h1 : k = true → SV X body ρ M1 P) (h2 : k = false → SV X els ρ M1 P) : S1 X (.If c body els pos) ρ M P := fun σ S H E hE hC hF =>
  tSt_of (ps_if ptW pssW pssW) (hc σ S H _ hE hC fun S1 H1 s1 c1 => by
    cases k with
    | true =>
      rw [if_pos rfl]
      exact h1 rfl σ S1 H1 E (hE.mono s1.sub) c1 (hF.after s1 c1)
    | false =>
      rw [if_neg Bool.false_ne_true]
      exact h2 rfl σ S1 H1 E (hE.mono s1.sub) c1 (hF.after s1 c1))
/-- if that leaves (or both ways of which come to R) -/
theorem sv_if {R : Rho → Mem → Prop} (hc : TV X c ρ M k M1) (h1 : k = true → SV X body ρ M1 { P with nx := R }) (h2 : k = false → SV X els ρ M1 { P with nx := R }) (h3 : ∀ ρ' M', R ρ' M' → SV X rest ρ' M' P) : SV X (.If c body els pos :: rest) ρ M P :=
  sv_cons (s1_if hc h1 h2) h3
/-- if test: leave -/
theorem sv_ifL (hc : TV X c ρ M k M1) (h1 : k = true → SV X body ρ M1 { P with nx := fun _ _ => False }) (h2 : k = false → SV X rest ρ M1 P) : SV X (.If c body [] pos :: rest) ρ M P :=
  sv_if (R := fun ρ' M' => ρ' = ρ ∧ M' = M1 ∧ k = false) hc (fun e => (h1 e).imp (fun _ _ z => z.elim) (fun _ _ z => z) (fun _ _ z => z) (fun _ _ z => z)) (fun e => sv_nil ⟨rfl, rfl, e⟩) fun ρ' M' ⟨e1, e2, e3⟩ => by subst e1; subst e2; exact h2 e3

/-! targets -/
/-- a name's slot, or the slots of a tuple of names -/
inductive Tg where
  | nm (i : Nat)
  | tp (is : List Nat)
def gSeq : List Nat → TGs
  | [] => gNil
  | i :: is => gCons (gName i) (gSeq is)
def Tg.t (K : Fg) : Tg → TG
  | .nm i => gName i
  | .tp is => gTup K is.length (gSeq is)
def Tg.sl : Tg → List Nat
  | .nm i => [i]
  | .tp is => is
def setA : Rho → List Nat → List D → Rho
  | ρ, i :: is, d :: ds => setA (ρ.set i (some d)) is ds
  | ρ, _, _ => ρ
def setV : L2.St → List Nat → List V → L2.St
  | σ, i :: is, v :: vs => setV (σ.set i (some v)) is vs
  | σ, _, _ => σ
/-- the slots behind; a tuple must have as many items -/
def Tg.put (ρ : Rho) : Tg → D → Rho
  | .nm i, d => ρ.set i (some d)
  | .tp is, .tup ds => setA ρ is ds
  | .tp _, _ => ρ
def Tg.fits : Tg → D → Prop
  | .nm _, _ => True
  | .tp is, .tup ds => ds.length = is.length
  | .tp _, _ => False
theorem EnvR.setA {K : Fg} {S : Hp} : ∀ {is : List Nat} {ds : List D} {vs : List V} {σ : L2.St} {ρ : Rho}, EnvR K S σ ρ → Reps K S ds vs → EnvR K S (setV σ is vs) (RL.setA ρ is ds)
  | [], [], _, _, _, h, r => by rw [reps_nil.mp r]; exact h
  | [], d :: ds, _, _, _, h, r => by obtain ⟨v, ws, rfl, _, _⟩ := reps_cons.mp r; exact h
  | i :: is, [], _, _, _, h, r => by rw [reps_nil.mp r]; exact h
  | i :: is, d :: ds, _, _, _, h, r => by
    obtain ⟨v, ws, rfl, a, b⟩ := reps_cons.mp r
    exact EnvR.setA (is := is) (ds := ds) (vs := ws) (h.set a i) b
theorem gSeq_set {Q : L2.St → Hp → Prop} {H : Hp} : ∀ {is : List Nat} {vs : List V} {σ : L2.St}, vs.length = is.length → Q (setV σ is vs) H → gSeq is vs σ H Q
  | [], [], _, _, q => ⟨rfl, q⟩
  | i :: is, v :: vs, σ, hl, q => ⟨v, vs, rfl, gSeq_set (by simpa using hl) q⟩
theorem Tg.use {K : Fg} {S H : Hp} {M : Mem} {σ : L2.St} {ρ : Rho} {v : V} {d : D} {Q : L2.St → Hp → Prop} (t : Tg) (hE : EnvR K S σ ρ) (c : Cfg K S M H) (r : Rep K S d v) (hf : t.fits d)
    (q : ∀ σ', EnvR K S σ' (t.put ρ d) → (∀ ws, (∀ i ∈ t.sl, i ∈ ws) → wipe σ' ws = wipe σ ws) → Q σ' H) : t.t K v σ H Q := by
  have wset : ∀ (σ : L2.St) (i : Nat) (x : Option V) (ws : List Nat), i ∈ ws → wipe (σ.set i x) ws = wipe σ ws := by
    intro σ i x ws
    induction ws with
    | nil => intro h; cases h
    | cons w ws ih =>
      intro h
      show (wipe (σ.set i x) ws).set w none = (wipe σ ws).set w none
      by_cases hw : i ∈ ws
      · rw [ih hw]
      · have e : i = w := by
          rcases List.mem_cons.mp h with e | e
          · exact e
          · exact absurd e hw
        subst e
        refine List.ext_getElem? fun j => ?_
        by_cases hj : i = j
        · subst hj
          by_cases hl : i < σ.length
          · rw [List.getElem?_set_self (by rw [wipe_length, List.length_set]; exact hl), List.getElem?_set_self (by rw [wipe_length]; exact hl)]
          · rw [List.getElem?_eq_none_iff.mpr (by rw [List.length_set, wipe_length, List.length_set]; omega), List.getElem?_eq_none_iff.mpr (by rw [List.length_set, wipe_length]; omega)]
        · rw [List.getElem?_set_ne hj, List.getElem?_set_ne hj]
          have : ∀ (us : List Nat) (σ : L2.St), (wipe (σ.set i x) us)[j]? = (wipe σ us)[j]? := by
            intro us
            induction us with
            | nil => intro σ; exact List.getElem?_set_ne hj
            | cons u us ih2 =>
              intro σ
              show ((wipe (σ.set i x) us).set u none)[j]? = ((wipe σ us).set u none)[j]?
              by_cases hu : u = j
              · subst hu
                by_cases hl : u < σ.length
                · rw [List.getElem?_set_self (by rw [wipe_length, List.length_set]; exact hl), List.getElem?_set_self (by rw [wipe_length]; exact hl)]
                · rw [List.getElem?_eq_none_iff.mpr (by rw [List.length_set, wipe_length, List.length_set]; omega), List.getElem?_eq_none_iff.mpr (by rw [List.length_set, wipe_length]; omega)]
              · rw [List.getElem?_set_ne hu, List.getElem?_set_ne hu]
                exact ih2 σ
          exact this ws σ
  have wseq : ∀ (is : List Nat) (vs : List V) (σ : L2.St) (ws : List Nat), (∀ i ∈ is, i ∈ ws) → wipe (setV σ is vs) ws = wipe σ ws := by
    intro is
    induction is with
    | nil => intro vs σ ws _; cases vs <;> rfl
    | cons i is ih =>
      intro vs σ ws h
      cases vs with
      | nil => rfl
      | cons v vs =>
        show wipe (setV (σ.set i (some v)) is vs) ws = _
        rw [ih vs _ ws fun j hj => h j (List.mem_cons_of_mem _ hj), wset σ i _ ws (h i List.mem_cons_self)]
  cases t with
  | nm i => exact q _ (hE.set r i) fun ws h => wset σ i _ ws (h i (List.mem_singleton.mpr rfl))
  | tp is =>
    cases d with
    | tup ds =>
      obtain ⟨a, vs, rfl, z, rs⟩ := tup_get c r
      have hl : vs.length = is.length := by rw [← rs.length]; exact hf
      exact ⟨a, vs, rfl, z, hl, gSeq_set hl (q _ (hE.setA rs) fun ws h => wseq is vs σ ws h)⟩
    | non => exact hf.elim
    | bl _ => exact hf.elim
    | int _ => exact hf.elim
    | str _ => exact hf.elim
    | ref _ => exact hf.elim
    | ty _ => exact hf.elim
    | lst _ => exact hf.elim
    | obj _ => exact hf.elim
/-- a, b = e, or any target -/
theorem sv_asg (t : Tg) (h : PS X st (tAsg (tE X e) (t.t X.K))) (he : EV X e ρ M d M1) (hf : t.fits d) (k : SV X rest (t.put ρ d) M1 P) : SV X (st :: rest) ρ M P := fun σ S H E hE hC hF =>
  tSs_of (pss_cons psW pssW) (tSt_of h (he.use hE hC fun v S1 H1 s1 c1 r1 => t.use (hE.mono s1.sub) c1 r1 hf fun σ' e' _ => k σ' S1 H1 E e' c1 (hF.after s1 c1)))
/-- a, b = x, y -/
theorem sv_par {n m : Nat} {a b : Expr} (h : PS X st (tPar n m (tA X [a, b]))) (he : AV X [a, b] ρ M [d1, d2] M1) (k : SV X rest ((ρ.set n (some d1)).set m (some d2)) M1 P) : SV X (st :: rest) ρ M P := fun σ S H E hE hC hF =>
  tSs_of (pss_cons psW pssW) (tSt_of h (he σ S H _ hE hC fun vs S1 H1 s1 c1 r1 => by
    obtain ⟨v, w, rfl, q1, q2⟩ := two_of r1
    exact ⟨v, w, rfl, k _ S1 H1 E (((hE.mono s1.sub).set q1 n).set q2 m) c1 (hF.after s1 c1)⟩))
/-- xs[i] = e, xs a list of the store -/
theorem sv_setL {p : Addr} {kk : Nat} {n : Nat} (h : PS X st (tAsg (tE X e) (gSub (tE X a) (tE X b) rSetL))) (he : EV X e ρ M d M1) (ha : EV X a ρ M1 (.ref p) M2) (hb : EV X b ρ M2 (.int i) M3) (hk : M3[kk]? = some (p, .lst ds)) (hi : ixN ds.length i = some n)
    (k : SV X rest ρ (M3.set kk (p, .lst (ds.set n d))) P) : SV X (st :: rest) ρ M P := fun σ S H E hE hC hF =>
  tSs_of (pss_cons psW pssW) (tSt_of h (he.use hE hC fun v S1 H1 s1 c1 r1 => ha.use (hE.mono s1.sub) c1 fun x S2 H2 s2 c2 r2 => hb.use (hE.mono (s1.sub.trans s2.sub)) c2 fun y S3 H3 s3 c3 r3 => by
    obtain ⟨o, ho, vs, e1, q⟩ := c3.at hk
    subst e1
    have st3 := (s1.trans c1 s2).trans c2 s3
    obtain ⟨c4, s4⟩ := cfg_set (m' := .lst (ds.set n d)) (o := .lst (vs.set n v)) c3 hk ⟨_, rfl, q.set (r1.mono (s2.sub.trans s3.sub)) n⟩
    exact ⟨p, vs, i, n, rep_ref.mp r2, rep_int.mp r3, ho, by rw [← q.length]; exact hi, k σ S3 _ E (hE.mono st3.sub) c4 (hF.after (st3.trans c3 s4) c4)⟩))
/-- xs.append(e), xs a list of the store -/
theorem ev_append {p : Addr} {kk : Nat} (h : PE X e (tBM X.K "list" rAppend (tE X a) (tA X [b]))) (ha : EV X a ρ M (.ref p) M1) (hb : AV X [b] ρ M1 [d] M2) (hk : M2[kk]? = some (p, .lst ds)) (hk1 : ∃ ds', M1[kk]? = some (p, .lst ds')) (hl : ds.length < sizeLine) :
    EV X e ρ M .non (M2.set kk (p, .lst (ds ++ [d]))) := fun σ S H Q hE hC hR =>
  tE_of h (ha.use hE hC fun x S1 H1 s1 c1 r1 => by
    obtain ⟨ds', hk1⟩ := hk1
    obtain ⟨o1, ho1, vs1, e1, _⟩ := c1.at hk1
    subst e1
    rw [rep_ref.mp r1]
    refine ⟨.inl ⟨rfl, vs1, SqL.of ho1⟩, hb σ S1 H1 _ (hE.mono s1.sub) c1 fun ys S2 H2 s2 c2 r2 => ?_⟩
    obtain ⟨y, rfl, r3⟩ := one_of r2
    obtain ⟨o, ho, vs, e1, q⟩ := c2.at hk
    subst e1
    obtain ⟨c4, s4⟩ := cfg_set (m' := .lst (ds ++ [d])) (o := .lst (vs ++ [y])) c2 hk ⟨_, rfl, q.append (.one r3)⟩
    exact ⟨p, vs, y, rfl, rfl, ho, by rw [← q.length]; exact hl, hR _ _ _ _ _ ⟨rfl, rfl⟩ ((s1.trans c1 s2).trans c2 s4) c4 (rep_non.mpr rfl)⟩)

/-! ### what is walked -/
/-- J hands out n items, xs, as long as S stands -/
def Yields (K : Fg) (S : Hp) (J : It) (n : Nat) (xs : Nat → D) : Prop :=
  ∀ S2 M H2, Same S S2 → Cfg K S2 M H2 → ∀ i, (i < n → J.go i H2 ∧ ∀ x H', J.yld i H2 x H' → ∃ S', Step M S2 H2 M S' H' ∧ Cfg K S' M H' ∧ Rep K S' (xs i) x) ∧ (n ≤ i → J.stop i H2)
def IV (X : Cx) (tg iter : Expr) (ρ : Rho) (M : Mem) (n : Nat) (xs : Nat → D) (M' : Mem) : Prop :=
  ∀ σ S H (R : It → Hp → Prop), EnvR X.K S σ ρ → Cfg X.K S M H → (∀ J S' H', Step M S H M' S' H' → Cfg X.K S' M' H' → Yields X.K S' J n xs → R J H') → tI X tg iter σ H R
theorem iv_listD (he : EV X e ρ M (.lst ds) M1) : IV X tg e ρ M ds.length (fun i => ds.getD i .non) M1 := fun σ S H R hE hC hR =>
  tI_of (pi_list peW) (he.use hE hC fun v S1 H1 s1 c1 r1 => by
    obtain ⟨p, vs, rfl, z, q⟩ := rep_lst.mp r1
    refine ⟨p, rfl, ⟨vs, .of (c1.sub _ _ z)⟩, hR _ S1 H1 s1 c1 fun S2 M' H2 hs c2 i => ⟨fun hi => ?_, fun hi => ⟨vs, .of (c2.sub _ _ (hs _ _ z)), by rw [← q.length]; exact hi⟩⟩⟩
    have hd : ds[i]? = some (ds.getD i .non) := by rw [List.getD_eq_getElem?_getD, List.getElem?_eq_getElem hi]; rfl
    obtain ⟨w, e1, r⟩ := q.get hd
    refine ⟨⟨vs, w, .of (c2.sub _ _ (hs _ _ z)), e1⟩, fun x H' ⟨e2, y⟩ => ?_⟩
    subst e2
    have e3 := y vs (.of (c2.sub _ _ (hs _ _ z)))
    rw [e1] at e3; cases e3
    exact ⟨S2, .refl, c2, r.mono hs⟩)
theorem iv_tupD (he : EV X e ρ M (.tup ds) M1) : IV X tg e ρ M ds.length (fun i => ds.getD i .non) M1 := fun σ S H R hE hC hR =>
  tI_of (pi_tup peW) (he.use hE hC fun v S1 H1 s1 c1 r1 => by
    obtain ⟨p, vs, rfl, z, q⟩ := rep_tup.mp r1
    refine ⟨p, rfl, ⟨vs, .of (c1.sub _ _ z)⟩, hR _ S1 H1 s1 c1 fun S2 M' H2 hs c2 i => ⟨fun hi => ?_, fun hi => ⟨vs, .of (c2.sub _ _ (hs _ _ z)), by rw [← q.length]; exact hi⟩⟩⟩
    have hd : ds[i]? = some (ds.getD i .non) := by rw [List.getD_eq_getElem?_getD, List.getElem?_eq_getElem hi]; rfl
    obtain ⟨w, e1, r⟩ := q.get hd
    refine ⟨⟨vs, w, SqT.of (c2.sub _ _ (hs _ _ z)), e1⟩, fun x H' ⟨e2, y⟩ => ?_⟩
    subst e2
    have e3 := y vs (SqT.of (c2.sub _ _ (hs _ _ z)))
    rw [e1] at e3; cases e3
    exact ⟨S2, .refl, c2, r.mono hs⟩)
theorem yields_range {K : Fg} {S : Hp} {lo : Int} {n : Nat} : Yields K S (Itr lo n) n (fun i => .int (lo + i)) := fun S2 M' H2 hs c2 i =>
  ⟨fun hi => ⟨hi, fun x H' ⟨e1, e2⟩ => by subst e1; subst e2; exact ⟨S2, .refl, c2, rep_int.mpr rfl⟩⟩, fun hi => hi⟩
theorem iv_range1 (h : PI X tg iter (iRng1 (tA X [a]))) (he : AV X [a] ρ M [.int j] M1) (h1 : -(2 ^ 62) ≤ j) (h2 : j < 2 ^ 62) : IV X tg iter ρ M j.toNat (fun i => .int (0 + (i : Int))) M1 := fun σ S H R hE hC hR =>
  tI_of h (he σ S H _ hE hC fun vs S1 H1 s1 c1 r1 => by
    obtain ⟨v, rfl, q⟩ := one_of r1
    rw [rep_int.mp q]
    exact ⟨j, rfl, h1, h2, hR _ S1 H1 s1 c1 yields_range⟩)
theorem iv_range2 (h : PI X tg iter (iRng2 (tA X [a, b]))) (he : AV X [a, b] ρ M [.int i, .int j] M1) (hb : -(2 ^ 62) ≤ i ∧ i < 2 ^ 62 ∧ -(2 ^ 62) ≤ j ∧ j < 2 ^ 62) : IV X tg iter ρ M (j - i).toNat (fun n => .int (i + (n : Int))) M1 := fun σ S H R hE hC hR =>
  tI_of h (he σ S H _ hE hC fun vs S1 H1 s1 c1 r1 => by
    obtain ⟨v, w, rfl, q, q2⟩ := two_of r1
    rw [rep_int.mp q, rep_int.mp q2]
    exact ⟨i, j, rfl, hb, hR _ S1 H1 s1 c1 yields_range⟩)
/-- zip of two lists -/
theorem iv_zipL (h : PI X tg iter (RZ.iZipA X.K (tA X [a, b]))) (he : AV X [a, b] ρ M [.lst ds, .lst ds2] M1) : IV X tg iter ρ M (min ds.length ds2.length) (fun i => .tup [ds.getD i .non, ds2.getD i .non]) M1 := fun σ S H R hE hC hR =>
  tI_of h (he σ S H _ hE hC fun vs S1 H1 s1 c1 r1 => by
    obtain ⟨v, w, rfl, q, q2⟩ := two_of r1
    obtain ⟨p, vs, rfl, z, r⟩ := rep_lst.mp q
    obtain ⟨p2, vs2, rfl, z2, r2⟩ := rep_lst.mp q2
    refine ⟨p, p2, vs, vs2, rfl, .inl ⟨.of (c1.sub _ _ z), .of (c1.sub _ _ z2), hR _ S1 H1 s1 c1 fun S2 M' H2 hs c2 i => ⟨fun hi => ?_, fun hi => ?_⟩⟩⟩
    · have hd : ds[i]? = some (ds.getD i .non) := by rw [List.getD_eq_getElem?_getD, List.getElem?_eq_getElem (by omega)]; rfl
      have hd2 : ds2[i]? = some (ds2.getD i .non) := by rw [List.getD_eq_getElem?_getD, List.getElem?_eq_getElem (by omega)]; rfl
      obtain ⟨w, e1, q1⟩ := r.get hd
      obtain ⟨w2, e2, q2⟩ := r2.get hd2
      have zz := c2.sub _ _ (hs _ _ z)
      have zz2 := c2.sub _ _ (hs _ _ z2)
      refine ⟨⟨vs, vs2, w, w2, .of zz, .of zz2, e1, e2⟩, fun x H' ⟨T, x1, y1, e3, hT, e4, f1, f2⟩ => ?_⟩
      subst e3; subst e4
      have g1 := f1 vs (.of zz)
      have g2 := f2 vs2 (.of zz2)
      rw [e1] at g1; cases g1
      rw [e2] at g2; cases g2
      obtain ⟨c3, s3⟩ := cfg_new (o := .tup [w, w2]) c2 hT
      exact ⟨_, s3, c3, rep_tup.mpr ⟨T, _, rfl, upd_same, reps_cons.mpr ⟨w, _, rfl, q1.mono (hs.trans s3.sub), .one (q2.mono (hs.trans s3.sub))⟩⟩⟩
    · exact ⟨vs, vs2, .of (c2.sub _ _ (hs _ _ z)), .of (c2.sub _ _ (hs _ _ z2)), by rw [← r.length, ← r2.length]; omega⟩)
/-- zip of two tuples -/
theorem iv_zipT (h : PI X tg iter (RZ.iZipA X.K (tA X [a, b]))) (he : AV X [a, b] ρ M [.tup ds, .tup ds2] M1) : IV X tg iter ρ M (min ds.length ds2.length) (fun i => .tup [ds.getD i .non, ds2.getD i .non]) M1 := fun σ S H R hE hC hR =>
  tI_of h (he σ S H _ hE hC fun vs S1 H1 s1 c1 r1 => by
    obtain ⟨v, w, rfl, q, q2⟩ := two_of r1
    obtain ⟨p, vs, rfl, z, r⟩ := rep_tup.mp q
    obtain ⟨p2, vs2, rfl, z2, r2⟩ := rep_tup.mp q2
    refine ⟨p, p2, vs, vs2, rfl, .inr ⟨SqT.of (c1.sub _ _ z), SqT.of (c1.sub _ _ z2), hR _ S1 H1 s1 c1 fun S2 M' H2 hs c2 i => ⟨fun hi => ?_, fun hi => ?_⟩⟩⟩
    · have hd : ds[i]? = some (ds.getD i .non) := by rw [List.getD_eq_getElem?_getD, List.getElem?_eq_getElem (by omega)]; rfl
      have hd2 : ds2[i]? = some (ds2.getD i .non) := by rw [List.getD_eq_getElem?_getD, List.getElem?_eq_getElem (by omega)]; rfl
      obtain ⟨w, e1, q1⟩ := r.get hd
      obtain ⟨w2, e2, q2⟩ := r2.get hd2
      have zz := SqT.of (K := X.K) (c2.sub _ _ (hs _ _ z))
      have zz2 := SqT.of (K := X.K) (c2.sub _ _ (hs _ _ z2))
      refine ⟨⟨vs, vs2, w, w2, zz, zz2, e1, e2⟩, fun x H' ⟨T, x1, y1, e3, hT, e4, f1, f2⟩ => ?_⟩
      subst e3; subst e4
      have g1 := f1 vs zz
      have g2 := f2 vs2 zz2
      rw [e1] at g1; cases g1
      rw [e2] at g2; cases g2
      obtain ⟨c3, s3⟩ := cfg_new (o := .tup [w, w2]) c2 hT
      exact ⟨_, s3, c3, rep_tup.mpr ⟨T, _, rfl, upd_same, reps_cons.mpr ⟨w, _, rfl, q1.mono (hs.trans s3.sub), .one (q2.mono (hs.trans s3.sub))⟩⟩⟩
    · exact ⟨vs, vs2, SqT.of (c2.sub _ _ (hs _ _ z)), SqT.of (c2.sub _ _ (hs _ _ z2)), by rw [← r.length, ← r2.length]; omega⟩)
/-- enumerate of a list -/
theorem iv_enumL (h : PI X tg iter (iEnum X.K (tA X [a]))) (he : AV X [a] ρ M [.lst ds] M1) : IV X tg iter ρ M ds.length (fun i => .tup [.int (i : Int), ds.getD i .non]) M1 := fun σ S H R hE hC hR =>
  tI_of h (he σ S H _ hE hC fun vs S1 H1 s1 c1 r1 => by
    obtain ⟨v, rfl, q⟩ := one_of r1
    obtain ⟨p, vs, rfl, z, r⟩ := rep_lst.mp q
    refine ⟨p, vs, rfl, .of (c1.sub _ _ z), hR _ S1 H1 s1 c1 fun S2 M' H2 hs c2 i => ⟨fun hi => ?_, fun hi => ?_⟩⟩
    · have hd : ds[i]? = some (ds.getD i .non) := by rw [List.getD_eq_getElem?_getD, List.getElem?_eq_getElem hi]; rfl
      obtain ⟨w, e1, q1⟩ := r.get hd
      have zz := c2.sub _ _ (hs _ _ z)
      refine ⟨⟨vs, w, .of zz, e1⟩, fun x H' ⟨T, y, e3, hT, e4, f1⟩ => ?_⟩
      subst e3; subst e4
      have g1 := f1 vs (.of zz)
      rw [e1] at g1; cases g1
      obtain ⟨c3, s3⟩ := cfg_new (o := .tup [.int (i : Int), w]) c2 hT
      exact ⟨_, s3, c3, rep_tup.mpr ⟨T, _, rfl, upd_same, reps_cons.mpr ⟨_, _, rfl, rep_int.mpr rfl, .one (q1.mono (hs.trans s3.sub))⟩⟩⟩
    · exact ⟨vs, .of (c2.sub _ _ (hs _ _ z)), by rw [← r.length]; exact hi⟩)

theorem IV.cg {n n' : Nat} {xs ys : Nat → D} (h : IV X tg iter ρ M n xs M1) (hn : n = n') (he : ∀ i, i < n → xs i = ys i) : IV X tg iter ρ M n' ys M1 := fun σ S H R hE hC hR =>
  h σ S H R hE hC fun J S' H' s c y => hR J S' H' s c fun S2 M' H2 hs c2 i => by
    subst hn
    refine ⟨fun hi => ?_, (y S2 M' H2 hs c2 i).2⟩
    rw [← he i hi]
    exact (y S2 M' H2 hs c2 i).1 hi
/-- a tuple, a list of the f of things -/
theorem iv_tupM {α : Type} {f : α → D} {as : List α} (d0 : α) (he : EV X e ρ M (.tup (as.map f)) M1) : IV X tg e ρ M as.length (fun i => f (as.getD i d0)) M1 :=
  (iv_tupD he).cg (by simp) fun i hi => by
    rw [List.length_map] at hi
    simp [List.getD_eq_getElem?_getD, hi]
theorem iv_listM {α : Type} {f : α → D} {as : List α} (d0 : α) (he : EV X e ρ M (.lst (as.map f)) M1) : IV X tg e ρ M as.length (fun i => f (as.getD i d0)) M1 :=
  (iv_listD he).cg (by simp) fun i hi => by
    rw [List.length_map] at hi
    simp [List.getD_eq_getElem?_getD, hi]
/-- the same state, otherwise written -/
theorem SV.to {ρ' : Rho} {M' : Mem} (e1 : ρ' = ρ) (e2 : M' = M) (h : SV X body ρ M P) : SV X body ρ' M' P := by subst e1; subst e2; exact h

/-! ### loops -/
/-- W: what holds ahead of the turn i -/
theorem s1_for (t : Tg) {n : Nat} {xs : Nat → D} (h : PS X st (tFor (tI X tg iter) (t.t X.K) (tSs X body))) (hi : IV X tg iter ρ M n xs M1) (W : Nat → Rho → Mem → Prop) (w0 : W 0 ρ M1) (hf : ∀ i, i < n → t.fits (xs i))
    (turn : ∀ i ρ' M', i < n → W i ρ' M' → SV X body (t.put ρ' (xs i)) M' { nx := W (i + 1), rt := P.rt, bk := P.nx, ct := W (i + 1) }) (done : ∀ ρ' M', W n ρ' M' → P.nx ρ' M') : S1 X st ρ M P := fun σ S H E hE hC hF =>
  tSt_of h (hi σ S H _ hE hC fun J S1 H1 s1 c1 yl => by
    refine ⟨fun i m σ' H' => m = n - i ∧ i ≤ n ∧ ∃ ρ' M' S', W i ρ' M' ∧ EnvR X.K S' σ' ρ' ∧ Cfg X.K S' M' H' ∧ Step M S H M' S' H' ∧ Same S1 S', ⟨n, rfl, Nat.zero_le _, ρ, M1, S1, w0, hE.mono s1.sub, c1, s1, Same.refl _⟩, ?_⟩
    rintro i m σ' H' ⟨rfl, hin, ρ', M', S', w, e', c', st', ss⟩
    by_cases hlt : i < n
    · obtain ⟨hgo, hy⟩ := (yl S' M' H' ss c' i).1 hlt
      refine .inr ⟨hgo, fun σ2 H2 => ∃ ρ2 M2 S2, W (i + 1) ρ2 M2 ∧ EnvR X.K S2 σ2 ρ2 ∧ Cfg X.K S2 M2 H2 ∧ Step M S H M2 S2 H2 ∧ Same S1 S2, fun σ2 H2 ⟨ρ2, M2, S2, q1, q2, q3, q4, q5⟩ => ⟨n - (i + 1), by omega, rfl, hlt, ρ2, M2, S2, q1, q2, q3, q4, q5⟩, fun x H2 y => ?_⟩
      obtain ⟨S2, s2, c2, r2⟩ := hy x H2 y
      refine t.use (e'.mono s2.sub) c2 r2 (hf i hlt) fun σ3 e3 _ => turn i ρ' M' hlt w σ3 S2 H2 _ e3 c2 ?_
      have st2 := st'.trans c' s2
      refine ⟨fun ρ4 M4 σ4 S4 H4 p s4 c4 e4 => ⟨ρ4, M4, S4, p, e4, c4, st2.trans c2 s4, (ss.trans s2.sub).trans s4.sub⟩, fun d M4 v S4 H4 p s4 c4 r4 => hF.rt d M4 v S4 H4 p (st2.trans c2 s4) c4 r4, fun ρ4 M4 σ4 S4 H4 p s4 c4 e4 => hF.nx ρ4 M4 σ4 S4 H4 p (st2.trans c2 s4) c4 e4, fun ρ4 M4 σ4 S4 H4 p s4 c4 e4 => ⟨ρ4, M4, S4, p, e4, c4, st2.trans c2 s4, (ss.trans s2.sub).trans s4.sub⟩⟩
    · have e : i = n := by omega
      subst e
      exact .inl ⟨(yl S' M' H' ss c' i).2 (Nat.le_refl _), hF.nx ρ' M' σ' S' H' (done _ _ w) st' c' e'⟩)
/-- a loop each turn of which is known: slots and store ahead of the turn i -/
theorem sv_for (t : Tg) {n : Nat} {xs : Nat → D} (h : PS X st (tFor (tI X tg iter) (t.t X.K) (tSs X body))) (hi : IV X tg iter ρ M n xs M1) (ρf : Nat → Rho) (Mf : Nat → Mem) (w0 : RL.wk ρ (ρf 0)) (m0 : Mf 0 = M1) (hf : ∀ i, i < n → t.fits (xs i))
    (turn : ∀ i, i < n → SV X body (t.put (ρf i) (xs i)) (Mf i) { nx := fun ρ' M' => RL.wk ρ' (ρf (i + 1)) ∧ M' = Mf (i + 1), rt := P.rt, bk := fun _ _ => False, ct := fun ρ' M' => RL.wk ρ' (ρf (i + 1)) ∧ M' = Mf (i + 1) }) (k : SV X rest (ρf n) (Mf n) P) : SV X (st :: rest) ρ M P := by
  refine sv_cons (R := fun ρ' M' => RL.wk ρ' (ρf n) ∧ M' = Mf n) (s1_for t h hi (fun i ρ' M' => RL.wk ρ' (ρf i) ∧ M' = Mf i) ⟨w0, m0.symm⟩ hf (fun i ρ' M' hi' ⟨w, e⟩ => ?_) fun ρ' M' z => z) fun ρ' M' ⟨w, e⟩ => by subst e; exact k.wk w
  subst e
  refine ((turn i hi').wk ?_).imp (fun _ _ z => z) (fun _ _ z => z) (fun _ _ z => z.elim) (fun _ _ z => z)
  have wset : ∀ {a b : Rho} (j : Nat) (x : D), RL.wk a b → RL.wk (a.set j (some x)) (b.set j (some x)) := by
    intro a
    induction a with
    | nil => intro b j x h; cases b with
      | nil => exact trivial
      | cons y b => exact h.elim
    | cons z a ih =>
      intro b j x h
      cases b with
      | nil => exact h.elim
      | cons y b =>
        cases j with
        | zero => cases y with
          | none => exact ⟨rfl, h⟩
          | some y => exact ⟨rfl, h.2⟩
        | succ j => cases y with
          | none => exact ih j x h
          | some y => exact ⟨h.1, ih j x h.2⟩
  have wseq : ∀ (is : List Nat) (ds : List D) {a b : Rho}, RL.wk a b → RL.wk (setA a is ds) (setA b is ds) := by
    intro is
    induction is with
    | nil => intro ds a b h; cases ds <;> exact h
    | cons i is ih =>
      intro ds a b h
      cases ds with
      | nil => exact h
      | cons d ds => exact ih ds (wset i d h)
  cases t with
  | nm j => exact wset j _ w
  | tp is =>
    generalize xs i = y
    cases y with
    | tup ds => exact wseq is ds w
    | _ => exact w
/-- while, by what holds ahead of each turn and a number that falls -/
theorem s1_while {cond : Expr} (hp : PassesOwn (model X.prog X.w) X.A X.env X.xe) (W : Nat → Rho → Mem → Prop) {m0 : Nat} (w0 : W m0 ρ M)
    (turn : ∀ m ρ' M', W m ρ' M' → ∃ k M2, TV X cond ρ' M' k M2 ∧ (k = true → SV X body ρ' M2 { nx := fun ρ3 M3 => ∃ m', m' < m ∧ W m' ρ3 M3, rt := P.rt, bk := P.nx, ct := fun ρ3 M3 => ∃ m', m' < m ∧ W m' ρ3 M3 }) ∧ (k = false → P.nx ρ' M2)) : S1 X (.While cond body [] pos) ρ M P := fun σ S H E hE hC hF =>
  tSt_of (ps_while hp ptW pssW) (by
    refine ⟨fun m σ' H' => ∃ ρ' M' S', W m ρ' M' ∧ EnvR X.K S' σ' ρ' ∧ Cfg X.K S' M' H' ∧ Step M S H M' S' H', ⟨m0, ρ, M, S, w0, hE, hC, .refl⟩, ?_⟩
    rintro m σ' H' ⟨ρ', M', S', w, e', c', st'⟩
    obtain ⟨k, M2, ht, h1, h2⟩ := turn m ρ' M' w
    refine ht σ' S' H' _ e' c' fun S2 H2 s2 c2 => ?_
    have st2 := st'.trans c' s2
    cases k with
    | true =>
      rw [if_pos rfl]
      refine ⟨fun σ3 H3 => ∃ m', m' < m ∧ ∃ ρ' M' S', W m' ρ' M' ∧ EnvR X.K S' σ3 ρ' ∧ Cfg X.K S' M' H3 ∧ Step M S H M' S' H3, fun σ3 H3 z => z, h1 rfl σ' S2 H2 _ (e'.mono s2.sub) c2 ?_⟩
      exact ⟨fun ρ4 M4 σ4 S4 H4 ⟨m', hm, p⟩ s4 c4 e4 => ⟨m', hm, ρ4, M4, S4, p, e4, c4, st2.trans c2 s4⟩, fun d M4 v S4 H4 p s4 c4 r4 => hF.rt d M4 v S4 H4 p (st2.trans c2 s4) c4 r4, fun ρ4 M4 σ4 S4 H4 p s4 c4 e4 => hF.nx ρ4 M4 σ4 S4 H4 p (st2.trans c2 s4) c4 e4, fun ρ4 M4 σ4 S4 H4 ⟨m', hm, p⟩ s4 c4 e4 => ⟨m', hm, ρ4, M4, S4, p, e4, c4, st2.trans c2 s4⟩⟩
    | false =>
      rw [if_neg Bool.false_ne_true]
      exact hF.nx ρ' M2 σ' S2 H2 (h2 rfl) st2 c2 (e'.mono s2.sub))
end
end RL
namespace RL
open PySem L2

/-! ### comprehensions -/
/-- the reading of a part of a block, whichever block it is -/
def tEb (X : Cx) (scope : Scope) (e : Expr) : TE := fun σ H Q => ∀ (s : Shared) (H0 : Hp) (C : Addr) (cl : List (Str × Addr)) (fp : List Addr), tE (X.blk s H0 scope (compEnvC scope cl C X.env) fp) e σ H Q
theorem peB {X : Cx} {scope : Scope} {e : Expr} : ∀ (s : Shared) (H : Hp) (C : Addr) (cl : List (Str × Addr)) (fp : List Addr), PE (X.blk s H scope (compEnvC scope cl C X.env) fp) e (tEb X scope e) :=
  fun s H C cl fp => ⟨fun pins s' _ _ _ I h => h s H C cl fp pins s' I⟩
def tTb (X : Cx) (scope : Scope) (e : Expr) : TT := fun σ H Q => ∀ (s : Shared) (H0 : Hp) (C : Addr) (cl : List (Str × Addr)) (fp : List Addr), tT (X.blk s H0 scope (compEnvC scope cl C X.env) fp) e σ H Q
theorem ptB {X : Cx} {scope : Scope} {e : Expr} : ∀ (s : Shared) (H : Hp) (C : Addr) (cl : List (Str × Addr)) (fp : List Addr), PT (X.blk s H scope (compEnvC scope cl C X.env) fp) e (tTb X scope e) :=
  fun s H C cl fp => ⟨fun pins s' _ _ _ I h => h s H C cl fp pins s' I⟩
def EVb (X : Cx) (scope : Scope) (e : Expr) (ρ : Rho) (M : Mem) (d : D) (M' : Mem) : Prop :=
  ∀ (s : Shared) (H : Hp) (C : Addr) (cl : List (Str × Addr)) (fp : List Addr), EV (X.blk s H scope (compEnvC scope cl C X.env) fp) e ρ M d M'
def TVb (X : Cx) (scope : Scope) (e : Expr) (ρ : Rho) (M : Mem) (b : Bool) (M' : Mem) : Prop :=
  ∀ (s : Shared) (H : Hp) (C : Addr) (cl : List (Str × Addr)) (fp : List Addr), TV (X.blk s H scope (compEnvC scope cl C X.env) fp) e ρ M b M'
def wipeR (ρ : Rho) : List Nat → Rho
  | [] => ρ
  | v :: vs => (wipeR ρ vs).set v none
theorem EnvR.wipe {K : Fg} {S : Hp} {σ : L2.St} {ρ : Rho} (h : EnvR K S σ ρ) : ∀ vs : List Nat, EnvR K S (L2.wipe σ vs) (wipeR ρ vs)
  | [] => h
  | v :: vs => by
    have q := h.wipe vs
    refine ⟨by show ((L2.wipe σ vs).set v none).length = ((wipeR ρ vs).set v none).length; rw [List.length_set, List.length_set, q.len], fun i d e => ?_⟩
    have e : ((wipeR ρ vs).set v none)[i]? = some (some d) := e
    show ∃ x, ((L2.wipe σ vs).set v none)[i]? = some (some x) ∧ _
    by_cases hv : v = i
    · subst hv
      by_cases hl : v < (wipeR ρ vs).length
      · rw [List.getElem?_set_self hl] at e; cases e
      · rw [List.getElem?_eq_none_iff.mpr (by rw [List.length_set]; omega)] at e; cases e
    · rw [List.getElem?_set_ne hv] at e ⊢
      exact q.get i d e
theorem wipe_wipe (σ : L2.St) (vs : List Nat) : L2.wipe (L2.wipe σ vs) vs = L2.wipe σ vs := by
  have key : ∀ (us : List Nat) (τ : L2.St) (j : Nat), (L2.wipe τ us)[j]? = if j ∈ us then (if j < τ.length then some none else none) else τ[j]? := by
    intro us
    induction us with
    | nil => intro τ j; simp [L2.wipe]
    | cons u us ih =>
      intro τ j
      show ((L2.wipe τ us).set u none)[j]? = _
      by_cases hu : u = j
      · subst hu
        by_cases hl : u < τ.length
        · rw [List.getElem?_set_self (by rw [wipe_length]; exact hl)]; simp [hl]
        · rw [List.getElem?_eq_none_iff.mpr (by rw [List.length_set, wipe_length]; omega)]; simp [hl]
      · rw [List.getElem?_set_ne hu, ih τ j]
        have : (j ∈ u :: us) ↔ j ∈ us := by simp [Ne.symm hu]
        simp only [this]
  refine List.ext_getElem? fun j => ?_
  rw [key vs (L2.wipe σ vs) j, wipe_length, key vs σ j]
  by_cases hj : j ∈ vs <;> simp [hj]
section
variable {X : Cx} {e a b c tg iter elt tst : Expr} {es : List Expr} {st : Stmt} {rest body els : List Stmt} {ρ ρ1 : Rho} {M M1 M2 M3 : Mem} {d d1 d2 d3 : D} {ds ds2 : List D} {P : Post} {pos p1 p2 : Pos} {i j : Int} {x : Str} {scope : Scope} {vs : List Nat}

/-- the new list of a comprehension, ahead of a turn -/
structure Acc (K : Fg) (M : Mem) (S H : Hp) (S1 : Hp) (L : Addr) (ds : List D) (M' : Mem) (H' : Hp) : Prop where
  ex : ∃ S' acc, Cfg K S' M' H' ∧ Step M S H M' S' H' ∧ Same S1 S' ∧ H' L = some (.lst acc) ∧ S' L = none ∧ L ∉ dm M' ∧ Reps K S' ds acc
theorem Acc.new {K : Fg} {S H S1 H1 : Hp} {L : Addr} (s1 : Step M S H M1 S1 H1) (c1 : Cfg K S1 M1 H1) (hL : H1 L = none) : Acc K M S H S1 L [] M1 (upd H1 L (.lst [])) := by
  have hS : S1 L = none := by
    cases e : S1 L with
    | none => rfl
    | some u => rw [c1.sub L u e] at hL; cases hL
  have hM : L ∉ dm M1 := fun hm => by
    obtain ⟨q, hq, e⟩ := List.mem_map.mp hm
    obtain ⟨_, u, z, _⟩ := c1.mem q hq
    rw [e, hL] at z; cases z
  refine ⟨S1, [], ⟨fun a o e => by rw [upd_ne (ne_of_none e hS)]; exact c1.sub a o e, c1.nd, fun q hq => ?_⟩, ⟨s1.sub, fun a o ha e => ?_, s1.new, s1.dom, fun a e => s1.kp a (upd_kp e)⟩, Same.refl _, upd_same, hS, hM, reps_nil.mpr rfl⟩
  · obtain ⟨n, u, z, r⟩ := c1.mem q hq
    exact ⟨n, u, by rw [upd_ne (fun z => hM (by rw [← z]; exact List.mem_map.mpr ⟨q, hq, rfl⟩))]; exact z, r⟩
  · rw [upd_ne (fun z => by rw [z] at ha e; rw [s1.frm L o ha e] at hL; cases hL)]
    exact s1.frm a o ha e
/-- the parts of a turn change the store alone -/
theorem Acc.turn {K : Fg} {S H S1 S2 H2 S3 H3 : Hp} {L : Addr} {acc : List V} (c2 : Cfg K S2 M2 H2) (s2 : Step M S H M2 S2 H2) (ss : Same S1 S2) (h1 : H2 L = some (.lst acc)) (h2 : S2 L = none) (h3 : L ∉ dm M2) (r : Reps K S2 ds acc) (c3 : Cfg K S3 M3 H3) (s3 : Step M2 S2 H2 M3 S3 H3) :
    H3 L = some (.lst acc) ∧ S3 L = none ∧ L ∉ dm M3 ∧ Reps K S3 ds acc ∧ Step M S H M3 S3 H3 ∧ Same S1 S3 := by
  refine ⟨s3.frm _ _ h3 h1, ?_, fun hm => ?_, r.mono s3.sub, s2.trans c2 s3, ss.trans s3.sub⟩
  · cases z : S3 L with
    | none => rfl
    | some u =>
      rcases s3.new L h2 (by rw [z]; simp) with y | y
      · rw [h1] at y; cases y
      · exact absurd y h3
  · rcases s3.dom L hm with y | y
    · exact h3 y
    · rw [h1] at y; cases y
/-- an item more -/
theorem Acc.put {K : Fg} {S H S1 S3 H3 : Hp} {L : Addr} {acc : List V} {y : V} (hH : H L = none) (c3 : Cfg K S3 M3 H3) (h1 : H3 L = some (.lst acc)) (h2 : S3 L = none) (h3 : L ∉ dm M3) (r : Reps K S3 ds acc) (st : Step M S H M3 S3 H3) (ss : Same S1 S3) (q : Rep K S3 d y) :
    Acc K M S H S1 L (ds ++ [d]) M3 (upd H3 L (.lst (acc ++ [y]))) := by
  refine ⟨S3, acc ++ [y], ⟨fun a o e => by rw [upd_ne (ne_of_none e h2)]; exact c3.sub a o e, c3.nd, fun q hq => ?_⟩, ⟨st.sub, fun a o ha e => ?_, st.new, st.dom, fun a e => st.kp a (upd_kp e)⟩, ss, upd_same, h2, h3, r.append (.one q)⟩
  · obtain ⟨n, u, z, r⟩ := c3.mem q hq
    exact ⟨n, u, by rw [upd_ne (fun z => h3 (by rw [← z]; exact List.mem_map.mpr ⟨q, hq, rfl⟩))]; exact z, r⟩
  · rw [upd_ne (ne_of_none e hH)]
    exact st.frm a o ha e

/-- [elt for target in iter] -/
theorem fv_lc (t : Tg) {n : Nat} {xs ys : Nat → D} (h : PE X e (tLc (tI X tg iter) (t.t X.K) tYes (tEb X scope elt) vs)) (hsl : ∀ i ∈ t.sl, i ∈ vs) (hi : IV X tg iter ρ M n xs M1) (hn : n ≤ sizeLine) (Mf : Nat → Mem) (m0 : Mf 0 = M1) (hf : ∀ i, i < n → t.fits (xs i))
    (turn : ∀ i, i < n → EVb X scope elt (t.put (wipeR ρ vs) (xs i)) (Mf i) (ys i) (Mf (i + 1))) : FV X e ρ M ((List.range n).map ys) (Mf n) := fun σ S H Q hE hC hR =>
  tE_of h (hi σ S H _ hE hC fun J S1 H1 s1 c1 yl L hL => by
    have hH : H L = none := s1.kp L hL
    refine ⟨fun i m H' => m = n - i ∧ i ≤ n ∧ Acc X.K M S H S1 L ((List.range i).map ys) (Mf i) H', ⟨n, rfl, Nat.zero_le _, by rw [m0]; exact Acc.new s1 c1 hL⟩, ?_⟩
    rintro i m H' ⟨rfl, hin, ⟨S', acc, c', st', ss, h1, h2, h3, r⟩⟩
    by_cases hlt : i < n
    · obtain ⟨hgo, hy⟩ := (yl S' (Mf i) H' ss c' i).1 hlt
      refine .inr ⟨hgo, fun H2 => Acc X.K M S H S1 L ((List.range (i + 1)).map ys) (Mf (i + 1)) H2, fun H2 z => ⟨n - (i + 1), by omega, rfl, hlt, z⟩, fun x H2 y => ?_⟩
      obtain ⟨S2, s2, c2, r2⟩ := hy x H2 y
      obtain ⟨g1, g2, g3, g4, g5, g6⟩ := Acc.turn c' st' ss h1 h2 h3 r c2 s2
      refine t.use ((hE.mono (s1.sub.trans (ss.trans s2.sub))).wipe vs) c2 r2 (hf i hlt) fun σ3 e3 w3 => ⟨(w3 vs hsl).trans (wipe_wipe σ vs), fun s0 H0 C cl fp => (turn i hlt s0 H0 C cl fp).use e3 c2 fun v S3 H3 s3 c3 r3 => ?_⟩
      obtain ⟨k1, k2, k3, k4, k5, k6⟩ := Acc.turn c2 g5 g6 g1 g2 g3 g4 c3 s3
      refine ⟨acc, k1, ?_, ?_⟩
      · have := r.length
        rw [List.length_map, List.length_range] at this
        omega
      · rw [List.range_succ, List.map_append]
        exact Acc.put hH c3 k1 k2 k3 k4 k5 k6 r3
    · have e : i = n := by omega
      subst e
      exact .inl ⟨(yl S' (Mf i) H' ss c' i).2 (Nat.le_refl _), hR L acc S' H' st' c' hH h2 h3 h1 r⟩)
/-- [elt for target in iter if test], the test changes nothing -/
theorem fv_lcF (t : Tg) {n : Nat} {xs ys : Nat → D} {ks : Nat → Bool} (h : PE X e (tLc (tI X tg iter) (t.t X.K) (tTb X scope tst) (tEb X scope elt) vs)) (hsl : ∀ i ∈ t.sl, i ∈ vs) (hi : IV X tg iter ρ M n xs M1) (hn : n ≤ sizeLine) (hf : ∀ i, i < n → t.fits (xs i))
    (turn : ∀ i, i < n → TVb X scope tst (t.put (wipeR ρ vs) (xs i)) M1 (ks i) M1 ∧ (ks i = true → EVb X scope elt (t.put (wipeR ρ vs) (xs i)) M1 (ys i) M1)) : FV X e ρ M (((List.range n).filter ks).map ys) M1 := fun σ S H Q hE hC hR =>
  tE_of h (hi σ S H _ hE hC fun J S1 H1 s1 c1 yl L hL => by
    have hH : H L = none := s1.kp L hL
    refine ⟨fun i m H' => m = n - i ∧ i ≤ n ∧ Acc X.K M S H S1 L (((List.range i).filter ks).map ys) M1 H', ⟨n, rfl, Nat.zero_le _, Acc.new s1 c1 hL⟩, ?_⟩
    rintro i m H' ⟨rfl, hin, ⟨S', acc, c', st', ss, h1, h2, h3, r⟩⟩
    by_cases hlt : i < n
    · obtain ⟨hgo, hy⟩ := (yl S' M1 H' ss c' i).1 hlt
      refine .inr ⟨hgo, fun H2 => Acc X.K M S H S1 L (((List.range (i + 1)).filter ks).map ys) M1 H2, fun H2 z => ⟨n - (i + 1), by omega, rfl, hlt, z⟩, fun x H2 y => ?_⟩
      obtain ⟨S2, s2, c2, r2⟩ := hy x H2 y
      obtain ⟨g1, g2, g3, g4, g5, g6⟩ := Acc.turn c' st' ss h1 h2 h3 r c2 s2
      obtain ⟨tt, te⟩ := turn i hlt
      refine t.use ((hE.mono (s1.sub.trans (ss.trans s2.sub))).wipe vs) c2 r2 (hf i hlt) fun σ3 e3 w3 => ⟨(w3 vs hsl).trans (wipe_wipe σ vs), fun s0 H0 C cl fp => tt s0 H0 C cl fp σ3 S2 H2 _ e3 c2 fun S3 H3 s3 c3 => ?_⟩
      obtain ⟨k1, k2, k3, k4, k5, k6⟩ := Acc.turn c2 g5 g6 g1 g2 g3 g4 c3 s3
      rw [List.range_succ, List.filter_append]
      cases hk : ks i with
      | true =>
        rw [if_pos rfl]
        refine fun s0 H0 C cl fp => (te hk s0 H0 C cl fp).use (e3.mono s3.sub) c3 fun v S4 H4 s4 c4 r4 => ?_
        obtain ⟨l1, l2, l3, l4, l5, l6⟩ := Acc.turn c3 k5 k6 k1 k2 k3 k4 c4 s4
        refine ⟨acc, l1, ?_, ?_⟩
        · have q := r.length
          rw [List.length_map] at q
          have := List.length_filter_le ks (List.range i)
          rw [List.length_range] at this
          omega
        · rw [List.filter_cons, if_pos hk, List.filter_nil, List.map_append]
          exact Acc.put hH c4 l1 l2 l3 l4 l5 l6 r4
      | false =>
        rw [if_neg Bool.false_ne_true, List.filter_cons, if_neg (by rw [hk]; decide), List.filter_nil, List.append_nil]
        exact ⟨S3, acc, c3, k5, k6, k1, k2, k3, k4⟩
    · have e : i = n := by omega
      subst e
      exact .inl ⟨(yl S' M1 H' ss c' i).2 (Nat.le_refl _), hR L acc S' H' st' c' hH h2 h3 h1 r⟩)

/-! ### instances -/
/-- an instance that stays: its class, its fields -/
def insH (K : Fg) (C : Addr) (fs : List (Str × D)) (S : Hp) (a : Addr) : Prop := ∃ dx ws, S a = some (.ins C dx ((fs.map (·.1)).zip ws)) ∧ Reps K S (fs.map (·.2)) ws
theorem insH_mono {K : Fg} {C : Addr} {fs : List (Str × D)} {S S' : Hp} {a : Addr} (h : Same S S') : insH K C fs S a → insH K C fs S' a := fun ⟨dx, ws, e, r⟩ => ⟨dx, ws, h _ _ e, r.mono h⟩
def insOT (K : Fg) (C : Addr) (fs : List (Str × D)) : OT := ⟨insH K C fs, fun _ _ _ h q => insH_mono h q⟩
theorem Res.imp {K : Fg} {M : Mem} {S H : Hp} {Q : VK} {P P' : D → Mem → Prop} (h : Res K M S H Q P) (i : ∀ d M, P' d M → P d M) : Res K M S H Q P' := fun d M' v S' H' p => h d M' v S' H' (i _ _ p)
theorem lookup_reps {K : Fg} {S : Hp} {f : Str} : ∀ {fs : List (Str × D)} {ws : List V}, Reps K S (fs.map (·.2)) ws → fs.lookup f = some d → ∃ v, ((fs.map (·.1)).zip ws).lookup f = some v ∧ Rep K S d v
  | [], _, _, e => by cases e
  | (g, c) :: fs, _, r, e => by
    obtain ⟨v, ws, rfl, q, r⟩ := reps_cons.mp r
    show ∃ w, (((g, v) :: (fs.map (·.1)).zip ws) : List (Str × V)).lookup f = some w ∧ _
    rw [List.lookup_cons] at e ⊢
    cases hg : f == g with
    | true =>
      rw [hg] at e
      cases e
      exact ⟨v, rfl, q⟩
    | false =>
      rw [hg] at e
      exact lookup_reps r e
theorem lookup_none {f : Str} {K : Fg} {S : Hp} : ∀ {fs : List (Str × D)} {ws : List V}, Reps K S (fs.map (·.2)) ws → fs.lookup f = none → ((fs.map (·.1)).zip ws).lookup f = none
  | [], _, _, _ => rfl
  | (g, c) :: fs, _, r, e => by
    obtain ⟨v, ws, rfl, q, r⟩ := reps_cons.mp r
    show (((g, v) :: (fs.map (·.1)).zip ws) : List (Str × V)).lookup f = none
    rw [List.lookup_cons] at e ⊢
    cases hg : f == g with
    | true => rw [hg] at e; cases e
    | false => rw [hg] at e; exact lookup_none r e
/-- what is read as an instance -/
inductive IsI (K : Fg) (M : Mem) (C : Addr) : D → List (Str × D) → Prop
  | obj {fs : List (Str × D)} : IsI K M C (.obj (insOT K C fs)) fs
  | own {k : Nat} {a : Addr} {fs : List (Str × D)} (h : M[k]? = some (a, .ins C fs)) : IsI K M C (.ref a) fs
theorem IsI.get {K : Fg} {C : Addr} {S H : Hp} {fs : List (Str × D)} {v : V} (h : IsI K M C d fs) (c : Cfg K S M H) (r : Rep K S d v) : ∃ p dx ws, v = .ref p ∧ H p = some (.ins C dx ((fs.map (·.1)).zip ws)) ∧ Reps K S (fs.map (·.2)) ws := by
  cases h with
  | obj =>
    obtain ⟨p, e, dx, ws, z, q⟩ := rep_obj.mp r
    exact ⟨p, dx, ws, e, c.sub _ _ z, q⟩
  | own h =>
    obtain ⟨o, z, dx, ws, e, q⟩ := c.at h
    subst e
    exact ⟨_, dx, ws, rep_ref.mp r, z, q⟩
theorem ev_fld {f : Str} {C : Addr} {fs : List (Str × D)} (ha : EV X a ρ M d1 M1) (hb : attributeBase a f X.env (eval a X.env) = eval a X.env) (hI : IsI X.K M1 C d1 fs) (hl : fs.lookup f = some d) (c : Cls X.K C) (n : NoAttr X.K C f) : EV X (.Attribute a f pos) ρ M d M1 := fun σ S H Q hE hC hR =>
  tE_of (pe_fld peW hb) (ha.use hE hC fun v S1 H1 s1 c1 r1 => by
    obtain ⟨p, dx, ws, rfl, z, q⟩ := hI.get c1 r1
    obtain ⟨w, e1, q1⟩ := lookup_reps q hl
    exact ⟨p, C, dx, _, w, rfl, z, c, n, e1, (hR.after s1 c1).id c1 q1⟩)
def putD (f : Str) (d : D) : List (Str × D) → List (Str × D)
  | [] => [(f, d)]
  | (g, x) :: r => if g = f then (g, d) :: r else (g, x) :: putD f d r
theorem putD_reps {K : Fg} {S : Hp} {f : Str} {y : V} (q : Rep K S d y) : ∀ {fs : List (Str × D)} {ws : List V}, Reps K S (fs.map (·.2)) ws → ∃ ws', putF f y ((fs.map (·.1)).zip ws) = ((putD f d fs).map (·.1)).zip ws' ∧ Reps K S ((putD f d fs).map (·.2)) ws'
  | [], _, r => by
    rw [reps_nil.mp r]
    exact ⟨[y], rfl, .one q⟩
  | (g, c) :: fs, _, r => by
    obtain ⟨v, ws, rfl, q1, r⟩ := reps_cons.mp r
    by_cases hg : g = f
    · refine ⟨y :: ws, ?_, ?_⟩
      · show putF f y ((g, v) :: (fs.map (·.1)).zip ws) = ((if g = f then (g, d) :: fs else (g, c) :: putD f d fs).map (·.1)).zip (y :: ws)
        rw [if_pos hg]
        show (if g = f then (g, y) :: (fs.map (·.1)).zip ws else _) = _
        rw [if_pos hg]
        rfl
      · show Reps K S ((if g = f then (g, d) :: fs else (g, c) :: putD f d fs).map (·.2)) (y :: ws)
        rw [if_pos hg]
        exact reps_cons.mpr ⟨y, ws, rfl, q, r⟩
    · obtain ⟨ws', e1, e2⟩ := putD_reps q r
      refine ⟨v :: ws', ?_, ?_⟩
      · show putF f y ((g, v) :: (fs.map (·.1)).zip ws) = ((if g = f then (g, d) :: fs else (g, c) :: putD f d fs).map (·.1)).zip (v :: ws')
        rw [if_neg hg]
        show (if g = f then _ else (g, v) :: putF f y ((fs.map (·.1)).zip ws)) = _
        rw [if_neg hg, e1]
        rfl
      · show Reps K S ((if g = f then (g, d) :: fs else (g, c) :: putD f d fs).map (·.2)) (v :: ws')
        rw [if_neg hg]
        exact reps_cons.mpr ⟨v, ws', rfl, q1, e2⟩
/-- self.f = e, self an instance of the store -/
theorem sv_fld {f : Str} {C p : Addr} {kk : Nat} {fs : List (Str × D)} {pos' : Pos} (hs : swapsWith e (some (.Attribute a f pos')) pos.line X.env = pure false) (he : EV X e ρ M d M1) (ha : EV X a ρ M1 (.ref p) M2) (hk : M2[kk]? = some (p, .ins C fs)) (c : Cls X.K C) (n : NoAttr X.K C f) (hl : fs.length < 1000)
    (k : SV X rest ρ (M2.set kk (p, .ins C (putD f d fs))) P) : SV X (.Assign [.Attribute a f pos'] e pos :: rest) ρ M P := fun σ S H E hE hC hF =>
  tSs_of (pss_cons (ps_fld peW peW hs) pssW) (he.use hE hC fun y S1 H1 s1 c1 r1 => ha.use (hE.mono s1.sub) c1 fun x S2 H2 s2 c2 r2 => by
    obtain ⟨o, ho, dx, ws, e1, q⟩ := c2.at hk
    subst e1
    obtain ⟨ws', e2, q2⟩ := putD_reps (f := f) (r1.mono s2.sub) q
    have st2 := s1.trans c1 s2
    obtain ⟨c4, s4⟩ := cfg_set (m' := .ins C (putD f d fs)) (o := .ins C dx (putF f y ((fs.map (·.1)).zip ws))) c2 hk ⟨dx, ws', by rw [e2], q2⟩
    refine ⟨p, C, dx, _, rep_ref.mp r2, ho, c, n, ?_, k σ S2 _ E (hE.mono st2.sub) c4 (hF.after (st2.trans c2 s4) c4)⟩
    rw [List.length_zip]
    have := q.length
    rw [List.length_map] at *
    omega)

/-! ### defs over data -/
/-- what a def promises: from the data of its arguments and its store, what its outcomes are -/
abbrev Spec := List D → Mem → (D → Mem → Prop) → Prop
def mk (K : Fg) (f : Spec) : Sp := fun vs H Q _ => ∃ S ds M R, Reps K S ds vs ∧ Cfg K S M H ∧ f ds M R ∧ Res K M S H Q R
def startR (N : List Str) (ds : List D) : Rho := ds.map some ++ List.replicate (N.length - ds.length) none
theorem startR_env {K : Fg} {S : Hp} {N : List Str} {ds : List D} {vs : List V} (r : Reps K S ds vs) : EnvR K S (L2.start N vs) (startR N ds) := by
  unfold L2.start startR
  refine ⟨by simp [r.length], fun i d e => ?_⟩
  by_cases hi : i < ds.length
  · rw [List.getElem?_append_left (by simpa using hi), List.getElem?_map] at e
    obtain ⟨c, e1, e2⟩ := Option.map_eq_some_iff.mp e
    cases e2
    obtain ⟨v, e3, q⟩ := r.get e1
    refine ⟨v, ?_, q⟩
    rw [List.getElem?_append_left (by simpa using (List.getElem?_eq_some_iff.mp e3).1), List.getElem?_map, e3]
    rfl
  · rw [List.getElem?_append_right (by simpa using Nat.le_of_not_lt hi)] at e
    have := List.mem_of_getElem? e
    have := List.eq_of_mem_replicate this
    cases this
theorem fn_ok {P : Program} {w : World} {K : Fg} {mg : Str → Option Value} {base : Heap} {x qual : Str} {st : Stmt} {f : Addr} {fd : FuncData} {N ps : List Str} {k : Nat} {sp : Spec} (F : Fun K x qual st f fd) (S : FnScope N ps (defScope st)) (hl : ∀ ds M R, sp ds M R → ds.length = ps.length)
    (body : ∀ (cdv : Value) (A : Around) (outer : List Env) (s : Shared) (H : Hp) (E : XK), Room k (A.deeper (PyProof.Rows.envOfC qual (defScope st) s.heap.objs.size f cdv)) → ∀ ds M R, sp ds M R →
      SV (cxOf CX0 P w K mg base N qual (defScope st) f cdv A outer s H E).nox (defBody st) (startR N ds) M { nx := fun _ M' => R .non M', rt := R }) : FnOk P w K mg base CX0 (k + 1) f fd ps (mk K sp) := by
  refine F.ok S (fun vs H Q E ⟨S, ds, M, R, r, _, q, _⟩ => by rw [← r.length]; exact hl _ _ _ q) (fun cdv A outer s H vs Q E hr ⟨S, ds, M, R, r, c, q, hR⟩ => ⟨_, pssW, body cdv A outer s H E hr ds M R q _ S H _ (startR_env r) c ⟨fun ρ' M' σ' S' H' p s c e => hR _ _ _ _ _ p s c (rep_non.mpr rfl), hR, fun _ _ _ _ _ z => z.elim, fun _ _ _ _ _ z => z.elim⟩⟩)
/-- .. with defaults -/
theorem fn_okD {P : Program} {w : World} {K : Fg} {mg : Str → Option Value} {base : Heap} {x qual : Str} {params : Arguments} {bd : List Stmt} {sc : Scope} {dvs : List V} {kws : List (Str × V)} {f : Addr} {fd : FuncData} {N ps : List Str} {k : Nat} {sp : Spec} (F : FunD K x qual params bd sc dvs kws f fd) (S : FnScope N ps sc) (hl : ∀ ds M R, sp ds M R → ds.length = ps.length)
    (body : ∀ (cdv : Value) (A : Around) (outer : List Env) (s : Shared) (H : Hp) (E : XK), Room k (A.deeper (PyProof.Rows.envOfC qual sc s.heap.objs.size f cdv)) → ∀ ds M R, sp ds M R →
      SV (cxOf CX0 P w K mg base N qual sc f cdv A outer s H E).nox bd (startR N ds) M { nx := fun _ M' => R .non M', rt := R }) : FnOk P w K mg base CX0 (k + 1) f fd ps (mk K sp) := by
  refine F.ok S (fun vs H Q E ⟨S, ds, M, R, r, _, q, _⟩ => by rw [← r.length]; exact hl _ _ _ q) (fun cdv A outer s H vs Q E hr ⟨S, ds, M, R, r, c, q, hR⟩ => ⟨_, PSs.nox pssW, body cdv A outer s H E hr ds M R q _ S H _ (startR_env r) c ⟨fun ρ' M' σ' S' H' p s c e => hR _ _ _ _ _ p s c (rep_non.mpr rfl), hR, fun _ _ _ _ _ z => z.elim, fun _ _ _ _ _ z => z.elim⟩⟩)

/-- use of a promise: the callee sees the store's first part -/
theorem mk_use {f : Spec} {Mf Mr : Mem} {R : D → Mem → Prop} {S H S1 H1 : Hp} {Q : VK} {vs : List V} {XE : XK} (hs : Step M S H (Mf ++ Mr) S1 H1) (c1 : Cfg X.K S1 (Mf ++ Mr) H1) (r : Reps X.K S1 ds vs) (hf : f ds Mf R) (hR : Res X.K M S H Q (fun d M' => ∃ Mf', R d Mf' ∧ M' = Mf' ++ Mr)) : mk X.K f vs H1 Q XE :=
  ⟨S1, ds, Mf, R, r, cfg_part c1, hf, fun d M' v S' H' p s c rv => by
    obtain ⟨c2, s2⟩ := cfg_frame c1 s c
    exact hR d (M' ++ Mr) v S' H' ⟨M', p, rfl⟩ (hs.trans c1 s2) c2 rv⟩
/-- f(e, ..) -/
theorem ev_call {f : Spec} {dvs : List V} {dds : List D} {E : XK} {Mf Mr : Mem} {R : D → Mem → Prop} (h : PE X e (tCall (mk X.K f) dvs E (tA X es))) (ha : AV X es ρ M ds M1) (hM : M1 = Mf ++ Mr) (hd : ∀ S, Reps X.K S dds dvs) (hf : f (ds ++ dds) Mf R) : EVp X e ρ M (fun d M' => ∃ Mf', R d Mf' ∧ M' = Mf' ++ Mr) := fun σ S H Q hE hC hR =>
  tE_of h (ha σ S H _ hE hC fun vs S1 H1 s1 c1 r1 => by
    subst hM
    exact mk_use s1 c1 (r1.append (hd S1)) hf hR)
/-- .. of a def that changes no store -/
theorem ev_call0 {f : Spec} {dvs : List V} {dds : List D} {E : XK} (h : PE X e (tCall (mk X.K f) dvs E (tA X es))) (ha : AV X es ρ M ds M1) (hf : f (ds ++ dds) [] (Out d [])) (hd : ∀ S, Reps X.K S dds dvs := by intro _; exact reps_nil.mpr rfl) : EV X e ρ M d M1 :=
  (ev_call (Mf := []) (Mr := M1) h ha rfl hd hf).imp fun d' M' ⟨Mf', ⟨e1, e2⟩, e3⟩ => ⟨e1, by rw [e3, e2]; rfl⟩
/-- .. of a def that changes the store's first part -/
theorem ev_call1 {f : Spec} {dvs : List V} {dds : List D} {E : XK} {Mf Mr Mf' : Mem} (h : PE X e (tCall (mk X.K f) dvs E (tA X es))) (ha : AV X es ρ M ds M1) (hM : M1 = Mf ++ Mr) (hf : f (ds ++ dds) Mf (Out d Mf')) (hd : ∀ S, Reps X.K S dds dvs := by intro _; exact reps_nil.mpr rfl) : EV X e ρ M d (Mf' ++ Mr) :=
  (ev_call h ha hM hd hf).imp fun d' M' ⟨Mf', ⟨e1, e2⟩, e3⟩ => ⟨e1, by rw [e3, e2]⟩
/-- keywords' values -/
def tKw (X : Cx) (kws : List Keyword) : TA := fun σ H Q => ∀ (pos : Pos) (pins : List (Addr × Obj)) (s : Shared), Inv X pins σ H s → wpAny (model X.prog X.w) X.A (evalAll ((backToKw pos (keywordEach kws X.env)).map (·.2))) (AP X pins σ Q) X.xe s
theorem pkW {kws : List Keyword} : PK X kws (tKw X kws) := ⟨fun pos pins s _ _ _ I h => h pos pins s I⟩
def KV (X : Cx) (kws : List Keyword) (ρ : Rho) (M : Mem) (ds : List D) (M' : Mem) : Prop :=
  ∀ σ S H (Q : List V → Hp → Prop), EnvR X.K S σ ρ → Cfg X.K S M H → (∀ vs S' H', Step M S H M' S' H' → Cfg X.K S' M' H' → Reps X.K S' ds vs → Q vs H') → tKw X kws σ H Q
theorem kv_nil : KV X [] ρ M [] M := fun σ S H Q _ hC hR pos pins s I => pk_nil.run pos pins s σ H Q I (hR [] S H .refl hC (reps_nil.mpr rfl))
theorem kv_cons {nm : Option Str} {kpos : Pos} {kws : List Keyword} (ha : EV X a ρ M d M1) (hr : KV X kws ρ M1 ds M2) : KV X (⟨nm, a, kpos⟩ :: kws) ρ M (d :: ds) M2 := fun σ S H Q hE hC hR pos pins s I =>
  (pk_cons (nm := nm) (kpos := kpos) peW pkW).run pos pins s σ H Q I (ha.use hE hC fun x S1 H1 s1 c1 r1 => hr σ S1 H1 _ (hE.mono s1.sub) c1 fun vs S2 H2 s2 c2 r2 => hR _ S2 H2 (s1.trans c1 s2) c2 (reps_cons.mpr ⟨x, vs, rfl, r1.mono s2.sub, r2⟩))
/-- f(e, .., k = v, ..): gV puts the values in the parameters' order, gD their data -/
theorem ev_callN {f : Spec} {n m : Nat} {gV : List V → List V → List V} {E : XK} {kws : List Keyword} {Mf Mr : Mem} {R : D → Mem → Prop} {ds3 : List D} (h : PE X e (tCallN n m (mk X.K f) gV E (tA X es) (tKw X kws))) (ha : AV X es ρ M ds M1) (hk : KV X kws ρ M1 ds2 M2) (hM : M2 = Mf ++ Mr) (l1 : ds.length = n) (l2 : ds2.length = m)
    (hg : ∀ S vs ws, Reps X.K S ds vs → Reps X.K S ds2 ws → Reps X.K S ds3 (gV vs ws)) (hf : f ds3 Mf R) : EVp X e ρ M (fun d M' => ∃ Mf', R d Mf' ∧ M' = Mf' ++ Mr) := fun σ S H Q hE hC hR =>
  tE_of h (ha σ S H _ hE hC fun vs S1 H1 s1 c1 r1 => hk σ S1 H1 _ (hE.mono s1.sub) c1 fun ws S2 H2 s2 c2 r2 => by
    subst hM
    exact ⟨by rw [← r1.length]; exact l1, by rw [← r2.length]; exact l2, mk_use (s1.trans c1 s2) c2 (hg S2 vs ws (r1.mono s2.sub) r2) hf hR⟩)
theorem ev_callN0 {f : Spec} {n m : Nat} {gV : List V → List V → List V} {E : XK} {kws : List Keyword} {ds3 : List D} (h : PE X e (tCallN n m (mk X.K f) gV E (tA X es) (tKw X kws))) (ha : AV X es ρ M ds M1) (hk : KV X kws ρ M1 ds2 M2) (l1 : ds.length = n) (l2 : ds2.length = m)
    (hg : ∀ S vs ws, Reps X.K S ds vs → Reps X.K S ds2 ws → Reps X.K S ds3 (gV vs ws)) (hf : f ds3 [] (Out d [])) : EV X e ρ M d M2 :=
  (ev_callN (Mf := []) (Mr := M2) h ha hk rfl l1 l2 hg hf).imp fun d' M' ⟨Mf', ⟨e1, e2⟩, e3⟩ => ⟨e1, by rw [e3, e2]; rfl⟩
/-- o.m(e, ..), o an instance -/
theorem ev_meth {f : Spec} {C : Addr} {m : Str} {fs : List (Str × D)} {dvs : List V} {dds : List D} {E : XK} {Mf Mr : Mem} {R : D → Mem → Prop} (h : PE X e (tMeth C m (mk X.K f) dvs E (tE X a) (tA X es))) (h0 : EV X a ρ M d1 M1) (hI : IsI X.K M1 C d1 fs) (hm : fs.lookup m = none) (ha : AV X es ρ M1 ds M2) (hM : M2 = Mf ++ Mr) (hd : ∀ S, Reps X.K S dds dvs) (hf : f (d1 :: (ds ++ dds)) Mf R) :
    EVp X e ρ M (fun d M' => ∃ Mf', R d Mf' ∧ M' = Mf' ++ Mr) := fun σ S H Q hE hC hR =>
  tE_of h (h0.use hE hC fun v S1 H1 s1 c1 r1 => by
    obtain ⟨p, dx, ws, rfl, z, q⟩ := hI.get c1 r1
    refine ⟨p, dx, _, rfl, z, lookup_none q hm, ha σ S1 H1 _ (hE.mono s1.sub) c1 fun vs S2 H2 s2 c2 r2 => ?_⟩
    subst hM
    exact mk_use (s1.trans c1 s2) c2 (reps_cons.mpr ⟨_, _, rfl, r1.mono s2.sub, r2.append (hd S2)⟩) hf hR)
theorem ev_meth0 {f : Spec} {C : Addr} {m : Str} {fs : List (Str × D)} {dvs : List V} {dds : List D} {E : XK} (h : PE X e (tMeth C m (mk X.K f) dvs E (tE X a) (tA X es))) (h0 : EV X a ρ M d1 M1) (hI : IsI X.K M1 C d1 fs) (hm : fs.lookup m = none) (ha : AV X es ρ M1 ds M2) (hf : f (d1 :: (ds ++ dds)) [] (Out d [])) (hd : ∀ S, Reps X.K S dds dvs := by intro _; exact reps_nil.mpr rfl) : EV X e ρ M d M2 :=
  (ev_meth (Mf := []) (Mr := M2) h h0 hI hm ha rfl hd hf).imp fun d' M' ⟨Mf', ⟨e1, e2⟩, e3⟩ => ⟨e1, by rw [e3, e2]; rfl⟩
theorem tNil_av : ∀ σ S H (Q : List V → Hp → Prop), Cfg X.K S M H → (∀ vs S' H', Step M S H M S' H' → Cfg X.K S' M H' → Reps X.K S' [] vs → Q vs H') → tNil σ H Q := fun σ S H Q hC hR => hR [] S H .refl hC (reps_nil.mpr rfl)
/-- o.m() -/
theorem ev_methN {f : Spec} {C : Addr} {m : Str} {fs : List (Str × D)} {E : XK} (h : PE X e (tMeth C m (mk X.K f) [] E (tE X a) tNil)) (h0 : EV X a ρ M d1 M1) (hI : IsI X.K M1 C d1 fs) (hm : fs.lookup m = none) (hf : f [d1] [] (Out d [])) : EV X e ρ M d M1 := fun σ S H Q hE hC hR =>
  tE_of h (h0.use hE hC fun v S1 H1 s1 c1 r1 => by
    obtain ⟨p, dx, ws, rfl, z, q⟩ := hI.get c1 r1
    refine ⟨p, dx, _, rfl, z, lookup_none q hm, ?_⟩
    exact mk_use (XE := E) (Mf := []) (Mr := M1) s1 c1 (reps_cons.mpr ⟨_, _, rfl, r1, reps_nil.mpr rfl⟩) hf (hR.imp fun d' M' ⟨Mf', ⟨e1, e2⟩, e3⟩ => ⟨e1, by rw [e3, e2]; rfl⟩))
/-- an instance called -/
theorem ev_callO {f : Spec} {C : Addr} {fs : List (Str × D)} {E : XK} (h : PE X e (StX.tCallO X C (mk X.K f) E (tE X a) (tA X es))) (h0 : EV X a ρ M d1 M1) (hI : ∀ M', IsI X.K M' C d1 fs) (ha : AV X es ρ M1 ds M2) (hf : f (d1 :: ds) [] (Out d [])) : EV X e ρ M d M2 := fun σ S H Q hE hC hR =>
  tE_of h (h0.use hE hC fun v S1 H1 s1 c1 r1 => by
    obtain ⟨p, dx, ws, rfl, z, q⟩ := (hI M1).get c1 r1
    refine ⟨p, rfl, ha σ S1 H1 _ (hE.mono s1.sub) c1 fun vs S2 H2 s2 c2 r2 => ?_⟩
    obtain ⟨p', dx', ws', e, z', q'⟩ := (hI M2).get c2 (r1.mono s2.sub)
    cases e
    refine ⟨.inr ⟨dx', _, z'⟩, ?_⟩
    exact mk_use (XE := E) (Mf := []) (Mr := M2) (s1.trans c1 s2) c2 (reps_cons.mpr ⟨_, _, rfl, r1.mono s2.sub, r2⟩) hf (hR.imp fun d' M' ⟨Mf', ⟨e1, e2⟩, e3⟩ => ⟨e1, by rw [e3, e2]; rfl⟩))

/-! making instances -/
/-- what an __init__ promises: from the arguments' data the object that stands behind it -/
def mkI (K : Fg) (C : Addr) (f : List D → OT → Prop) : Sp := fun vs H Q _ => ∃ S x ws ds t, vs = .ref x :: ws ∧ Reps K S ds ws ∧ Cfg K S [(x, .ins C [])] H ∧ f ds t ∧
  ∀ S' H', Step [(x, .ins C [])] S H [] S' H' → Cfg K S' [] H' → t.holds S' x → Q .non H'
theorem made {K : Fg} {S H : Hp} {x dx C : Addr} (c : Cfg K S M H) (h1 : H x = none) (h2 : H dx = none) (ne : dx ≠ x) : Cfg K S (M ++ [(x, .ins C [])]) (upd (upd H dx (.own x)) x (.ins C dx [])) ∧ Step M S H (M ++ [(x, .ins C [])]) S (upd (upd H dx (.own x)) x (.ins C dx [])) := by
  have hS : S dx = none := by
    cases e : S dx with
    | none => rfl
    | some u => rw [c.sub dx u e] at h2; cases h2
  have hM : ∀ q ∈ M, q.1 ≠ dx := fun q hq e => by
    obtain ⟨_, u, z, _⟩ := c.mem q hq
    rw [e, h2] at z; cases z
  have c0 : Cfg K S M (upd H dx (.own x)) := ⟨fun a o e => by rw [upd_ne (ne_of_none e hS)]; exact c.sub a o e, c.nd, fun q hq => by
    obtain ⟨n, u, z, r⟩ := c.mem q hq
    exact ⟨n, u, by rw [upd_ne (hM q hq)]; exact z, r⟩⟩
  have s0 : Step M S H M S (upd H dx (.own x)) := ⟨Same.refl _, fun a o _ e => by rw [upd_ne (ne_of_none e h2)]; exact e, fun a n q => absurd n q, fun a ha => .inl ha, fun a e => upd_kp e⟩
  obtain ⟨c1, s1⟩ := cfg_mut (m := .ins C []) (o := .ins C dx []) (p := x) c0 (by rw [upd_ne (Ne.symm ne)]; exact h1) ⟨dx, [], rfl, reps_nil.mpr rfl⟩
  exact ⟨c1, s0.trans c0 s1⟩
/-- at the end of a making -/
theorem made_use {C : Addr} {f : List D → OT → Prop} {t : OT} {S H S1 H1 : Hp} {Q : VK} {vs : List V} {XE : XK} {x dx : Addr} (hs : Step M S H M1 S1 H1) (c1 : Cfg X.K S1 M1 H1) (r : Reps X.K S1 ds vs) (hf : f ds t) (h1 : H1 x = none) (h2 : H1 dx = none) (ne : dx ≠ x) (hR : Res X.K M S H Q (Out (.obj t) M1)) :
    mkI X.K C f (.ref x :: vs) (upd (upd H1 dx (.own x)) x (.ins C dx [])) (fun v H2 => v = .non ∧ Q (.ref x) H2) XE := by
  obtain ⟨c2, s2⟩ := made (C := C) c1 h1 h2 ne
  -- the rest of the store is not seen
  have nd := c2.nd
  rw [dm, List.map_append, List.nodup_append] at nd
  have c3 : Cfg X.K S1 [(x, .ins C [])] (upd (upd H1 dx (.own x)) x (.ins C dx [])) := ⟨c2.sub, by simp, fun q hq => c2.mem q (List.mem_append_right _ hq)⟩
  refine ⟨S1, x, vs, ds, t, rfl, r, c3, hf, fun S' H' st c' ht => ⟨rfl, ?_⟩⟩
  have hx : x ∉ dm M1 := fun hm => nd.2.2 x hm x (by simp) rfl
  have hr : ∀ q ∈ M1, q.1 ≠ x := fun q hq e => hx (by rw [← e]; exact List.mem_map.mpr ⟨q, hq, rfl⟩)
  have c4 : Cfg X.K S' M1 H' := ⟨c'.sub, c1.nd, fun q hq => by
    obtain ⟨n, o, e, r⟩ := c2.mem q (List.mem_append_left _ hq)
    refine ⟨?_, o, st.frm _ _ (by simpa using hr q hq) e, r.mono st.sub⟩
    cases z : S' q.1 with
    | none => rfl
    | some u =>
      rcases st.new q.1 n (by rw [z]; simp) with y | y
      · rw [y] at e; cases e
      · exact absurd (by simpa using y) (hr q hq)⟩
  have hb : ∀ a o, a ∉ dm M1 → H1 a = some o → H' a = some o := fun a o ha e => by
    have n1 : a ≠ x := ne_of_none e h1
    have n2 : a ≠ dx := ne_of_none e h2
    exact st.frm a o (by simpa using n1) (by rw [upd_ne n1, upd_ne n2]; exact e)
  have s4 : Step M1 S1 H1 M1 S' H' := ⟨st.sub, hb, fun a n q => ?_, fun a ha => .inl ha, fun a e => upd_kp (upd_kp (st.kp a e))⟩
  · exact hR _ _ _ _ _ ⟨rfl, rfl⟩ (hs.trans c1 s4) c4 (rep_obj.mpr ⟨x, rfl, ht⟩)
  · rcases st.new a n q with y | y
    · exact .inl (upd_kp (upd_kp y))
    · have : a = x := by simpa using y
      subst this
      exact .inl h1
/-- C(e, ..) -/
theorem ev_make {C : Addr} {f : List D → OT → Prop} {dvs : List V} {dds : List D} {E : XK} {t : OT} (h : PE X e (tMake C (mkI X.K C f) dvs E (tA X es))) (ha : AV X es ρ M ds M1) (hf : f (ds ++ dds) t) (hd : ∀ S, Reps X.K S dds dvs := by intro _; exact reps_nil.mpr rfl) : EV X e ρ M (.obj t) M1 := fun σ S H Q hE hC hR =>
  tE_of h (ha σ S H _ hE hC fun vs S1 H1 s1 c1 r1 x dx h1 h2 ne => made_use s1 c1 (r1.append (hd S1)) hf h1 h2 ne hR)
/-- C(e, .., k = v) -/
theorem ev_makeK {C : Addr} {f : List D → OT → Prop} {n m : Nat} {gV : List V → List V → List V} {E : XK} {kws : List Keyword} {t : OT} {ds3 : List D} (h : PE X e (tMakeK C n m (mkI X.K C f) gV E (tA X es) (tKw X kws))) (ha : AV X es ρ M ds M1) (hk : KV X kws ρ M1 ds2 M2) (l1 : ds.length = n) (l2 : ds2.length = m)
    (hg : ∀ S vs ws x, Reps X.K S ds vs → Reps X.K S ds2 ws → ∃ us, gV (.ref x :: vs) ws = .ref x :: us ∧ Reps X.K S ds3 us) (hf : f ds3 t) : EV X e ρ M (.obj t) M2 := fun σ S H Q hE hC hR =>
  tE_of h (ha σ S H _ hE hC fun vs S1 H1 s1 c1 r1 => hk σ S1 H1 _ (hE.mono s1.sub) c1 fun ws S2 H2 s2 c2 r2 => ⟨by rw [← r1.length]; exact l1, by rw [← r2.length]; exact l2, fun x dx h1 h2 ne => by
    obtain ⟨us, e1, r3⟩ := hg S2 vs ws x (r1.mono s2.sub) r2
    rw [e1]
    exact made_use (s1.trans c1 s2) c2 r3 hf h1 h2 ne hR⟩)
/-- an __init__ by its body -/
theorem fn_init {P : Program} {w : World} {K : Fg} {mg : Str → Option Value} {base : Heap} {x qual : Str} {params : Arguments} {bd : List Stmt} {sc : Scope} {dvs : List V} {kws : List (Str × V)} {f C : Addr} {fd : FuncData} {N ps : List Str} {k : Nat} {sp : List D → OT → Prop} (F : FunD K x qual params bd sc dvs kws f fd) (S : FnScope N ps sc) (hl : ∀ ds t, sp ds t → ds.length + 1 = ps.length)
    (body : ∀ (cdv : Value) (A : Around) (outer : List Env) (s : Shared) (H : Hp) (E : XK), Room k (A.deeper (PyProof.Rows.envOfC qual sc s.heap.objs.size f cdv)) → ∀ (x : Addr) ds t, sp ds t →
      ∃ R : Mem → Prop, SV (cxOf CX0 P w K mg base N qual sc f cdv A outer s H E).nox bd (startR N (.ref x :: ds)) [(x, .ins C [])] { nx := fun _ M' => R M', rt := fun _ _ => False } ∧
        ∀ M' S' H', R M' → Cfg K S' M' H' → ∃ S2, Step M' S' H' [] S2 H' ∧ Cfg K S2 [] H' ∧ t.holds S2 x) : FnOk P w K mg base CX0 (k + 1) f fd ps (mkI K C sp) := by
  refine F.ok S (fun vs H Q E ⟨S, x, ws, ds, t, e, r, _, q, _⟩ => by rw [e, List.length_cons, ← r.length]; exact hl _ _ q) (fun cdv A outer s H vs Q E hr ⟨S, x, ws, ds, t, e, r, c, q, hR⟩ => ?_)
  subst e
  obtain ⟨R, hb, hd⟩ := body cdv A outer s H E hr x ds t q
  refine ⟨_, PSs.nox pssW, hb _ S H _ (startR_env (reps_cons.mpr ⟨_, _, rfl, rep_ref.mpr rfl, r⟩)) c ⟨fun ρ' M' σ' S' H' p s c' e' => ?_, fun _ _ _ _ _ z => z.elim, fun _ _ _ _ _ z => z.elim, fun _ _ _ _ _ z => z.elim⟩⟩
  obtain ⟨S2, s2, c2, ht⟩ := hd M' S' H' p c'
  exact hR S2 H' (s.trans c' s2) c2 ht
end
end RL
namespace RL
open PySem L2

/-! ### dicts over data -/
section
variable {κ : Type} [DecidableEq κ]
def valD (kvs : List (κ × D)) (k : κ) : Option D := (kvs.find? fun kv => decide (kv.1 = k)).map (·.2)
def putKD (kvs : List (κ × D)) (k : κ) (d : D) : List (κ × D) :=
  if (kvs.any fun kv => decide (kv.1 = k)) = true then kvs.map (fun kv => if kv.1 = k then (kv.1, d) else kv) else kvs ++ [(k, d)]
abbrev zipV (kvs : List (κ × D)) (vs : List V) : List (κ × V) := (kvs.map (·.1)).zip vs
theorem zipV_val {K : Fg} {S : Hp} {k : κ} : ∀ {kvs : List (κ × D)} {vs : List V}, Reps K S (kvs.map (·.2)) vs → (valD kvs k = none → valV (zipV kvs vs) k = none) ∧ ∀ d, valD kvs k = some d → ∃ v, valV (zipV kvs vs) k = some v ∧ Rep K S d v
  | [], _, _ => ⟨fun _ => rfl, fun d e => by cases e⟩
  | (g, c) :: kvs, _, r => by
    obtain ⟨v, vs, rfl, q, r⟩ := reps_cons.mp r
    obtain ⟨h1, h2⟩ := zipV_val (k := k) r
    by_cases hg : g = k
    · have e1 : valD ((g, c) :: kvs) k = some c := by simp [valD, List.find?_cons, hg]
      have e2 : valV (zipV ((g, c) :: kvs) (v :: vs)) k = some v := by simp [valV, zipV, List.find?_cons, hg]
      rw [e1, e2]
      exact ⟨(fun e => nomatch e), fun d e => ⟨v, rfl, Option.some.inj e ▸ q⟩⟩
    · have e1 : valD ((g, c) :: kvs) k = valD kvs k := by simp [valD, List.find?_cons, hg]
      have e2 : valV (zipV ((g, c) :: kvs) (v :: vs)) k = valV (zipV kvs vs) k := by simp [valV, zipV, List.find?_cons, hg]
      rw [e1, e2]
      exact ⟨h1, h2⟩
theorem zipV_some {K : Fg} {S : Hp} {k : κ} {kvs : List (κ × D)} {vs : List V} (r : Reps K S (kvs.map (·.2)) vs) : (valV (zipV kvs vs) k).isSome = (valD kvs k).isSome := by
  obtain ⟨h1, h2⟩ := zipV_val (k := k) r
  cases e : valD kvs k with
  | none => rw [h1 e]; rfl
  | some d => obtain ⟨v, e2, _⟩ := h2 d e; rw [e2]; rfl
theorem zipV_any {k : κ} {K : Fg} {S : Hp} : ∀ {kvs : List (κ × D)} {vs : List V}, Reps K S (kvs.map (·.2)) vs → (zipV kvs vs).any (fun kv => decide (kv.1 = k)) = kvs.any fun kv => decide (kv.1 = k)
  | [], _, _ => rfl
  | (g, c) :: kvs, _, r => by
    obtain ⟨v, vs, rfl, q, r⟩ := reps_cons.mp r
    show ((g, v) :: zipV kvs vs).any _ = _
    rw [List.any_cons, List.any_cons, zipV_any r]
theorem zipV_put {K : Fg} {S : Hp} {k : κ} {d : D} {y : V} (q : Rep K S d y) {kvs : List (κ × D)} {vs : List V} (r : Reps K S (kvs.map (·.2)) vs) : ∃ ws, putK (zipV kvs vs) k y = zipV (putKD kvs k d) ws ∧ Reps K S ((putKD kvs k d).map (·.2)) ws := by
  unfold putK putKD
  rw [zipV_any r]
  by_cases h : (kvs.any fun kv => decide (kv.1 = k)) = true
  · rw [if_pos h, if_pos h]
    clear h
    induction kvs generalizing vs with
    | nil => exact ⟨[], by cases vs <;> rfl, reps_nil.mpr rfl⟩
    | cons p kvs ih =>
      obtain ⟨g, c⟩ := p
      obtain ⟨v, vs, rfl, q1, r⟩ := reps_cons.mp r
      obtain ⟨ws, e1, e2⟩ := ih r
      by_cases hg : g = k
      · refine ⟨y :: ws, ?_, ?_⟩
        · show (if g = k then (g, y) else (g, v)) :: (zipV kvs vs).map _ = zipV ((if g = k then (g, d) else (g, c)) :: kvs.map _) (y :: ws)
          rw [if_pos hg, if_pos hg, e1]; rfl
        · show Reps K S (((if g = k then (g, d) else (g, c)) :: kvs.map _).map (·.2)) (y :: ws)
          rw [if_pos hg]
          exact reps_cons.mpr ⟨y, ws, rfl, q, e2⟩
      · refine ⟨v :: ws, ?_, ?_⟩
        · show (if g = k then (g, y) else (g, v)) :: (zipV kvs vs).map _ = zipV ((if g = k then (g, d) else (g, c)) :: kvs.map _) (v :: ws)
          rw [if_neg hg, if_neg hg, e1]; rfl
        · show Reps K S (((if g = k then (g, d) else (g, c)) :: kvs.map _).map (·.2)) (v :: ws)
          rw [if_neg hg]
          exact reps_cons.mpr ⟨v, ws, rfl, q1, e2⟩
  · rw [if_neg h, if_neg h]
    have hl := r.length
    rw [List.length_map] at hl
    refine ⟨vs ++ [y], ?_, ?_⟩
    · show (kvs.map (·.1)).zip vs ++ [(k, y)] = ((kvs ++ [(k, d)]).map (·.1)).zip (vs ++ [y])
      rw [List.map_append, List.zip_append (by rw [List.length_map]; exact hl)]
      rfl
    · rw [List.map_append]
      exact r.append (.one q)
theorem zipV_len {K : Fg} {S : Hp} {kvs : List (κ × D)} {vs : List V} (r : Reps K S (kvs.map (·.2)) vs) : (zipV kvs vs).length = kvs.length := by
  have := r.length
  rw [List.length_map] at this
  rw [List.length_zip, List.length_map]
  omega
theorem putKD_len (kvs : List (κ × D)) (k : κ) (d : D) : (putKD kvs k d).length ≤ kvs.length + 1 := by
  unfold putKD
  split <;> simp
end
/-- a tuple of keys -/
def keyD : Key → D
  | .inl i => .int i
  | .inr x => .str x
theorem keys_reps {K : Fg} {S : Hp} : ∀ {ks : List Key} {vs : List V}, Reps K S (ks.map keyD) vs ↔ vs = ks.map kV
  | [], vs => by simp [Reps]
  | k :: ks, vs => by
    rw [List.map_cons, reps_cons, List.map_cons]
    constructor
    · rintro ⟨v, ws, rfl, a, b⟩
      rw [keys_reps.mp b]
      cases k with
      | inl i => rw [show keyD (Sum.inl i) = D.int i from rfl] at a; rw [rep_int.mp a]; rfl
      | inr i => rw [show keyD (Sum.inr i) = D.str i from rfl] at a; rw [rep_str.mp a]; rfl
    · rintro rfl
      refine ⟨_, _, rfl, ?_, keys_reps.mpr rfl⟩
      cases k with
      | inl i => exact rep_int.mpr rfl
      | inr i => exact rep_str.mpr rfl
/-- a dict that stays -/
def dTH (K : Fg) (kvs : List (List Key × D)) (S : Hp) (a : Addr) : Prop := ∃ vs, S a = some (.dT (zipV kvs vs)) ∧ Reps K S (kvs.map (·.2)) vs
def dKH (K : Fg) (kvs : List (Key × D)) (S : Hp) (a : Addr) : Prop := ∃ vs, S a = some (.dK (zipV kvs vs)) ∧ Reps K S (kvs.map (·.2)) vs
def dTOT (K : Fg) (kvs : List (List Key × D)) : OT := ⟨dTH K kvs, fun _ _ _ h ⟨vs, e, r⟩ => ⟨vs, h _ _ e, r.mono h⟩⟩
def dKOT (K : Fg) (kvs : List (Key × D)) : OT := ⟨dKH K kvs, fun _ _ _ h ⟨vs, e, r⟩ => ⟨vs, h _ _ e, r.mono h⟩⟩
inductive IsT (K : Fg) (M : Mem) : D → List (List Key × D) → Prop
  | obj {kvs : List (List Key × D)} : IsT K M (.obj (dTOT K kvs)) kvs
  | own {k : Nat} {a : Addr} {kvs : List (List Key × D)} (h : M[k]? = some (a, .dT kvs)) : IsT K M (.ref a) kvs
inductive IsK (K : Fg) (M : Mem) : D → List (Key × D) → Prop
  | obj {kvs : List (Key × D)} : IsK K M (.obj (dKOT K kvs)) kvs
  | own {k : Nat} {a : Addr} {kvs : List (Key × D)} (h : M[k]? = some (a, .dK kvs)) : IsK K M (.ref a) kvs
theorem IsT.get {K : Fg} {M : Mem} {S H : Hp} {d : D} {kvs : List (List Key × D)} {v : V} (h : IsT K M d kvs) (c : Cfg K S M H) (r : Rep K S d v) : ∃ p vs, v = .ref p ∧ H p = some (.dT (zipV kvs vs)) ∧ Reps K S (kvs.map (·.2)) vs := by
  cases h with
  | obj =>
    obtain ⟨p, e, vs, z, q⟩ := rep_obj.mp r
    exact ⟨p, vs, e, c.sub _ _ z, q⟩
  | own h =>
    obtain ⟨o, z, vs, e, q⟩ := c.at h
    subst e
    exact ⟨_, vs, rep_ref.mp r, z, q⟩
theorem IsK.get {K : Fg} {M : Mem} {S H : Hp} {d : D} {kvs : List (Key × D)} {v : V} (h : IsK K M d kvs) (c : Cfg K S M H) (r : Rep K S d v) : ∃ p vs, v = .ref p ∧ H p = some (.dK (zipV kvs vs)) ∧ Reps K S (kvs.map (·.2)) vs := by
  cases h with
  | obj =>
    obtain ⟨p, e, vs, z, q⟩ := rep_obj.mp r
    exact ⟨p, vs, e, c.sub _ _ z, q⟩
  | own h =>
    obtain ⟨o, z, vs, e, q⟩ := c.at h
    subst e
    exact ⟨_, vs, rep_ref.mp r, z, q⟩

section
variable {X : Cx} {e a b c tg iter elt tst kx vx : Expr} {es : List Expr} {st : Stmt} {rest body els : List Stmt} {ρ ρ1 : Rho} {M M1 M2 M3 : Mem} {d d1 d2 d3 : D} {ds ds2 : List D} {P : Post} {pos p1 p2 : Pos} {i j : Int} {x : Str} {scope : Scope} {vs : List Nat}
  {kt : List (List Key × D)} {kk : List (Key × D)} {ks : List Key} {ky : Key}

/-- d[(..)] -/
theorem ev_dgetT (hu : X.A.units + 1 < cLine) (ha : EV X a ρ M d1 M1) (hb : EV X b ρ M1 (.tup (ks.map keyD)) M2) (hT : ∀ M', IsT X.K M' d1 kt) (hv : valD kt ks = some d) (hs : NoSl b := by exact fun _ _ => rfl) : EV X (.Subscript a b pos) ρ M d M2 := fun σ S H Q hE hC hR =>
  tE_of (pe_dget hu peW peW hs) (ha.use hE hC fun v S1 H1 s1 c1 r1 => hb.use (hE.mono s1.sub) c1 fun y S2 H2 s2 c2 r2 => by
    obtain ⟨p, vs, rfl, z, q⟩ := (hT M2).get c2 (r1.mono s2.sub)
    obtain ⟨b, ws, rfl, zb, qb⟩ := tup_at c2 r2
    rw [keys_reps.mp qb] at zb
    obtain ⟨w, e1, q1⟩ := (zipV_val (k := ks) q).2 d hv
    exact ⟨p, w, rfl, by rw [← e1]; exact DGet.t z zb, (hR.after (s1.trans c1 s2) c2).id c2 q1⟩)
/-- .. of a dict of the store -/
theorem ev_dgetTM {n : Nat} {p : Addr} (hu : X.A.units + 1 < cLine) (ha : EV X a ρ M (.ref p) M1) (hb : EV X b ρ M1 (.tup (ks.map keyD)) M2) (hT : M2[n]? = some (p, .dT kt)) (hv : valD kt ks = some d) (hs : NoSl b := by exact fun _ _ => rfl) : EV X (.Subscript a b pos) ρ M d M2 := fun σ S H Q hE hC hR =>
  tE_of (pe_dget hu peW peW hs) (ha.use hE hC fun v S1 H1 s1 c1 r1 => hb.use (hE.mono s1.sub) c1 fun y S2 H2 s2 c2 r2 => by
    obtain ⟨p, vs, rfl, z, q⟩ := (IsT.own (K := X.K) hT).get c2 (r1.mono s2.sub)
    obtain ⟨b, ws, rfl, zb, qb⟩ := tup_at c2 r2
    rw [keys_reps.mp qb] at zb
    obtain ⟨w, e1, q1⟩ := (zipV_val (k := ks) q).2 d hv
    exact ⟨p, w, rfl, by rw [← e1]; exact DGet.t z zb, (hR.after (s1.trans c1 s2) c2).id c2 q1⟩)
/-- d[k], k an int or a text -/
theorem ev_dgetK (hu : X.A.units + 1 < cLine) (ha : EV X a ρ M d1 M1) (hb : EV X b ρ M1 (keyD ky) M2) (hT : IsK X.K M2 d1 kk) (hv : valD kk ky = some d) (hs : NoSl b := by exact fun _ _ => rfl) : EV X (.Subscript a b pos) ρ M d M2 := fun σ S H Q hE hC hR =>
  tE_of (pe_dget hu peW peW hs) (ha.use hE hC fun v S1 H1 s1 c1 r1 => hb.use (hE.mono s1.sub) c1 fun y S2 H2 s2 c2 r2 => by
    obtain ⟨p, vs, rfl, z, q⟩ := hT.get c2 (r1.mono s2.sub)
    have ey : y = kV ky := by
      cases ky with
      | inl i => exact rep_int.mp r2
      | inr i => exact rep_str.mp r2
    subst ey
    obtain ⟨w, e1, q1⟩ := (zipV_val (k := ky) q).2 d hv
    exact ⟨p, w, rfl, by rw [← e1]; exact DGet.k z, (hR.after (s1.trans c1 s2) c2).id c2 q1⟩)
/-- y not in d, as an operation on values -/
def rNotInD : R2 := fun y x H Q => ∃ a o, x = .ref a ∧ DGet H a y o ∧ Q (.bl (!o.isSome)) H
def rInD : R2 := fun y x H Q => ∃ a o, x = .ref a ∧ DGet H a y o ∧ Q (.bl o.isSome) H
theorem op_notInD (hu : X.A.units + 1 < cLine) : OpR X (compareOp .NotIn) rNotInD := fun pins s σ H x y v u Q I rx ry ⟨a, o, e, g, q⟩ => by
  subst e
  cases (show u = Value.ref a from ry)
  exact d_notIn hu I g rx fun s' I' => ⟨.bl (!o.isSome), H, I', rfl, q⟩
theorem op_inD (hu : X.A.units + 1 < cLine) : OpR X (compareOp .In) rInD := fun pins s σ H x y v u Q I rx ry ⟨a, o, e, g, q⟩ => by
  subst e
  cases (show u = Value.ref a from ry)
  exact d_in hu I g rx fun s' I' => ⟨.bl o.isSome, H, I', rfl, q⟩
theorem rs_notInT (hT : IsT X.K M d2 kt) : RS2 X.K rNotInD M (.tup (ks.map keyD)) d2 (Out (.bl (!(valD kt ks).isSome)) M) := fun S H x y Q c r1 r2 hR => by
  obtain ⟨p, vs, rfl, z, q⟩ := hT.get c r2
  obtain ⟨b, ws, rfl, zb, qb⟩ := tup_at c r1
  rw [keys_reps.mp qb] at zb
  exact ⟨p, _, rfl, DGet.t z zb, hR.id c (rep_bl.mpr (by rw [zipV_some q]))⟩
theorem rs_inT (hT : IsT X.K M d2 kt) : RS2 X.K rInD M (.tup (ks.map keyD)) d2 (Out (.bl (valD kt ks).isSome) M) := fun S H x y Q c r1 r2 hR => by
  obtain ⟨p, vs, rfl, z, q⟩ := hT.get c r2
  obtain ⟨b, ws, rfl, zb, qb⟩ := tup_at c r1
  rw [keys_reps.mp qb] at zb
  exact ⟨p, _, rfl, DGet.t z zb, hR.id c (rep_bl.mpr (by rw [zipV_some q]))⟩
theorem rs_inK (hT : IsK X.K M d2 kk) : RS2 X.K rInD M (keyD ky) d2 (Out (.bl (valD kk ky).isSome) M) := fun S H x y Q c r1 r2 hR => by
  obtain ⟨p, vs, rfl, z, q⟩ := hT.get c r2
  have ey : x = kV ky := by
    cases ky with
    | inl i => exact rep_int.mp r1
    | inr i => exact rep_str.mp r1
  subst ey
  exact ⟨p, _, rfl, DGet.k z, hR.id c (rep_bl.mpr (by rw [zipV_some q]))⟩
/-- d[(..)] = e, d a dict of the store -/
theorem sv_dputT {n : Nat} {p : Addr} {pos' : Pos} (hu : X.A.units + 1 < cLine) (hs : swapsWith e (some (.Subscript a b pos')) pos.line X.env = pure false) (he : EV X e ρ M d M1) (ha : EV X a ρ M1 (.ref p) M2) (hb : EV X b ρ M2 (.tup (ks.map keyD)) M3) (hT : M3[n]? = some (p, .dT kt)) (hl : kt.length < sizeLine)
    (k : SV X rest ρ (M3.set n (p, .dT (putKD kt ks d))) P) : SV X (.Assign [.Subscript a b pos'] e pos :: rest) ρ M P := fun σ S H E hE hC hF =>
  tSs_of (pss_cons (ps_dput hu peW peW peW hs) pssW) (he.use hE hC fun y S1 H1 s1 c1 r1 => ha.use (hE.mono s1.sub) c1 fun x S2 H2 s2 c2 r2 => hb.use (hE.mono (s1.sub.trans s2.sub)) c2 fun z S3 H3 s3 c3 r3 => by
    obtain ⟨o, ho, vs, e1, q⟩ := c3.at hT
    subst e1
    obtain ⟨b, ws, rfl, zb, qb⟩ := tup_at c3 r3
    rw [keys_reps.mp qb] at zb
    obtain ⟨us, e2, q2⟩ := zipV_put (k := ks) (r1.mono (s2.sub.trans s3.sub)) q
    have st3 := (s1.trans c1 s2).trans c2 s3
    obtain ⟨c4, s4⟩ := cfg_set (m' := .dT (putKD kt ks d)) (o := .dT (putK (zipV kt vs) ks y)) c3 hT ⟨us, by rw [e2], q2⟩
    exact ⟨p, _, rep_ref.mp r2, DPut.t ho zb (by rw [zipV_len q]; exact hl), k σ S3 _ E (hE.mono st3.sub) c4 (hF.after (st3.trans c3 s4) c4)⟩)
/-- d[k] = e, k an int or a text -/
theorem sv_dputK {n : Nat} {p : Addr} {pos' : Pos} (hu : X.A.units + 1 < cLine) (hs : swapsWith e (some (.Subscript a b pos')) pos.line X.env = pure false) (he : EV X e ρ M d M1) (ha : EV X a ρ M1 (.ref p) M2) (hb : EV X b ρ M2 (keyD ky) M3) (hT : M3[n]? = some (p, .dK kk)) (hl : kk.length < sizeLine)
    (k : SV X rest ρ (M3.set n (p, .dK (putKD kk ky d))) P) : SV X (.Assign [.Subscript a b pos'] e pos :: rest) ρ M P := fun σ S H E hE hC hF =>
  tSs_of (pss_cons (ps_dput hu peW peW peW hs) pssW) (he.use hE hC fun y S1 H1 s1 c1 r1 => ha.use (hE.mono s1.sub) c1 fun x S2 H2 s2 c2 r2 => hb.use (hE.mono (s1.sub.trans s2.sub)) c2 fun z S3 H3 s3 c3 r3 => by
    obtain ⟨o, ho, vs, e1, q⟩ := c3.at hT
    subst e1
    have ez : z = kV ky := by
      cases ky with
      | inl i => exact rep_int.mp r3
      | inr i => exact rep_str.mp r3
    subst ez
    obtain ⟨us, e2, q2⟩ := zipV_put (k := ky) (r1.mono (s2.sub.trans s3.sub)) q
    have st3 := (s1.trans c1 s2).trans c2 s3
    obtain ⟨c4, s4⟩ := cfg_set (m' := .dK (putKD kk ky d)) (o := .dK (putK (zipV kk vs) ky y)) c3 hT ⟨us, by rw [e2], q2⟩
    exact ⟨p, _, rep_ref.mp r2, DPut.k ho (by rw [zipV_len q]; exact hl), k σ S3 _ E (hE.mono st3.sub) c4 (hF.after (st3.trans c3 s4) c4)⟩)
/-- self.f = [..]: a field that holds a list which will change -/
theorem sv_fldN {f : Str} {C p : Addr} {n : Nat} {fs : List (Str × D)} {pos' : Pos} (hs : swapsWith e (some (.Attribute a f pos')) pos.line X.env = pure false) (he : FV X e ρ M ds M1) (ha : ∀ q M', EV X a ρ (M1 ++ [(q, M')]) (.ref p) (M1 ++ [(q, M')])) (hk : M1[n]? = some (p, .ins C fs)) (c : Cls X.K C) (nn : NoAttr X.K C f) (hl : fs.length < 1000)
    (k : ∀ q, q ∉ dm M1 → SV X rest ρ (M1.set n (p, .ins C (putD f (.ref q) fs)) ++ [(q, .lst ds)]) P) : SV X (.Assign [.Attribute a f pos'] e pos :: rest) ρ M P := fun σ S H E hE hC hF =>
  tSs_of (pss_cons (ps_fld peW peW hs) pssW) (he σ S H _ hE hC fun q vs S1 H1 s1 c1 n1 n2 n3 e1 r1 => by
    have c2 : Cfg X.K S1 (M1 ++ [(q, .lst ds)]) H1 := ⟨c1.sub, by
      rw [dm, List.map_append, List.nodup_append]
      refine ⟨c1.nd, by simp, fun a ha b hb z => n3 ?_⟩
      have : b = q := by simpa using hb
      rw [← this, ← z]; exact ha, fun u hu => by
      rcases List.mem_append.mp hu with hu | hu
      · exact c1.mem u hu
      · have : u = (q, .lst ds) := by simpa using hu
        subst this
        exact ⟨n2, _, e1, vs, rfl, r1⟩⟩
    have s2 : Step M S H (M1 ++ [(q, .lst ds)]) S1 H1 := ⟨s1.sub, s1.frm, s1.new, fun a ha => by
      rw [dm, List.map_append] at ha
      rcases List.mem_append.mp ha with ha | ha
      · exact s1.dom a ha
      · have : a = q := by simpa using ha
        subst this
        exact .inr n1, s1.kp⟩
    refine (ha q _).use (hE.mono s1.sub) c2 fun x S3 H3 s3 c3 r3 => ?_
    have hlt := (List.getElem?_eq_some_iff.mp hk).1
    have hk' : (M1 ++ [(q, MO.lst ds)])[n]? = some (p, .ins C fs) := by rw [List.getElem?_append_left hlt]; exact hk
    obtain ⟨o, ho, dx, ws, e2, r⟩ := c3.at hk'
    subst e2
    obtain ⟨ws', e3, r4⟩ := putD_reps (f := f) (d := .ref q) (rep_ref.mpr rfl) r
    have st3 := s2.trans c2 s3
    obtain ⟨c4, s4⟩ := cfg_set (m' := .ins C (putD f (.ref q) fs)) (o := .ins C dx (putF f (.ref q) ((fs.map (·.1)).zip ws))) c3 hk' ⟨dx, ws', by rw [e3], r4⟩
    rw [List.set_append_left _ _ hlt] at c4 s4
    refine ⟨p, C, dx, _, rep_ref.mp r3, ho, c, nn, ?_, k q n3 σ S3 _ E (hE.mono st3.sub) c4 (hF.after (st3.trans c3 s4) c4)⟩
    rw [List.length_zip]
    have := r.length
    rw [List.length_map] at *
    omega)
/-- while (x := e) op d: the test stores a name -/
theorem s1_whileW {ta : Expr} {tb : Expr} {op : CmpOp} {r : R2} {n : Nat} (hp : PassesOwn (model X.prog X.w) X.A X.env X.xe) (hc : PTw X c (wCmp r (wNm (wE (tE X ta)) n) (tE X tb))) (W : Nat → Rho → Mem → Prop) {m0 : Nat} (w0 : W m0 ρ M)
    (turn : ∀ m ρ' M', W m ρ' M' → ∃ dx dy M2 M3 k, EV X ta ρ' M' dx M2 ∧ EV X tb (ρ'.set n (some dx)) M2 dy M3 ∧ RS2 X.K r M3 dx dy (Out (.bl k) M3) ∧ (k = true → SV X body (ρ'.set n (some dx)) M3 { nx := fun ρ3 M3 => ∃ m', m' < m ∧ W m' ρ3 M3, rt := P.rt, bk := P.nx, ct := fun ρ3 M3 => ∃ m', m' < m ∧ W m' ρ3 M3 }) ∧ (k = false → P.nx (ρ'.set n (some dx)) M3)) : S1 X (.While c body [] pos) ρ M P := fun σ S H E hE hC hF =>
  tSt_of (ps_whileW hp hc pssW pss_nil) (by
    refine ⟨fun m σ' H' => ∃ ρ' M' S', W m ρ' M' ∧ EnvR X.K S' σ' ρ' ∧ Cfg X.K S' M' H' ∧ Step M S H M' S' H', ⟨m0, ρ, M, S, w0, hE, hC, .refl⟩, ?_⟩
    rintro m σ' H' ⟨ρ', M', S', w, e', c', st'⟩
    obtain ⟨dx, dy, M2, M3, k, h1, h2, h3, h4, h5⟩ := turn m ρ' M' w
    refine h1.use e' c' fun v S2 H2 s2 c2 r2 => h2.use ((e'.mono s2.sub).set r2 n) c2 fun u S3 H3 s3 c3 r3 => h3 S3 H3 v u _ c3 (r2.mono s3.sub) r3 fun d M4 z S4 H4 ⟨q1, q2⟩ s4 c4 r4 => ?_
    subst q1; subst q2
    have st4 := ((st'.trans c' s2).trans c2 s3).trans c3 s4
    have e4 : EnvR X.K S4 (σ'.set n (some v)) (ρ'.set n (some dx)) := ((e'.mono s2.sub).set r2 n).mono (s3.sub.trans s4.sub)
    refine ⟨k, rep_bl.mp r4, ?_⟩
    cases k with
    | true =>
      rw [if_pos rfl]
      refine ⟨fun σ3 H3 => ∃ m', m' < m ∧ ∃ ρ' M' S', W m' ρ' M' ∧ EnvR X.K S' σ3 ρ' ∧ Cfg X.K S' M' H3 ∧ Step M S H M' S' H3, fun σ3 H3 z => z, h4 rfl _ S4 H4 _ e4 c4 ?_⟩
      exact ⟨fun ρ5 M5 σ5 S5 H5 ⟨m', hm, p⟩ s5 c5 e5 => ⟨m', hm, ρ5, M5, S5, p, e5, c5, st4.trans c4 s5⟩, fun d M5 v S5 H5 p s5 c5 r5 => hF.rt d M5 v S5 H5 p (st4.trans c4 s5) c5 r5, fun ρ5 M5 σ5 S5 H5 p s5 c5 e5 => hF.nx ρ5 M5 σ5 S5 H5 p (st4.trans c4 s5) c5 e5, fun ρ5 M5 σ5 S5 H5 ⟨m', hm, p⟩ s5 c5 e5 => ⟨m', hm, ρ5, M5, S5, p, e5, c5, st4.trans c4 s5⟩⟩
    | false =>
      rw [if_neg Bool.false_ne_true]
      exact hF.nx _ M4 _ S4 H4 (h5 rfl) st4 c4 e4)
end
end RL
namespace RL
open PySem L2

/-- one more pair, the key a tuple -/
theorem set_pairT {X : Cx} {pl : List (Addr × Obj)} {τ : L2.St} {G : Hp} {t : Shared} {E : Value → Shared → Prop} {L b : Addr} {ps : List (List Key × V)} {ks : List Key} {y : V} {u : Value} {Q : Unit → Shared → Prop} (hu : X.A.units + 1 < cLine) (I : Inv X pl τ G t) (hL : G L = some (.dT ps)) (hb : G b = some (.tup (ks.map kV)))
    (hz : ps.length < sizeLine) (ry : RelV y u) (h : ∀ t', Inv X pl τ (upd G L (.dT (putK ps ks y))) t' → Q () t') : wpAny (model X.prog X.w) X.A (dictSet L (.ref b) u) Q E t := by
  obtain ⟨z1, z2, trip, rel, dh⟩ := dt_of I.hok hL
  have n1 : trip.length ≤ sizeLine := by rw [← Paired.length rel]; exact z1
  have n2 : (putK ps ks y).length ≤ sizeLine := by have := length_putK ps ks y; omega
  refine wpAny_dictSet_heap (hsz := n1) (show X.A.units < cLine by omega) (key_of I.hok hb) dh fun h1 dh1 sb => h _ ?_
  obtain ⟨ob, ents, epo, g1, g2, g3, g4, _, g6⟩ := dh1
  refine d_write I (by rw [hL]; exact True.intro) sb ⟨ob, g1⟩ ⟨n2, z2, _, (rel.put ks hb ry).keeps fun q zs eq => ?_, ob, ents, epo, g1, g2, g3, g4, g6⟩
  rw [upd_ne (ne_of eq hL (fun z => nomatch z))]
  exact eq

/-- {(..): v for target in iter}: L the new dict -/
def tDcT (wi : TI) (g : TG) (tk tv : TE) (vs : List Nat) : TE := fun σ H Q => wi σ H fun J H1 => ∀ L, H1 L = none → ∃ W : Nat → Nat → Hp → Prop, (∃ m, W 0 m (upd H1 L (.dT []))) ∧ ∀ i m H, W i m H →
  (J.stop i H ∧ Q (.ref L) H) ∨ (J.go i H ∧ ∃ Nx : Hp → Prop, (∀ H', Nx H' → ∃ m', m' < m ∧ W (i + 1) m' H') ∧ ∀ x H', J.yld i H x H' → g x (wipe σ vs) H' fun σ2 H2 => wipe σ2 vs = wipe σ vs ∧
    tk σ2 H2 fun y H4 => tv σ2 H4 fun z H5 => ∃ ps ks b, y = .ref b ∧ H5 b = some (.tup (ks.map kV)) ∧ H5 L = some (.dT ps) ∧ ps.length < sizeLine ∧ Nx (upd H5 L (.dT (putK ps ks z))))
theorem pe_dcT {X : Cx} {kx vx tg iter : Expr} {scope : Scope} {own : List (Str × Nat)} {pos : Pos} {wi : TI} {g : TG} {tk tv : TE} (hu : X.A.units + 1 < cLine) (hc : X.calm = true) (hN : X.N.Nodup) (hi : PI X tg iter wi) (ok : BlkOk X.N X.env.scope scope own)
    (hg : ∀ (t : Shared) (G : Hp) (C : Addr) (cl : List (Str × Addr)) (fp : List Addr), PG (X.blk t G scope (compEnvC scope cl C X.env) fp) tg g)
    (hk : ∀ (t : Shared) (G : Hp) (C : Addr) (cl : List (Str × Addr)) (fp : List Addr), PE (X.blk t G scope (compEnvC scope cl C X.env) fp) kx tk)
    (hv : ∀ (t : Shared) (G : Hp) (C : Addr) (cl : List (Str × Addr)) (fp : List Addr), PE (X.blk t G scope (compEnvC scope cl C X.env) fp) vx tv) (hs : ∀ x, foldedSetIterable iter X.env x = pure x := by intro _; rfl) :
    PE X (.DictComp kx vx [⟨tg, iter, [], 0⟩] scope pos) (tDcT wi g tk tv (own.map (·.2))) := by
  refine ⟨fun pl t0 τ G0 Q I0 hw => ?_⟩
  rw [arm_eval_DictComp]
  have cells : ∀ y ∈ scope.names, y.2 = .free → ∃ c, X.env.cells.lookup y.1 = some c := fun y hy e => (ok.free y hy e).elim (fun k => I0.ok.has _ (.inl k)) fun k => I0.ok.has _ (.inr k)
  refine wpAny_comprehension_free (use := none) rfl hs (closure_ok cells) ok.kind (fun y hy e => by rw [ok.uniq y hy, e]) (thn (hi.run pl t0 τ G0 _ I0 hw) fun _ t1 q1 => thn q1 fun itv t2 q2 => ?_)
  obtain ⟨it, fp, tn, J, G2, rfl, I2, T, at2, fr2, q⟩ := q2
  refine wpAny_newObj_type (newEnv_comp ?_)
  generalize hL : t2.heap.objs.size = L
  have nL : G2 L = none := I2.hok.fresh (Nat.le_of_eq hL)
  obtain ⟨W, ⟨m0, w0⟩, turn⟩ := q L nL
  generalize ht3 : ({ t2 with heap := t2.heap.push { cls := .type "dict", data := .dict #[] } } : Shared) = t3
  have hp3 : t3.heap = t2.heap.push { cls := .type "dict", data := .dict #[] } := by rw [← ht3]
  have I3 : Inv X pl τ (upd G2 L (.dT [])) t3 := by
    rw [← ht3]
    refine I2.laid (t' := t2.toks) (fun _ _ e => Heap.get?_push_of_some _ e) (Nat.le_of_eq hL) ?_
    rw [← hL]
    exact dt_empty t2.heap I2.big
  have below : ∀ b ∈ fp, b < t2.heap.objs.size := fun b hb => let ⟨_, e, _⟩ := T.obj _ _ at2 b hb; Heap.lt_size e
  have fr3 : ∀ b ∈ fp, FpOk X pl (upd G2 L (.dT [])) b ∧ b < t3.heap.objs.size := fun b hb => by
    have hlt := below b hb
    refine ⟨⟨?_, (fr2 b hb).2⟩, ?_⟩
    · rw [upd_ne (fun z => absurd hlt (by rw [z, ← hL]; exact Nat.lt_irrefl _))]
      exact (fr2 b hb).1
    · rw [hp3, Heap.size_push]
      exact Nat.lt_succ_of_lt hlt
  have at3 : tn 0 t3.heap := T.keep _ _ _ at2 fun b _ _ e => hp3 ▸ Heap.get?_push_of_some _ e
  have I4 := block_start I3 ok hN fr3
  have kg := hg t3 (upd G2 L (.dT [])) t3.heap.objs.size (cellsFrom (t3.heap.objs.size + 1) scope.names (cloFrom X.env.cells scope.names [])) fp
  have kk := hk t3 (upd G2 L (.dT [])) t3.heap.objs.size (cellsFrom (t3.heap.objs.size + 1) scope.names (cloFrom X.env.cells scope.names [])) fp
  have kv := hv t3 (upd G2 L (.dT [])) t3.heap.objs.size (cellsFrom (t3.heap.objs.size + 1) scope.names (cloFrom X.env.cells scope.names [])) fp
  show codeAny _ _ (.compStart (.DictComp kx vx [⟨tg, iter, [], 0⟩] scope pos) 0 (.ref it) (.ref L) (compEnvC scope (cellsFrom (t3.heap.objs.size + 1) scope.names (cloFrom X.env.cells scope.names [])) t3.heap.objs.size X.env)) (compPost (model X.prog X.w) X.A X.xe none (EP X pl τ Q) (.ref L) t3.heap.objs.size) { t3 with heap := pushCells (t3.heap.push { cls := .type "dict", data := .dict #[] }) scope.names }
  have nfp : ∀ b ∈ fp, (upd G2 L (.dT [])) b = none := fun b hb => (fr3 b hb).1.1
  generalize hce : compEnvC scope (cellsFrom (t3.heap.objs.size + 1) scope.names (cloFrom X.env.cells scope.names [])) t3.heap.objs.size X.env = ce at I4 kg kk kv ⊢
  have ceL : ce.locals = t3.heap.objs.size := by subst hce; rfl
  generalize hG3 : upd G2 L (.dT []) = G3 at I3 I4 kg kk kv w0 nfp fr3
  generalize ht4 : ({ t3 with heap := pushCells (t3.heap.push { cls := .type "dict", data := .dict #[] }) scope.names } : Shared) = t4 at I4 ⊢
  have at4 : tn 0 t4.heap := T.keep _ _ _ at3 fun b _ _ e => ht4 ▸ pushCells_keeps _ _ _ _ (Heap.get?_push_of_some _ e)
  have quiet : ∀ {τ' : L2.St} {G' : Hp} {t' : Shared}, Inv (X.blk t3 G3 scope ce fp) [] τ' G' t' → (∀ b ∈ fp, G' b = none) → ∀ b ∈ fp, FpOk (X.blk t3 G3 scope ce fp) [] G' b := fun {_ _ _} I' hn b hb =>
    ⟨hn b hb, (I'.ok.exf b hb).1, I'.ok.exfs b hb, .inl hb, fun x c e => (I'.ok.exf b hb).2 x c e, fun p hp => absurd (show p ∈ ([] : List (Addr × Obj)) ++ [] from hp) (by simp)⟩
  have loop : codeAny (model X.prog X.w) X.A (.compLoop (.DictComp kx vx [⟨tg, iter, [], 0⟩] scope pos) 0 (.ref it) (.ref L) ce) (compPost (model X.prog X.w) X.A X.xe none (EP X pl τ Q) (.ref L) t3.heap.objs.size) t4 := by
    refine compLoop_anyD (fun n t' => ∃ i G', Inv (X.blk t3 G3 scope ce fp) [] (wipe τ (own.map (·.2))) G' t' ∧ tn i t'.heap ∧ (∀ b ∈ fp, G' b = none) ∧ W i n G') ?_ m0 ⟨0, G3, I4, at4, nfp, w0⟩
    rintro n t5 ⟨i, G5, I5, at5, fr5, w5⟩
    rcases turn i n G5 w5 with ⟨stop, fin⟩ | ⟨go, Nx, hNx, step⟩
    · refine thnF (T.done (X.blk t3 G3 scope ce fp) rfl rfl rfl hc i [] t5 _ G5 (fun _ _ => False) I5 (quiet I5 fr5) at5 stop) fun r t6 ⟨hr, I6⟩ => ?_
      subst hr
      have I7 : Inv X pl τ G5 t6 := I3.call' (ch := fp) I6.os I6.base I6.hok I6.bare fun b hb => let z := (fr3 b hb).1.2; ⟨z.2.2.1, z.1, z.2.2.2.1, z.2.2.2.2⟩
      obtain ⟨m, hn, _⟩ := I6.loc
      have hn : t6.heap.Ns ce.locals m := hn
      rw [ceL] at hn
      have nC : G5 t3.heap.objs.size = none := ceL ▸ (show G5 ce.locals = none from I6.free)
      obtain ⟨f0, f1, f2, f3, f4, f5⟩ := I3.fpOk (Nat.le_refl _) nC
      exact ⟨m, hn, fun h'' sb => ⟨.ref L, G5, I7.turned (t' := t6.toks) (fun b _ hb e => (sb.2 b hb).trans e) f0 f1 f3 f4 f5, rfl, fin⟩⟩
    · refine thnF (T.item (X.blk t3 G3 scope ce fp) rfl rfl rfl hc i [] t5 _ G5 (fun _ _ => False) I5 (quiet I5 fr5) at5 go) fun r t6 ⟨u, hr, q6⟩ => ?_
      subst hr
      refine thnF q6 fun _ t7 ⟨x, G7, I7, r7, y7, at7, fr7⟩ => ?_
      refine thnF (kg.run _ t7 _ G7 x u _ (I7.pinned (quiet I7 fr7) (T.obj _ _ at7)) r7 (step x G7 y7)) fun _ t8 ⟨τ8, G8, I8, hw8, q8⟩ => ?_
      refine wpAny_tests_nil ?_
      rw [if_pos rfl]
      refine thnF (kk.run _ t8 τ8 G8 _ I8 q8) fun _ t9 ⟨yk, G9, I9, r9, q9⟩ => ?_
      refine thnF (kv.run _ t9 τ8 G9 _ I9 q9) fun _ t10 ⟨yv, G10, I10, r10, ps, ks, b, ek, hb, hL10, hz, nx⟩ => ?_
      subst ek
      cases r9
      refine set_pairT (X := X.blk t3 G3 scope ce fp) hu I10 hL10 hb hz r10 fun t11 I11 => ?_
      obtain ⟨m', hm, w'⟩ := hNx _ nx
      have held : ∀ c ∈ fp, ∀ o, t7.heap.get? c = some o → t11.heap.get? c = some o ∧ upd G10 L (.dT (putK ps ks yv)) c = none := fun c hcf o e =>
        let z := I11.pin (c, o) (List.mem_append_right _ (List.mem_append_right _ (mem_pinsAt hcf e)))
        ⟨z.1, z.2.1⟩
      refine ⟨m', hm, i + 1, _, (I11.unpinned (pins := [])).weak (by rw [← hw8, wipe_length]) (fun j v e => ?_), T.keep _ _ _ at7 fun c hcf o e => (held c hcf o e).1, fun c hcf => ?_, w'⟩
      · rw [← hw8] at e
        exact (wipe_some e).1
      · obtain ⟨o, e, _⟩ := T.obj _ _ at7 c hcf
        exact (held c hcf o e).2
  exact codeAny_compStart_dict loop (T.self X.A 0 _ _ _ at4 loop)

section
variable {X : Cx} {e tg iter elt kx vx : Expr} {ρ : Rho} {M M1 : Mem} {scope : Scope} {vs : List Nat}
/-- the pairs one after another -/
def pairsT (n : Nat) (ks : Nat → List Key) (ys : Nat → D) : List (List Key × D) := (List.range n).foldl (fun acc i => putKD acc (ks i) (ys i)) []
/-- {(..): v for target in iter}, the store stays -/
theorem ev_dcT (t : Tg) {n : Nat} {xs ys : Nat → D} {ks : Nat → List Key} (h : PE X e (tDcT (tI X tg iter) (t.t X.K) (tEb X scope kx) (tEb X scope vx) vs)) (hsl : ∀ i ∈ t.sl, i ∈ vs) (hi : IV X tg iter ρ M n xs M1) (hn : n ≤ sizeLine) (hf : ∀ i, i < n → t.fits (xs i))
    (turn : ∀ i, i < n → EVb X scope kx (t.put (wipeR ρ vs) (xs i)) M1 (.tup ((ks i).map keyD)) M1 ∧ EVb X scope vx (t.put (wipeR ρ vs) (xs i)) M1 (ys i) M1) : EV X e ρ M (.obj (dTOT X.K (pairsT n ks ys))) M1 := fun σ S H Q hE hC hR =>
  tE_of h (hi σ S H _ hE hC fun J S1 H1 s1 c1 yl L hL => by
    have hH : H L = none := s1.kp L hL
    have hS : S1 L = none := by
      cases e : S1 L with
      | none => rfl
      | some u => rw [c1.sub L u e] at hL; cases hL
    have hM : L ∉ dm M1 := fun hm => by
      obtain ⟨q, hq, e⟩ := List.mem_map.mp hm
      obtain ⟨_, u, z, _⟩ := c1.mem q hq
      rw [e, hL] at z; cases z
    -- the dict stands as one more thing of the store
    have c1' : Cfg X.K S1 (M1 ++ [(L, .dT [])]) (upd H1 L (.dT [])) := (cfg_mut (m := .dT []) (o := .dT []) c1 hL ⟨[], rfl, reps_nil.mpr rfl⟩).1
    have s1' : Step M1 S1 H1 (M1 ++ [(L, .dT [])]) S1 (upd H1 L (.dT [])) := (cfg_mut (m := .dT []) (o := .dT []) c1 hL ⟨[], rfl, reps_nil.mpr rfl⟩).2
    have plen : ∀ i, (pairsT i ks ys).length ≤ i := fun i => by
      induction i with
      | zero => exact Nat.le_refl _
      | succ i ih =>
        unfold pairsT at ih ⊢
        rw [List.range_succ, List.foldl_append, List.foldl_cons, List.foldl_nil]
        have := putKD_len ((List.range i).foldl (fun acc i => putKD acc (ks i) (ys i)) []) (ks i) (ys i)
        omega
    refine ⟨fun i m H' => m = n - i ∧ i ≤ n ∧ ∃ S', Cfg X.K S' (M1 ++ [(L, .dT (pairsT i ks ys))]) H' ∧ Step M1 S1 H1 (M1 ++ [(L, .dT (pairsT i ks ys))]) S' H', ⟨n, rfl, Nat.zero_le _, S1, c1', s1'⟩, ?_⟩
    rintro i m H' ⟨rfl, hin, S', c', st'⟩
    have frame : ∀ {S2 H2 S3 H3 : Hp}, Cfg X.K S2 (M1 ++ [(L, .dT (pairsT i ks ys))]) H2 → Step M1 S2 H2 M1 S3 H3 → Cfg X.K S3 M1 H3 → Cfg X.K S3 (M1 ++ [(L, .dT (pairsT i ks ys))]) H3 ∧ Step (M1 ++ [(L, .dT (pairsT i ks ys))]) S2 H2 (M1 ++ [(L, .dT (pairsT i ks ys))]) S3 H3 := fun c s c3 => cfg_frame c s c3
    by_cases hlt : i < n
    · obtain ⟨hgo, hy⟩ := (yl S' (M1 ++ [(L, .dT (pairsT i ks ys))]) H' st'.sub c' i).1 hlt
      refine .inr ⟨hgo, fun H2 => ∃ S2, Cfg X.K S2 (M1 ++ [(L, .dT (pairsT (i + 1) ks ys))]) H2 ∧ Step M1 S1 H1 (M1 ++ [(L, .dT (pairsT (i + 1) ks ys))]) S2 H2, fun H2 ⟨S2, z1, z2⟩ => ⟨n - (i + 1), by omega, rfl, hlt, S2, z1, z2⟩, fun x H2 y => ?_⟩
      obtain ⟨S2, s2, c2, r2⟩ := hy x H2 y
      have st2 := st'.trans c' s2
      obtain ⟨tk, tv⟩ := turn i hlt
      refine t.use ((hE.mono (s1.sub.trans st2.sub)).wipe vs) c2 r2 (hf i hlt) fun σ3 e3 w3 => ⟨(w3 vs hsl).trans (wipe_wipe σ vs), fun s0 H0 C cl fp => (tk s0 H0 C cl fp).use e3 (cfg_part c2) fun v S3 H3 s3 c3 r3 => fun s0 H0 C cl fp => (tv s0 H0 C cl fp).use (e3.mono s3.sub) c3 fun u S4 H4 s4 c4 r4 => ?_⟩
      obtain ⟨c3', s3'⟩ := frame c2 s3 c3
      obtain ⟨c4', s4'⟩ := frame c3' s4 c4
      have hk : (M1 ++ [(L, MO.dT (pairsT i ks ys))])[M1.length]? = some (L, .dT (pairsT i ks ys)) := by
        rw [List.getElem?_append_right (Nat.le_refl _), Nat.sub_self]; rfl
      obtain ⟨o, ho, ws, e1, q⟩ := c4'.at hk
      subst e1
      obtain ⟨b, us, rfl, zb, qb⟩ := tup_at c4' (r3.mono s4.sub)
      rw [keys_reps.mp qb] at zb
      obtain ⟨ws', e2, q2⟩ := zipV_put (k := ks i) r4 q
      have e3' : pairsT (i + 1) ks ys = putKD (pairsT i ks ys) (ks i) (ys i) := by
        unfold pairsT
        rw [List.range_succ, List.foldl_append, List.foldl_cons, List.foldl_nil]
      obtain ⟨c5, s5⟩ := cfg_set (m' := .dT (pairsT (i + 1) ks ys)) (o := .dT (putK (zipV (pairsT i ks ys) ws) (ks i) u)) c4' hk ⟨ws', by rw [e2, e3'], by rw [e3']; exact q2⟩
      rw [List.set_append_right _ _ (Nat.le_refl _), Nat.sub_self] at c5 s5
      refine ⟨_, ks i, b, rfl, zb, ho, ?_, S4, c5, ((st2.trans c2 s3').trans c3' s4').trans c4' s5⟩
      rw [zipV_len q]
      have := plen i
      omega
    · have e : i = n := by omega
      subst e
      refine .inl ⟨(yl S' _ H' st'.sub c' i).2 (Nat.le_refl _), ?_⟩
      have hk : (M1 ++ [(L, MO.dT (pairsT i ks ys))])[M1.length]? = some (L, .dT (pairsT i ks ys)) := by
        rw [List.getElem?_append_right (Nat.le_refl _), Nat.sub_self]; rfl
      obtain ⟨o, ⟨ws, e1, q⟩, ho, c5, s5⟩ := cfg_frz c' hk
      subst e1
      have em : (M1 ++ [(L, MO.dT (pairsT i ks ys))]).eraseIdx M1.length = M1 := by
        rw [List.eraseIdx_append_of_length_le (Nat.le_refl _), Nat.sub_self]
        simp
      rw [em] at c5 s5
      exact hR _ _ _ _ _ ⟨rfl, rfl⟩ ((s1.trans c1 st').trans c' s5) c5 (rep_obj.mpr ⟨L, rfl, ws, upd_same, q.mono s5.sub⟩))
end
end RL
namespace RL
open PySem L2

/-! ### rules, plain -/
structure Ru (size : Nat) (ls : List Nat) : Prop where
  s1 : 1 ≤ size
  s2 : size ≤ 100
  ne : ls ≠ []
  len : ls.length ≤ 6
  asc : ls.Pairwise (· < ·)
  bd : ∀ l ∈ ls, 1 ≤ l ∧ l ≤ size
abbrev natD (n : Nat) : D := .int (n : Int)
abbrev tupN (ls : List Nat) : D := .tup (ls.map natD)
abbrev rulesD (size : Nat) (ls : List Nat) : D := .tup [natD size, tupN ls]
def optD : Option Nat → D
  | none => .non
  | some n => natD n

theorem getD_app1 {α : Type} (as bs : List α) (d : α) (n : Nat) (h : n < as.length) : (as ++ bs).getD n d = as.getD n d := by
  rw [List.getD_eq_getElem?_getD, List.getD_eq_getElem?_getD, List.getElem?_append_left h]
theorem getD_app2 {α : Type} (as bs : List α) (d : α) (n : Nat) (h : as.length ≤ n) : (as ++ bs).getD n d = bs.getD (n - as.length) d := by
  rw [List.getD_eq_getElem?_getD, List.getD_eq_getElem?_getD, List.getElem?_append_right h]
/-- the last line of a file that begins with x, for all totals below n -/
def lastT (ls : List Nat) (x : Nat) : Nat → List (Option Nat)
  | 0 => []
  | n + 1 => lastT ls x n ++ [if n < x then none else if n = x then some x else ls.foldl (fun acc l => if l ≤ n ∧ ((lastT ls x n).getD (n - l) none).isSome = true then some l else acc) none]
def lastL (ls : List Nat) (x t : Nat) : Option Nat := (lastT ls x (t + 1)).getD t none
theorem lastT_len (ls : List Nat) (x : Nat) : ∀ n, (lastT ls x n).length = n
  | 0 => rfl
  | n + 1 => by simp [lastT, lastT_len ls x n]
theorem lastT_get (ls : List Nat) (x : Nat) : ∀ n t, t < n → (lastT ls x n).getD t none = lastL ls x t
  | n + 1, t, h => by
    by_cases e : t = n
    · subst e; rfl
    · have hl := lastT_len ls x n
      rw [lastT, getD_app1 _ _ _ _ (by omega)]
      exact lastT_get ls x n t (by omega)
theorem lastL_lt {ls : List Nat} {x t : Nat} (h : t < x) : lastL ls x t = none := by
  unfold lastL
  have hl := lastT_len ls x t
  rw [lastT, getD_app2 _ _ _ _ (by omega), hl, Nat.sub_self, if_pos h]
  rfl
theorem lastL_eq {ls : List Nat} {x : Nat} : lastL ls x x = some x := by
  unfold lastL
  have hl := lastT_len ls x x
  rw [lastT, getD_app2 _ _ _ _ (by omega), hl, Nat.sub_self, if_neg (by omega), if_pos rfl]
  rfl
/-- one turn of the inner loop -/
def stepL (ls : List Nat) (x t : Nat) (acc : Option Nat) (l : Nat) : Option Nat := if l ≤ t ∧ (lastL ls x (t - l)).isSome = true then some l else acc
theorem lastL_gt {ls : List Nat} {x t : Nat} (h : x < t) (hp : ∀ l ∈ ls, 1 ≤ l) : lastL ls x t = ls.foldl (stepL ls x t) none := by
  have hl := lastT_len ls x t
  have e : lastL ls x t = ls.foldl (fun acc l => if l ≤ t ∧ ((lastT ls x t).getD (t - l) none).isSome = true then some l else acc) none := by
    conv => lhs; unfold lastL
    rw [lastT, getD_app2 _ _ _ _ (by omega), hl, Nat.sub_self, if_neg (by omega), if_neg (by omega)]
    rfl
  rw [e]
  have key : ∀ (ms : List Nat) (acc : Option Nat), (∀ l ∈ ms, 1 ≤ l) → ms.foldl (fun acc l => if l ≤ t ∧ ((lastT ls x t).getD (t - l) none).isSome = true then some l else acc) acc = ms.foldl (stepL ls x t) acc := by
    intro ms
    induction ms with
    | nil => intro acc _; rfl
    | cons m ms ih =>
      intro acc hm
      rw [List.foldl_cons, List.foldl_cons, ih _ fun l hl => hm l (List.mem_cons_of_mem _ hl)]
      congr 1
      unfold stepL
      by_cases hle : m ≤ t
      · rw [lastT_get ls x t (t - m) (by have := hm m List.mem_cons_self; omega)]
      · simp [hle]
  exact key ls none hp
/-- a total that a file which begins with x can have -/
def can (ls : List Nat) (x t : Nat) : Bool := (lastL ls x t).isSome
theorem can_self {ls : List Nat} {x : Nat} : can ls x x = true := by unfold can; rw [lastL_eq]; rfl
theorem foldl_step_some {ls : List Nat} {x t : Nat} : ∀ (ms : List Nat) (acc : Option Nat), (ms.foldl (stepL ls x t) acc).isSome = (acc.isSome || ms.any fun l => decide (l ≤ t) && can ls x (t - l))
  | [], acc => by simp
  | m :: ms, acc => by
    rw [List.foldl_cons, foldl_step_some ms, List.any_cons]
    unfold stepL can
    by_cases h : m ≤ t ∧ (lastL ls x (t - m)).isSome = true
    · rw [if_pos h]; simp [h.1, h.2]
    · rw [if_neg h]
      by_cases h1 : m ≤ t
      · have h2 : (lastL ls x (t - m)).isSome = false := by
          cases e : (lastL ls x (t - m)).isSome with
          | false => rfl
          | true => exact absurd ⟨h1, e⟩ h
        simp [h2]
      · simp [h1]
theorem can_gt {ls : List Nat} {x t : Nat} (h : x < t) (hp : ∀ l ∈ ls, 1 ≤ l) : can ls x t = ls.any fun l => decide (l ≤ t) && can ls x (t - l) := by
  have e : can ls x t = (lastL ls x t).isSome := rfl
  rw [e, lastL_gt h hp, foldl_step_some]
  simp
theorem can_lt {ls : List Nat} {x t : Nat} (h : t < x) : can ls x t = false := by unfold can; rw [lastL_lt h]; rfl
theorem can_add {ls : List Nat} {x t l : Nat} (hp : ∀ l ∈ ls, 1 ≤ l) (hl : l ∈ ls) (h : can ls x t = true) : can ls x (t + l) = true := by
  have hx : x ≤ t := by
    by_cases q : t < x
    · rw [can_lt q] at h; cases h
    · omega
  have := hp l hl
  rw [can_gt (by omega) hp, List.any_eq_true]
  exact ⟨l, hl, by simp [h]⟩
/-- the totals of turns -/
def totF (size : Nat) (ls : List Nat) (x y : Nat) : List Nat := (List.range y).map (fun i => size - y + 1 + i) |>.filter (can ls x)
theorem mem_totF {size : Nat} {ls : List Nat} {x y t : Nat} (hy : y ≤ size) : t ∈ totF size ls x y ↔ size < t + y ∧ t ≤ size ∧ can ls x t = true := by
  unfold totF
  rw [List.mem_filter, List.mem_map]
  constructor
  · rintro ⟨⟨i, hi, e⟩, h⟩
    rw [List.mem_range] at hi
    exact ⟨by omega, by omega, h⟩
  · rintro ⟨h1, h2, h3⟩
    exact ⟨⟨t - (size - y + 1), by rw [List.mem_range]; omega, by omega⟩, h3⟩
theorem totF_ne {size : Nat} {ls : List Nat} {x y : Nat} (r : Ru size ls) (hx : x ∈ ls) (hy : y ∈ ls) : totF size ls x y ≠ [] := by
  have hp : ∀ l ∈ ls, 1 ≤ l := fun l hl => (r.bd l hl).1
  obtain ⟨y1, y2⟩ := r.bd y hy
  obtain ⟨x1, x2⟩ := r.bd x hx
  have key : ∀ k, ∃ t, t ≤ size ∧ can ls x t = true ∧ (size < t + y ∨ x + k ≤ t) := by
    intro k
    induction k with
    | zero => exact ⟨x, x2, can_self, .inr (Nat.le_refl _)⟩
    | succ k ih =>
      obtain ⟨t, h1, h2, h3⟩ := ih
      by_cases q : size < t + y
      · exact ⟨t, h1, h2, .inl q⟩
      · exact ⟨t + y, by omega, can_add hp hy h2, .inr (by rcases h3 with z | z <;> omega)⟩
  obtain ⟨t, h1, h2, h3⟩ := key (size + 1)
  have : t ∈ totF size ls x y := (mem_totF y2).mpr ⟨by rcases h3 with z | z <;> omega, h1, h2⟩
  exact List.ne_nil_of_mem this
theorem totF_asc (size : Nat) (ls : List Nat) (x y : Nat) : (totF size ls x y).Pairwise (· < ·) := by
  unfold totF
  refine List.Pairwise.filter _ ?_
  rw [List.pairwise_map]
  exact List.pairwise_lt_range.imp fun h => by omega
/-- the least and the greatest total of a turn -/
def tlo (size : Nat) (ls : List Nat) (x y : Nat) : Nat := (totF size ls x y).getD 0 0
def thi (size : Nat) (ls : List Nat) (x y : Nat) : Nat := (totF size ls x y).getD ((totF size ls x y).length - 1) 0
theorem tlo_mem {size : Nat} {ls : List Nat} {x y : Nat} (r : Ru size ls) (hx : x ∈ ls) (hy : y ∈ ls) : tlo size ls x y ∈ totF size ls x y := by
  have h := totF_ne r hx hy
  have hl : 0 < (totF size ls x y).length := List.length_pos_iff.mpr h
  unfold tlo
  rw [List.getD_eq_getElem?_getD, List.getElem?_eq_getElem hl]
  exact List.getElem_mem hl
theorem tlo_le {size : Nat} {ls : List Nat} {x y t : Nat} (h : t ∈ totF size ls x y) : tlo size ls x y ≤ t := by
  have hp := totF_asc size ls x y
  unfold tlo
  revert h hp
  cases totF size ls x y with
  | nil => intro h; cases h
  | cons a as =>
    intro h hp
    rw [List.getD_cons_zero]
    rcases List.mem_cons.mp h with e | h
    · omega
    · exact Nat.le_of_lt ((List.pairwise_cons.mp hp).1 t h)
theorem tlo_bd {size : Nat} {ls : List Nat} {x y : Nat} (r : Ru size ls) (hx : x ∈ ls) (hy : y ∈ ls) : size < tlo size ls x y + y ∧ tlo size ls x y ≤ size ∧ x ≤ tlo size ls x y := by
  obtain ⟨h1, h2, h3⟩ := (mem_totF (r.bd y hy).2).mp (tlo_mem r hx hy)
  refine ⟨h1, h2, ?_⟩
  by_cases q : tlo size ls x y < x
  · rw [can_lt q] at h3; cases h3
  · omega
end RL
namespace RL
open PySem PySem.Spec PyProof.Rows L2 RZ
/-! list(zip(a, b)) of two tuples -/
abbrev ZipB (h : Heap) (z TI TO : Addr) (f0 : Value) (k : Bool) : Prop := h.get? z = some { cls := .type "zip", dict := none, data := .fields #[f0, .bool k, .bool false, .ref TI, .ref TO], slots := #[] }
section
variable {prog : Program} {w : World} {A : Around} {E : Value → Shared → Prop} {s : Shared}
theorem any_alive {a : Addr} {o : Obj} {Q : Option Obj → Shared → Prop} (ho : s.heap.get? a = some o) (h : Q (some o) s) : wpAny (model prog w) A (loadIfAlive a) Q E s := fun Γ p _ => by
  unfold loadIfAlive
  rw [Sem.wp_loadIfAlive, ho]
  exact h
theorem own_notFree {z TI TO T : Addr} {o : Obj} {k : Bool} {Q : Bool → Shared → Prop} (hz : ZipB s.heap z TI TO (rawInt T) k) (hT : s.heap.get? T = some o) (h : ∀ h', ZipB h' z TI TO (rawInt T) true → Heap.SameBut z s.heap h' → Q false { s with heap := h' }) :
    wpAny (model prog w) A (Builtin.SmallTypes.ownedTupleIsFree (.ref z)) Q E s := by
  unfold Builtin.SmallTypes.ownedTupleIsFree
  refine wpAny_bind (wpAny_field hz rfl (x := .int (T : Int) 0) rfl ?_)
  show wpAny _ _ (loadIfAlive (Int.toNat (T : Int)) >>= _) _ _ _
  refine wpAny_bind (any_alive (by rw [Int.toNat_natCast]; exact hT) ?_)
  show wpAny _ _ (field (.ref z) 1 >>= _) _ _ _
  refine wpAny_bind (wpAny_field hz rfl (x := .bool k) rfl ?_)
  cases k with
  | true =>
    show wpAny _ _ (pure false) _ _ _
    refine wpAny_pure ?_
    exact h s.heap hz (Heap.SameBut.refl _ _)
  | false =>
    show wpAny _ _ (setField (.ref z) 1 (.bool true) >>= fun _ => pure false) _ _ _
    refine wpAny_bind (wpAny_setField_rec hz (by simp) fun h₁ hz₁ hs₁ => wpAny_pure (h h₁ hz₁ hs₁))
theorem zip2_item {z TI TO i1 i2 l1 l2 T : Addr} {k1 k2 : Nat} {xs ys : Array Value} {x y : Value} {o : Obj} {k : Bool} {Q : Value → Shared → Prop} (D : ZipApart z TI TO i1 i2 l1 l2)
    (hz : ZipB s.heap z TI TO (rawInt T) k) (hT : s.heap.get? T = some o) (hTI : IsPair s.heap TI (.ref i1) (.ref i2))
    (h1 : s.heap.IsTupleIter i1 l1 k1) (h2 : s.heap.IsTupleIter i2 l2 k2) (hl1 : s.heap.IsTuple l1 xs) (hl2 : s.heap.IsTuple l2 ys) (hx : xs[k1]? = some x) (hy : ys[k2]? = some y)
    (hQ : ∀ h', ZipB h' z TI TO (rawInt T) true → h'.IsTupleIter i1 l1 (k1 + 1) → h'.IsTupleIter i2 l2 (k2 + 1) → IsPair h' s.heap.objs.size x y → h'.objs.size = s.heap.objs.size + 1 →
      (∀ c o, c ≠ z → c ≠ i1 → c ≠ i2 → s.heap.get? c = some o → h'.get? c = some o) → Q (.ref s.heap.objs.size) { s with heap := h' }) :
    wpAny (model prog w) A (Builtin.«zip.__next__» ⟨[.ref z], []⟩) (fun fin s' => ∃ v, fin = .done (.ret v) ∧ Q v s') E s := by
  show wpAny _ _ (field (.ref z) 2 >>= _) _ _ _
  refine wpAny_bind (wpAny_field hz rfl (x := .bool false) rfl ?_)
  show wpAny _ _ (field (.ref z) 3 >>= _) _ _ _
  refine wpAny_bind (wpAny_field hz rfl (x := .ref TI) rfl ?_)
  refine wpAny_bind (wpAny_seqItems hTI rfl ?_)
  show wpAny _ _ (Builtin.SmallTypes.ownedTupleIsFree (.ref z) >>= _) _ _ _
  refine wpAny_bind (own_notFree hz hT fun h₁ hz₁ hs₁ => ?_)
  simp only [Bool.false_eq_true, if_false]
  refine wpAny_bind ?_
  rw [← Array.forIn_toList]
  simp only [List.forIn_cons, List.forIn_nil]
  refine wpAny_bind (wpAny_bind (wpAny_holding ?_))
  show wpAny _ _ (Builtin.SmallTypes.nextOf (.ref i1) >>= _) _ _ _
  refine wpAny_bind (nextOf_tuple_item (h1.extBut hs₁.extBut D.i1z) (hl1.extBut hs₁.extBut D.l1z) hx fun h₂ h1₂ hs₂ => wpAny_pure ?_)
  refine wpAny_pure ?_
  refine wpAny_bind (wpAny_bind (wpAny_holding ?_))
  show wpAny _ _ (Builtin.SmallTypes.nextOf (.ref i2) >>= _) _ _ _
  refine wpAny_bind (nextOf_tuple_item ((h2.extBut hs₁.extBut D.i2z).extBut hs₂.extBut D.i12.symm) ((hl2.extBut hs₁.extBut D.l2z).extBut hs₂.extBut D.l2i1) hy fun h₄ h2₄ hs₄ => wpAny_pure ?_)
  refine wpAny_pure (wpAny_pure ?_)
  refine wpAny_bind (wpAny_newTuple (items := [x, y]) ?_ (by show 2 ≤ sizeLine; decide))
  have hsz : h₄.objs.size = s.heap.objs.size := by rw [hs₄.1, hs₂.1, hs₁.1]
  have hz₄ : ZipB h₄ z TI TO (rawInt T) true := hs₄.extBut _ _ D.i2z.symm (hs₂.extBut _ _ D.i1z.symm hz₁)
  have h1₄ : h₄.IsTupleIter i1 l1 (k1 + 1) := h1₂.extBut hs₄.extBut D.i12
  refine wpAny_pure ⟨_, rfl, ?_⟩
  show Q (.ref h₄.objs.size) _
  rw [hsz]
  have up : ∀ c o, h₄.get? c = some o → (h₄.push { cls := .type "tuple", data := .seq #[x, y] }).get? c = some o := fun c o e => Heap.get?_push_of_some _ e
  refine hQ _ (up _ _ hz₄) (h1₄.at fun o e => up _ o e) (h2₄.at fun o e => up _ o e) ?_ (by rw [Heap.size_push, hsz]) fun c o c1 c2 c3 e => up _ _ (hs₄.extBut _ _ c3 (hs₂.extBut _ _ c2 (hs₁.extBut _ _ c1 e)))
  rw [← hsz]
  exact Heap.get?_push_size _ rfl
theorem zip2_end {z TI TO i1 i2 l1 l2 T : Addr} {k1 k2 : Nat} {xs ys : Array Value} {o : Obj} {k : Bool} {Q : PySem.Fin → Shared → Prop} (hh : A.handled = none) (D : ZipApart z TI TO i1 i2 l1 l2)
    (hz : ZipB s.heap z TI TO (rawInt T) k) (hT : s.heap.get? T = some o) (hTI : IsPair s.heap TI (.ref i1) (.ref i2))
    (h1 : s.heap.IsTupleIter i1 l1 k1) (h2 : s.heap.IsTupleIter i2 l2 k2) (hl1 : s.heap.IsTuple l1 xs) (hl2 : s.heap.IsTuple l2 ys) (hend : xs[k1]? = none ∨ ys[k2]? = none)
    (hE : ∀ h' e, (∀ c o, c ≠ z → c ≠ i1 → c ≠ i2 → s.heap.get? c = some o → h'.get? c = some o) → (∃ o, h'.get? e = some o ∧ o.cls = .type "StopIteration") → E (.ref e) { s with heap := h' }) :
    wpAny (model prog w) A (Builtin.«zip.__next__» ⟨[.ref z], []⟩) Q E s := by
  show wpAny _ _ (field (.ref z) 2 >>= _) _ _ _
  refine wpAny_bind (wpAny_field hz rfl (x := .bool false) rfl ?_)
  show wpAny _ _ (field (.ref z) 3 >>= _) _ _ _
  refine wpAny_bind (wpAny_field hz rfl (x := .ref TI) rfl ?_)
  refine wpAny_bind (wpAny_seqItems hTI rfl ?_)
  show wpAny _ _ (Builtin.SmallTypes.ownedTupleIsFree (.ref z) >>= _) _ _ _
  refine wpAny_bind (own_notFree hz hT fun h₁ hz₁ hs₁ => ?_)
  simp only [Bool.false_eq_true, if_false]
  refine wpAny_bind ?_
  rw [← Array.forIn_toList]
  simp only [List.forIn_cons, List.forIn_nil]
  refine wpAny_bind (wpAny_bind (wpAny_holding ?_))
  show wpAny _ _ (Builtin.SmallTypes.nextOf (.ref i1) >>= _) _ _ _
  cases hx : xs[k1]? with
  | none =>
    refine wpAny_bind (nextOf_tuple_end hh (h1.extBut hs₁.extBut D.i1z) (hl1.extBut hs₁.extBut D.l1z) hx fun h₂ e hs₂ he => ?_)
    exact hE h₂ e (fun c o c1 c2 c3 x => hs₂ _ _ c2 (hs₁.extBut _ _ c1 x)) he
  | some x =>
    have hy : ys[k2]? = none := by rcases hend with h | h; rw [hx] at h; cases h; exact h
    refine wpAny_bind (nextOf_tuple_item (h1.extBut hs₁.extBut D.i1z) (hl1.extBut hs₁.extBut D.l1z) hx fun h₂ h1₂ hs₂ => wpAny_pure ?_)
    refine wpAny_pure ?_
    refine wpAny_bind (wpAny_bind (wpAny_holding ?_))
    show wpAny _ _ (Builtin.SmallTypes.nextOf (.ref i2) >>= _) _ _ _
    refine wpAny_bind (nextOf_tuple_end hh ((h2.extBut hs₁.extBut D.i2z).extBut hs₂.extBut D.i12.symm) ((hl2.extBut hs₁.extBut D.l2z).extBut hs₂.extBut D.l2i1) hy fun h₃ e hs₃ he => ?_)
    exact hE h₃ e (fun c o c1 c2 c3 x => hs₃ _ _ c3 (hs₂.extBut _ _ c2 (hs₁.extBut _ _ c1 x))) he

theorem zip_iterB {z TI TO : Addr} {f0 : Value} {k : Bool} {Q : Value → Shared → Prop} (hz : ZipB s.heap z TI TO f0 k) (h : Q (.ref z) s) : wpAny (model prog w) A (pyIter (.ref z)) Q E s := by
  have hT : s.TypeIs (.ref z) "zip" := ⟨_, hz, rfl⟩
  refine wpAny_pyIter_slot hT F.slot_zip_iter (wpAny_call_entry F.slot_zip_iter hT F.entry_zip_iter ?_ (F.args_zip_iter_1 _))
  show wpAny _ _ (ret (.ref z)) _ _ s
  exact wpAny_pure ⟨_, rfl, "zip", _, hT, F.slot_zip_next.lookup, h⟩
/-- zip, whichever way it stands ahead of a turn -/
structure ZipS (h : Heap) (z TI TO i1 i2 a b : Addr) (i : Nat) : Prop where
  z : IsZip h z TI TO .none ∨ ∃ (T : Addr) (o : Obj) (k : Bool), ZipB h z TI TO (rawInt T) k ∧ h.get? T = some o ∧ T ≠ z
  ti : IsPair h TI (.ref i1) (.ref i2)
  to : ∃ x y, IsPair h TO x y
  i1 : h.IsTupleIter i1 a i
  i2 : h.IsTupleIter i2 b i
theorem ZipS.type {z TI TO i1 i2 a b : Addr} {i : Nat} (Z : ZipS s.heap z TI TO i1 i2 a b i) : s.TypeIs (.ref z) "zip" := by
  rcases Z.z with h | ⟨T, o, k, h, _⟩
  · exact ⟨_, h, rfl⟩
  · exact ⟨_, h, rfl⟩
theorem ZipS.keep {h h' : Heap} {z TI TO i1 i2 a b : Addr} {i : Nat} (Z : ZipS h z TI TO i1 i2 a b i) (k : ∀ c o, h.get? c = some o → ∃ o', h'.get? c = some o') (kz : ∀ c, c ∈ [z, TI, TO, i1, i2] → ∀ o, h.get? c = some o → h'.get? c = some o) : ZipS h' z TI TO i1 i2 a b i := by
  refine ⟨?_, kz TI (by simp) _ Z.ti, let ⟨x, y, e⟩ := Z.to; ⟨x, y, kz TO (by simp) _ e⟩, Z.i1.at fun o q => kz i1 (by simp) o q, Z.i2.at fun o q => kz i2 (by simp) o q⟩
  rcases Z.z with e | ⟨T, o, kk, e, hT, hne⟩
  · exact .inl (kz z (by simp) _ e)
  · obtain ⟨o', hT'⟩ := k T o hT
    exact .inr ⟨T, o', kk, kz z (by simp) _ e, hT', hne⟩
theorem zip_next {z TI TO i1 i2 a b : Addr} {i : Nat} {xs ys : Array Value} {x y : Value} {Q : Option Value → Shared → Prop} (D : ZipApart z TI TO i1 i2 a b) (Z : ZipS s.heap z TI TO i1 i2 a b i) (hl1 : s.heap.IsTuple a xs) (hl2 : s.heap.IsTuple b ys) (hx : xs[i]? = some x) (hy : ys[i]? = some y)
    (hQ : ∀ h', ZipS h' z TI TO i1 i2 a b (i + 1) → IsPair h' s.heap.objs.size x y → h'.objs.size = s.heap.objs.size + 1 →
      (∀ c o, c ∉ [z, TI, TO, i1, i2] → s.heap.get? c = some o → h'.get? c = some o) → Q (some (.ref s.heap.objs.size)) { s with heap := h' }) :
    wpAny (model prog w) A (pyNext (.ref z)) Q E s := by
  have hty := Z.type
  have hzl : z < s.heap.objs.size := let ⟨_, e, _⟩ := hty; Heap.lt_size e
  obtain ⟨x0, y0, hTO⟩ := Z.to
  rcases Z.z with hz | ⟨T, o, k, hz, hT, hne⟩
  · refine pyNext_zipT_item D hz Z.ti hTO Z.i1 Z.i2 hl1 hl2 hx hy fun h' z' TO' h1' h2' hT hsz hk => ?_
    refine hQ h' ⟨.inr ⟨_, _, false, z', hT, Nat.ne_of_gt hzl⟩, hk _ _ D.TIz D.TITO D.TIi1 D.TIi2 Z.ti, ⟨_, _, TO'⟩, h1', h2'⟩ hT hsz fun c o hc e => hk c o (fun q => hc (by simp [q])) (fun q => hc (by simp [q])) (fun q => hc (by simp [q])) (fun q => hc (by simp [q])) e
  · unfold pyNext
    refine wpAny_bind (wpAny_attempt (wpAny_callSpecial?_slot (name := Str.ofString "__next__") hty F.slot_zip_next
      (wpAny_call_entry F.slot_zip_next hty F.entry_zip_next
        (zip2_item D hz hT Z.ti Z.i1 Z.i2 hl1 hl2 hx hy fun h' z' h1' h2' hp hsz hk => wpAny_pure ?_) (F.args_zip_next_1 _))))
    have hT' : ∃ o', h'.get? T = some o' := by
      by_cases e1 : T = i1
      · obtain ⟨o', q, _⟩ := h1'
        exact ⟨o', by rw [e1]; exact q⟩
      · by_cases e2 : T = i2
        · obtain ⟨o', q, _⟩ := h2'
          exact ⟨o', by rw [e2]; exact q⟩
        · exact ⟨o, hk T o hne e1 e2 hT⟩
    obtain ⟨o', hT'⟩ := hT'
    exact hQ h' ⟨.inr ⟨T, o', true, z', hT', hne⟩, hk _ _ D.TIz D.TIi1 D.TIi2 Z.ti, ⟨_, _, hk _ _ D.TOz D.TOi1 D.TOi2 hTO⟩, h1', h2'⟩ hp hsz fun c o hc e => hk c o (fun q => hc (by simp [q])) (fun q => hc (by simp [q])) (fun q => hc (by simp [q])) e
theorem zip_done {z TI TO i1 i2 a b : Addr} {i : Nat} {xs ys : Array Value} {Q : Option Value → Shared → Prop} (hh : A.handled = none) (D : ZipApart z TI TO i1 i2 a b) (Z : ZipS s.heap z TI TO i1 i2 a b i) (hl1 : s.heap.IsTuple a xs) (hl2 : s.heap.IsTuple b ys) (hend : xs[i]? = none ∨ ys[i]? = none)
    (hQ : ∀ h', (∀ c o, c ∉ [z, TI, TO, i1, i2] → s.heap.get? c = some o → h'.get? c = some o) → Q none { s with heap := h' }) : wpAny (model prog w) A (pyNext (.ref z)) Q E s := by
  have hty := Z.type
  obtain ⟨x0, y0, hTO⟩ := Z.to
  rcases Z.z with hz | ⟨T, o, k, hz, hT, hne⟩
  · exact pyNext_zipT_end hh D hz Z.ti hTO Z.i1 Z.i2 hl1 hl2 hend fun h' hk => hQ h' fun c o hc e => hk c o (fun q => hc (by simp [q])) (fun q => hc (by simp [q])) (fun q => hc (by simp [q])) (fun q => hc (by simp [q])) e
  · unfold pyNext
    refine wpAny_bind (wpAny_attempt (wpAny_callSpecial?_slot (name := Str.ofString "__next__") hty F.slot_zip_next
      (wpAny_call_entry F.slot_zip_next hty F.entry_zip_next (zip2_end hh D hz hT Z.ti Z.i1 Z.i2 hl1 hl2 hend fun h' e hk he => ?_) (F.args_zip_next_1 _))))
    obtain ⟨o, ho, hc⟩ := he
    refine wpAny_bind (wpAny_isInstance (T := "StopIteration") (b := true) ⟨o, ho, hc⟩ isSubtype_stop ?_)
    exact wpAny_pure (hQ _ fun c o hc e => hk c o (fun q => hc (by simp [q])) (fun q => hc (by simp [q])) (fun q => hc (by simp [q])) e)
end

section
variable {X : Cx} {pins : List (Addr × Obj)} {σ : L2.St}
theorem lz_loop {z TI TO i1 i2 a b q : Addr} {xs ys : List V} {P : Nat → List V → Hp → Prop} {A1 : Around} {Rs : Result → Shared → Prop} (hh : A1.handled = none) (D : ZipApart z TI TO i1 i2 a b) (hlen : min xs.length ys.length < sizeLine)
    (hP : ∀ i acc H, P i acc H → SqT X.K H a xs ∧ SqT X.K H b ys ∧ H q = some (.lst acc) ∧ acc.length = i)
    (hstep : ∀ i acc H x y T, P i acc H → xs[i]? = some x → ys[i]? = some y → H T = none → P (i + 1) (acc ++ [.ref T]) (upd (upd H T (.tup [x, y])) q (.lst (acc ++ [.ref T]))))
    (hdone : ∀ acc H s, Inv X pins σ H s → P (min xs.length ys.length) acc H → Rs (.ok (.ret .none)) s) :
    ∀ (m i : Nat) (acc : List V) (H : Hp) (s : Shared), m = min xs.length ys.length - i → i ≤ min xs.length ys.length → Inv X pins σ H s → ZipS s.heap z TI TO i1 i2 a b i → (∀ c, c ∈ [z, TI, TO, i1, i2] → FpOk X pins H c) → P i acc H →
      codeAny (model X.prog X.w) A1 (.builtin "list.extend.loop" ⟨[.ref q, .ref z, .none], []⟩) Rs s := by
  intro m
  induction m with
  | zero =>
    intro i acc H s hm hi I Z hf hp
    obtain ⟨hqx, hqy, hq, hl⟩ := hP i acc H hp
    have e : i = min xs.length ys.length := by omega
    obtain ⟨its, rv, p, _⟩ := I.tuple hqx
    obtain ⟨its2, rv2, p2, _⟩ := I.tuple hqy
    have l1 := rv.length
    have l2 := rv2.length
    refine codeAny_builtin PySem.F.entry_extend_loop ?_
    rw [Around.under_plainId PySem.F.plain_extend_loop _]
    show wpAny _ A1.in1 (pyNext (.ref z) >>= _) _ _ s
    refine wpAny_bind (zip_done hh D Z p p2 ?_ fun h' hk => ?_)
    · by_cases hx : xs.length ≤ i
      · exact .inl (by simp; omega)
      · exact .inr (by simp; omega)
    · refine wpAny_pure (hdone acc H _ ?_ (e ▸ hp))
      exact I.turnedL (t' := s.toks) (ch := [z, TI, TO, i1, i2]) (fun c o hb q => hk c o hb q) hf
  | succ m ih =>
    intro i acc H s hm hi I Z hf hp
    obtain ⟨hqx, hqy, hq, hl⟩ := hP i acc H hp
    have hx : xs[i]? = some (xs[i]'(by omega)) := List.getElem?_eq_getElem _
    have hy : ys[i]? = some (ys[i]'(by omega)) := List.getElem?_eq_getElem _
    generalize xs[i]'(by omega) = x at hx
    generalize ys[i]'(by omega) = y at hy
    obtain ⟨its, rv, p, _⟩ := I.tuple hqx
    obtain ⟨its2, rv2, p2, _⟩ := I.tuple hqy
    obtain ⟨u, hu, ru⟩ := rv.get hx
    obtain ⟨u2, hu2, ru2⟩ := rv2.get hy
    refine codeAny_builtin PySem.F.entry_extend_loop ?_
    rw [Around.under_plainId PySem.F.plain_extend_loop _]
    show wpAny _ A1.in1 (pyNext (.ref z) >>= _) _ _ s
    refine wpAny_bind (zip_next D Z p p2 (x := u) (y := u2) (by simpa using hu) (by simpa using hu2) fun h' Z' hT hsz hk => ?_)
    have new : ObjOk X.prog X.w (upd H s.heap.objs.size (.tup [x, y])) h' s.heap.objs.size (.tup [x, y]) :=
      ⟨by show 2 ≤ sizeLine; decide, [u, u2], .cons ru (.cons ru2 .nil), ⟨_, hT, rfl, _, rfl⟩⟩
    have I1 : Inv X pins σ (upd H s.heap.objs.size (.tup [x, y])) { s with heap := h' } :=
      I.turnedNew (t' := s.toks) (ch := [z, TI, TO, i1, i2]) (fun c o hb q => hk c o hb q) hf (Nat.le_refl _) new
    have nT : H s.heap.objs.size = none := I.hok.fresh (Nat.le_refl _)
    have hq1 : upd H s.heap.objs.size (.tup [x, y]) q = some (.lst acc) := by rw [upd_ne (ne_of_none hq nT)]; exact hq
    show wpAny _ A1.in1 (updateSeq q (·.push (.ref s.heap.objs.size)) >>= _) _ _ _
    obtain ⟨zz, its3, k, r3, hl3, e3⟩ := I1.lstM hq1
    have len3 := r3.length
    have qf : q ∉ [z, TI, TO, i1, i2] := fun hm => by
      have := (hf q hm).1
      rw [hq] at this; cases this
    have hfz : ∀ c, c ∈ [z, TI, TO, i1, i2] → c < s.heap.objs.size := fun c hc => by
      have e' : c = z ∨ c = TI ∨ c = TO ∨ c = i1 ∨ c = i2 := by simpa using hc
      rcases e' with q | q | q | q | q
      · rw [q]; exact let ⟨_, e, _⟩ := Z.type; Heap.lt_size e
      · rw [q]; exact Heap.lt_size Z.ti
      · rw [q]; exact let ⟨_, _, e⟩ := Z.to; Heap.lt_size e
      · rw [q]; obtain ⟨_, e1, _⟩ := Z.i1; exact Heap.lt_size e1
      · rw [q]; obtain ⟨_, e2, _⟩ := Z.i2; exact Heap.lt_size e2
    refine wpAny_bind (wpAny_updateSeq e3 rfl (wpAny_pure ⟨plainId_quiet PySem.F.plain_extend_loop _, ?_⟩) (by rw [List.size_toArray]; omega) (by show (its3.toArray.push _).size ≤ sizeLine + 1; rw [Array.size_push, List.size_toArray]; omega))
    refine ih (i + 1) _ _ _ (by omega) (by omega) (I1.lset (its' := its3 ++ [.ref s.heap.objs.size]) (t' := s.toks) hq1 e3 (by simp) (r3.append (show Vals [V.ref s.heap.objs.size] [Value.ref s.heap.objs.size] from .cons rfl .nil)) (by rw [List.length_append, List.length_singleton]; omega)) (Z'.keep (fun c o ec => ?_) fun c hc o ec => ?_) (fun c hc => ?_) (hstep i acc H x y _ hp hx hy nT)
    · by_cases hcq : c = q
      · subst hcq
        exact ⟨_, Heap.get?_update_self _ ec (by rw [ec] at e3; cases e3; rfl)⟩
      · exact ⟨o, (Heap.get?_update_other _ _ (Ne.symm hcq)).trans ec⟩
    · exact (Heap.get?_update_other _ _ (fun z => qf (by rw [z]; exact hc))).trans ec
    · refine ⟨?_, (hf c hc).2⟩
      rw [upd_ne (fun z => qf (by rw [← z]; exact hc)), upd_ne (Nat.ne_of_lt (hfz c hc))]
      exact (hf c hc).1

theorem zip_noLen : typeLookup (.type "zip") (Str.ofString "__len__") = pure none := by rw [typeLookup_type, builtinLookup_eq_fast]; kernel_rfl
theorem zip_noHint : typeLookup (.type "zip") (Str.ofString "__length_hint__") = pure none := by rw [typeLookup_type, builtinLookup_eq_fast]; kernel_rfl
def tListZip (K : PySem.W.Frag) (ta : TA) : TE := fun σ H Q => ta σ H fun vs H1 => ∃ a b xs ys, vs = [.ref a, .ref b] ∧ SqT K H1 a xs ∧ SqT K H1 b ys ∧ min xs.length ys.length < sizeLine ∧ ∀ q, H1 q = none → ∃ P : Nat → List V → Hp → Prop, P 0 [] (upd H1 q (.lst [])) ∧
  (∀ i acc H, P i acc H → SqT K H a xs ∧ SqT K H b ys ∧ H q = some (.lst acc) ∧ acc.length = i) ∧
  (∀ i acc H x y T, P i acc H → xs[i]? = some x → ys[i]? = some y → H T = none → P (i + 1) (acc ++ [.ref T]) (upd (upd H T (.tup [x, y])) q (.lst (acc ++ [.ref T])))) ∧
  (∀ acc H, P (min xs.length ys.length) acc H → Q (.ref q) H)
theorem lz_list {E : Value → Shared → Prop} {H : Hp} {s : Shared} {z TI TO i1 i2 a b : Addr} {xs ys : List V} {Q : VK} (hc : X.calm = true) (D : ZipApart z TI TO i1 i2 a b) (I : Inv X pins σ H s) (Z : ZipS s.heap z TI TO i1 i2 a b 0) (hf : ∀ c, c ∈ [z, TI, TO, i1, i2] → FpOk X pins H c) (hlen : min xs.length ys.length < sizeLine)
    (hq : ∃ P : Nat → List V → Hp → Prop, P 0 [] (upd H s.heap.objs.size (.lst [])) ∧
      (∀ i acc H, P i acc H → SqT X.K H a xs ∧ SqT X.K H b ys ∧ H s.heap.objs.size = some (.lst acc) ∧ acc.length = i) ∧
      (∀ i acc H x y T, P i acc H → xs[i]? = some x → ys[i]? = some y → H T = none → P (i + 1) (acc ++ [.ref T]) (upd (upd H T (.tup [x, y])) s.heap.objs.size (.lst (acc ++ [.ref T])))) ∧
      (∀ acc H, P (min xs.length ys.length) acc H → Q (.ref s.heap.objs.size) H)) :
    wpAny (model X.prog X.w) X.A (call (.type "list") [.ref z]) (EP X pins σ Q) E s := by
  obtain ⟨P, p0, hP, hstep, hdone⟩ := hq
  generalize hq : s.heap.objs.size = q at p0 hP hstep hdone
  have hzl : ∀ c, c ∈ [z, TI, TO, i1, i2] → c < s.heap.objs.size := fun c hc => by
    have e' : c = z ∨ c = TI ∨ c = TO ∨ c = i1 ∨ c = i2 := by simpa using hc
    rcases e' with q | q | q | q | q
    · rw [q]; exact let ⟨_, e, _⟩ := Z.type; Heap.lt_size e
    · rw [q]; exact Heap.lt_size Z.ti
    · rw [q]; exact let ⟨_, _, e⟩ := Z.to; Heap.lt_size e
    · rw [q]; obtain ⟨_, e1, _⟩ := Z.i1; exact Heap.lt_size e1
    · rw [q]; obtain ⟨_, e2, _⟩ := Z.i2; exact Heap.lt_size e2
  have hzq : ∀ c, c ∈ [z, TI, TO, i1, i2] → c ≠ q := fun c hc => by rw [← hq]; exact Nat.ne_of_lt (hzl c hc)
  have hlq : ∀ c o, s.heap.get? c = some o → c ≠ q := fun c o e => by rw [← hq]; exact Nat.ne_of_lt (Heap.lt_size e)
  have hne : q ≠ z := Ne.symm (hzq z (by simp))
  refine callType_codes (Q₁ := fun obj s₁ => obj = .ref s.heap.objs.size ∧ s₁ = { s with heap := s.heap.push { cls := .type "list", data := .seq #[] } }) PySem.F.called_list (PySem.F.typeCall_list_1 _) PySem.F.entry_list_init
    (code_list_new _ ⟨rfl, rfl⟩) fun obj s₁ h₁ => ?_
  obtain ⟨rfl, rfl⟩ := h₁
  have hS : (s.heap.push { cls := .type "list", data := .seq #[] }).get? s.heap.objs.size = some { cls := .type "list", data := .seq #[] } := Heap.get?_push_size _ rfl
  refine ⟨⟨_, hS, rfl⟩, PySem.F.args_list_init_2 _ _, ?_⟩
  have fr : H s.heap.objs.size = none := I.hok.fresh (Nat.le_refl _)
  have I1 : Inv X pins σ (upd H s.heap.objs.size (.lst [])) { s with heap := s.heap.push { cls := .type "list", data := .seq #[] } } := I.lnew (its := []) (t' := s.toks) .nil (Nat.zero_le _)
  rw [hq] at hS I1 fr ⊢
  show wpAny _ _ (do let old ← Builtin.List.listItems (.ref q); Builtin.List.listUpdate (.ref q) (fun _ => #[]); letGo old.toList.reverse; Builtin.List.listExtendWith (.ref q) (.ref z) .none) _ _ _
  refine wpAny_bind ?_
  unfold Builtin.List.listItems
  refine wpAny_bind (wpAny_seqItems hS rfl (wpAny_pure ?_))
  show wpAny _ _ (updateSeq q (fun _ => #[]) >>= fun _ => letGo (#[] : Array Value).toList.reverse >>= fun _ => Builtin.List.listExtendWith (.ref q) (.ref z) .none) _ _ _
  refine wpAny_bind (wpAny_updateSeq hS rfl ?_)
  have I2 := I1.lset (f := fun _ => #[]) (its := []) (its' := []) (ys := []) (t' := s.toks) upd_same hS rfl .nil (Nat.zero_le _)
  rw [upd_upd] at I2
  refine wpAny_bind (wpAny_letGo ?_)
  have Z2 : ZipS ((s.heap.push { cls := .type "list", data := .seq #[] }).update q (Obj.mapSeq fun _ => #[])) z TI TO i1 i2 a b 0 := Z.keep (fun c o e => ?_) fun c hcm o e => ?_
  rotate_left
  · exact ⟨o, (Heap.get?_update_other _ _ (Ne.symm (hlq _ _ e))).trans (Heap.get?_push_of_some _ e)⟩
  · exact (Heap.get?_update_other _ _ (Ne.symm (hlq _ _ e))).trans (Heap.get?_push_of_some _ e)
  have hf2 : ∀ c, c ∈ [z, TI, TO, i1, i2] → FpOk X pins (upd H q (.lst [])) c := fun c hcm => ⟨by rw [upd_ne (hzq c hcm)]; exact (hf c hcm).1, (hf c hcm).2⟩
  have hty := Z2.type (s := { s with heap := (s.heap.push { cls := .type "list", data := .seq #[] }).update q (Obj.mapSeq fun _ => #[]) })
  have I2' : Inv X pins σ (upd H q (.lst [])) { s with heap := (s.heap.push { cls := .type "list", data := .seq #[] }).update q (Obj.mapSeq fun _ => #[]) } := I2
  generalize hs2 : ({ s with heap := (s.heap.push { cls := .type "list", data := .seq #[] }).update q (Obj.mapSeq fun _ => #[]) } : Shared) = s2 at hty I2'
  have Z2' : ZipS s2.heap z TI TO i1 i2 a b 0 := by rw [← hs2]; exact Z2
  clear Z2
  unfold Builtin.List.listExtendWith
  refine wpAny_bind (wpAny_typeOf hty ?_)
  have h1 : Builtin.List.listSameRef (.ref q) (.ref z) = false := by simp [Builtin.List.listSameRef, hne]
  have h2 : (Value.type "zip" == Value.type "list") = false := by decide
  have h3 : (Value.type "zip" == Value.type "tuple") = false := by decide
  simp only [h1, h2, h3, Bool.or_false, Bool.false_eq_true, if_false]
  have hitz : ∀ {E : Value → Shared → Prop} {Q : Value → Shared → Prop}, Q (.ref z) s2 → wpAny (model X.prog X.w) X.A.in1.in1 (pyIter (.ref z)) Q E s2 := fun h => by
    rcases Z2'.z with e | ⟨T, o, k, e, _⟩
    · exact wpAny_pyIter_zip e h
    · exact zip_iterB e h
  refine wpAny_bind (hitz ?_)
  refine wpAny_bind (wpAny_holding ?_)
  unfold Builtin.List.listLengthHint
  refine wpAny_bind (wpAny_specialOf hty zip_noLen ?_)
  show wpAny _ _ (specialOf (Value.ref z) (Str.ofString "__length_hint__") >>= _) _ _ _
  refine wpAny_bind (wpAny_specialOf hty zip_noHint ?_)
  refine wpAny_pure ?_
  show wpAny _ _ (rule "list.extend.makes-room" >>= fun _ => Builtin.List.listTouch (.ref q) >>= fun _ =>
    again (.builtin "list.extend.loop" ⟨[.ref q, .ref z, .none], []⟩)) _ _ _
  refine wpAny_bind (wpAny_rule ?_)
  refine wpAny_bind ?_
  show wpAny _ _ (updateSeq q (·.push .none) >>= fun _ => updateSeq q (·.pop)) _ _ _
  have hq2 : upd H q (.lst []) q = some (.lst []) := upd_same
  obtain ⟨zz, its, k, r3, hl3, e3⟩ := I2'.lstM hq2
  cases r3
  refine wpAny_bind (wpAny_updateSeq e3 rfl ?_)
  have I3 := I2'.lset (f := (·.push Value.none)) (its' := [Value.none]) (ys := [.non]) (t' := s2.toks) hq2 e3 (by simp) (.cons rfl .nil) (by rw [List.length_singleton, sizeLine_eq]; decide)
  obtain ⟨z4, its4, k4, r4, hl4, e4⟩ := I3.lstM upd_same
  obtain ⟨u4, rfl, ru4⟩ := r4.one
  refine wpAny_updateSeq e4 rfl ?_ (by show 1 ≤ sizeLine; rw [sizeLine_eq]; decide) (by show 0 ≤ sizeLine + 1; exact Nat.zero_le _)
  have I4 := I3.lset (f := (·.pop)) (its := [u4]) (its' := []) (ys := []) (t' := s2.toks) upd_same e4 (by rfl) .nil (Nat.zero_le _)
  rw [upd_upd, upd_upd] at I4
  refine wpAny_pure ⟨plainId_quiet PySem.F.plain_extend_loop _, lz_loop (A1 := X.A.in1) (I.ok.hd hc) D hlen hP hstep (fun acc H' s' I' hp => ⟨rfl, .ref q, H', I', rfl, hdone acc H' hp⟩) _ 0 [] _ _ rfl (Nat.zero_le _) I4 (Z2'.keep (fun c o e => ?_) fun c hcm o e => ?_) hf2 p0⟩
  · by_cases hcq : c = q
    · subst hcq
      exact ⟨_, Heap.get?_update_self _ (Heap.get?_update_self _ e (by rw [e] at e3; cases e3; rfl)) (by rw [e] at e3; cases e3; rfl)⟩
    · exact ⟨o, (Heap.get?_update_other _ _ (Ne.symm hcq)).trans ((Heap.get?_update_other _ _ (Ne.symm hcq)).trans e)⟩
  · have hcq : c ≠ q := hzq c hcm
    exact (Heap.get?_update_other _ _ (Ne.symm hcq)).trans ((Heap.get?_update_other _ _ (Ne.symm hcq)).trans e)

theorem pe_listZip {e e2 : Expr} {ta : TA} {p p2 pos pos2 : Pos} (hg : Gl X "list") (hm : X.mg "list" = none) (hg2 : Gl X "zip") (hm2 : X.mg "zip" = none) (ha : PA X [e, e2] ta) (hc : X.calm = true := by rfl)
    (na : starEach [.Call (.Name "zip" p2) [e, e2] [] pos2] X.env = (false, eval (.Call (.Name "zip" p2) [e, e2] [] pos2) X.env) :: starEach [] X.env := by rfl)
    (hs : starEach [e, e2] X.env = (false, eval e X.env) :: starEach [e2] X.env := by rfl) (hpl : (backTo pos2 (starEach [e2] X.env)).any (·.1) = false := by rfl) :
    PE X (.Call (.Name "list" p) [.Call (.Name "zip" p2) [e, e2] [] pos2] [] pos) (tListZip X.K ta) := by
  refine ⟨fun pins s σ H Q I h => ?_⟩
  refine Call_ (ld_blt I hg hm boot_list ?_)
  refine PyProof.Rows.callWith_type1 (PyProof.Rows.args_cons ?_ na) na rfl
  refine Call_ (ld_blt I hg2 hm2 PyProof.Rows.boot_zip (PyProof.Rows.callWith_type1 (thn (ha.run pos2 pins s σ H _ I h) fun us s1 ⟨vs, H1, I1, r1, q1⟩ => ?_) hs hpl))
  obtain ⟨a, b, xs, ys, ex, hqx, hqy, hlen, q1⟩ := q1
  subst ex
  cases r1 with
  | cons r rr =>
    cases rr with
    | cons r' rr =>
      cases rr
      cases r
      cases r'
      have fresh5 : ∀ c, c ∈ [s1.heap.objs.size + 4, s1.heap.objs.size + 2, s1.heap.objs.size + 3, s1.heap.objs.size, s1.heap.objs.size + 1] → FpOk X pins H1 c := fun c hcm => by
        have e' : c = s1.heap.objs.size + 4 ∨ c = s1.heap.objs.size + 2 ∨ c = s1.heap.objs.size + 3 ∨ c = s1.heap.objs.size ∨ c = s1.heap.objs.size + 1 := by simpa using hcm
        have hle : s1.heap.objs.size ≤ c := by
          rcases e' with z | z | z | z | z
          · rw [z]; exact Nat.le_add_right _ _
          · rw [z]; exact Nat.le_add_right _ _
          · rw [z]; exact Nat.le_add_right _ _
          · rw [z]; exact Nat.le_refl _
          · rw [z]; exact Nat.le_add_right _ _
        exact I1.fpOk hle (I1.hok.fresh hle)
      obtain ⟨its, rv, p1, _⟩ := I1.tuple hqx
      obtain ⟨its2, rv2, p2', _⟩ := I1.tuple hqy
      obtain ⟨o1, ho1, _⟩ := id p1
      obtain ⟨o2, ho2, _⟩ := id p2'
      refine call_zipT (show s1.heap.IsTuple a its.toArray from p1) (show s1.heap.IsTuple b its2.toArray from p2') fun h' hz hTI hTO h1 h2 hsz hk => PyProof.Rows.args_nil ?_
      have I2 : Inv X pins σ H1 { s1 with heap := h' } := I1.kept (t' := s1.toks) hk
      have fr2 : H1 h'.objs.size = none := I2.hok.fresh (Nat.le_refl _)
      exact lz_list (s := { s1 with heap := h' }) hc (PySem.W.ktu_apart s1.heap.objs.size a b (Heap.lt_size ho1) (Heap.lt_size ho2)) I2 ⟨.inl hz, hTI, ⟨_, _, hTO⟩, h1, h2⟩ fresh5 hlen (q1 _ fr2)
end
section
variable {X : Cx} {e a b : Expr} {ρ : Rho} {M M1 : Mem} {ds ds2 : List D}
theorem fv_listZip (h : PE X e (tListZip X.K (tA X [a, b]))) (ha : AV X [a, b] ρ M [.tup ds, .tup ds2] M1) (hl : min ds.length ds2.length < sizeLine) : FV X e ρ M ((List.range (min ds.length ds2.length)).map fun i => .tup [ds.getD i .non, ds2.getD i .non]) M1 := fun σ S H Q hE hC hR =>
  tE_of h (ha σ S H _ hE hC fun vs S1 H1 s1 c1 r1 => by
    obtain ⟨v, w, rfl, q, q2⟩ := two_of r1
    obtain ⟨p, vs, rfl, z, r⟩ := rep_tup.mp q
    obtain ⟨p2, vs2, rfl, z2, r2⟩ := rep_tup.mp q2
    refine ⟨p, p2, vs, vs2, rfl, .of (c1.sub _ _ z), .of (c1.sub _ _ z2), by rw [← r.length, ← r2.length]; exact hl, fun L hL => ?_⟩
    have hH : H L = none := s1.kp L hL
    refine ⟨fun i acc H' => acc.length = i ∧ ∃ S' , Cfg X.K S' M1 H' ∧ Step M S H M1 S' H' ∧ Same S1 S' ∧ H' L = some (.lst acc) ∧ S' L = none ∧ L ∉ dm M1 ∧ Reps X.K S' ((List.range i).map fun i => D.tup [ds.getD i .non, ds2.getD i .non]) acc, ?_, ?_, ?_, ?_⟩
    · obtain ⟨S', acc, h1, h2, h3, h4, h5, h6, h7⟩ := Acc.new s1 c1 hL
      have : acc = [] := reps_nil.mp h7
      subst this
      exact ⟨rfl, S', h1, h2, h3, h4, h5, h6, h7⟩
    · rintro i acc H' ⟨hl, S', h1, h2, h3, h4, h5, h6, h7⟩
      exact ⟨SqT.of (h1.sub _ _ (h3 _ _ z)), SqT.of (h1.sub _ _ (h3 _ _ z2)), h4, hl⟩
    · rintro i acc H' x y T ⟨hl, S', h1, h2, h3, h4, h5, h6, h7⟩ hx hy hT
      obtain ⟨d1, e1, g1⟩ := r.back hx
      obtain ⟨d2, e2, g2⟩ := r2.back hy
      obtain ⟨c3, s3⟩ := cfg_new (o := .tup [x, y]) h1 hT
      obtain ⟨k1, k2, k3, k4, k5, k6⟩ := Acc.turn h1 h2 h3 h4 h5 h6 h7 c3 s3
      have hd1 : ds.getD i .non = d1 := by rw [List.getD_eq_getElem?_getD, e1]; rfl
      have hd2 : ds2.getD i .non = d2 := by rw [List.getD_eq_getElem?_getD, e2]; rfl
      have new : Rep X.K (upd S' T (.tup [x, y])) (D.tup [d1, d2]) (.ref T) := rep_tup.mpr ⟨T, _, rfl, upd_same, reps_cons.mpr ⟨x, _, rfl, g1.mono (h3.trans s3.sub), .one (g2.mono (h3.trans s3.sub))⟩⟩
      obtain ⟨Sx, acc', a1, a2, a3, a4, a5, a6, a7⟩ := Acc.put hH c3 k1 k2 k3 k4 k5 k6 new
      have : acc' = acc ++ [.ref T] := by
        rw [upd_same] at a4
        simpa using a4.symm
      subst this
      refine ⟨by rw [List.length_append, hl]; rfl, Sx, a1, a2, a3, a4, a5, a6, ?_⟩
      rw [List.range_succ, List.map_append, List.map_singleton, hd1, hd2]
      exact a7
    · rintro acc H' ⟨hl, S', h1, h2, h3, h4, h5, h6, h7⟩
      refine hR L acc S' H' h2 h1 hH h5 h6 h4 ?_
      rw [r.length, r2.length]
      exact h7)
end
end RL
namespace RL
open PySem PySem.Spec PyProof.Rows L2
/-! min, max of a tuple of ints -/
section
variable {prog : Program} {w : World} {A : Around} {E : Value → Shared → Prop} {s : Shared} {l : Addr} {its : List Value} {ns : List Int} {Q : Value → Shared → Prop}
theorem minT_raw (hh : A.handled = none) (hl : s.heap.IsTuple l its.toArray) (hi : IntsAre its ns) (hne : 0 < ns.length)
    (h : ∀ h' tk M t', (∀ b o, s.heap.get? b = some o → h'.get? b = some o) → M ∈ ns → (∀ a, a ∈ ns → M ≤ a) → Q (.int M t') { s with heap := h', toks := tk }) : wpAny (model prog w) A (call (.builtin "min") [.ref l]) Q E s := by
  obtain ⟨xs, e⟩ := hi.allInts.items
  have hn : numsOf (intItems xs).toList = ns := by rw [← e]; exact hi.numsOf
  rw [nums_intItems] at hn
  subst hn
  rw [e] at hl
  have hsz : 0 < xs.size := by simpa using hne
  have hlt : l < s.heap.objs.size := by obtain ⟨_, e, _⟩ := id hl; exact Heap.lt_size e
  refine call_min_walk (wpAny_pyIter_tuple hl ?_)
  refine ⟨_, [_, l], [_], _, _, _, _, rfl, Walks.tuple (A := A.in1) hh _ l (Nat.ne_of_lt hlt) (intItems xs), ⟨⟨_, Heap.get?_push_size _ rfl, rfl, rfl⟩, hl.push _⟩, fun b hb => ?_, by simpa [intItems] using hsz, CmpOf.ints_lt (numAt xs) (fun _ _ => intItems_at), fun v h' tk hP hk => ?_⟩
  · show b < (s.heap.push _).objs.size
    rw [Heap.size_push]
    rcases List.mem_cons.mp hb with e | hb
    · rw [e]; exact Nat.lt_succ_self _
    · rw [List.mem_singleton.mp hb]; exact Nat.lt_succ_of_lt hlt
  · have hv : (intItems xs)[argBest (fun i j => decide (numAt xs i < numAt xs j)) (xs.size - 1)]? = some v := by simpa [intItems] using hP
    have hk' : ∀ b o, s.heap.get? b = some o → h'.get? b = some o := fun b o e => hk b o (fun hm => by
      rw [List.mem_singleton.mp hm] at e
      exact Nat.lt_irrefl _ (Heap.lt_size e)) (Heap.get?_push_of_some _ e)
    obtain ⟨t, rfl⟩ := intItems_at hv
    obtain ⟨h1, h2⟩ := argBest_lt (numAt xs) (xs.size - 1)
    refine h h' tk _ t hk' ?_ fun a ha => ?_
    · rw [numAt_eq]; exact PySem.getD_mem (by rw [List.length_map, Array.length_toList]; omega)
    · obtain ⟨j, hj, rfl⟩ := mem_getD ha
      rw [List.length_map, Array.length_toList] at hj
      rw [← numAt_eq]; exact h2 j (by omega)
end
def rMinT (K : PySem.W.Frag) : List V → Hp → VK → Prop := fun vs H Q => ∃ (a : Addr) (ns : List Int), vs = [V.ref a] ∧ SqT K H a (ns.map V.int) ∧ 0 < ns.length ∧ ∀ m, m ∈ ns → (∀ y, y ∈ ns → m ≤ y) → Q (.int m) H
theorem cr_minT {X : Cx} (hc : X.calm = true) : CallR X (.builtin "min") (rMinT X.K) := by
  intro pins s σ H vs us Q I r h
  obtain ⟨a, ns, rfl, hs, hne, q⟩ := h
  obtain ⟨its, rv, hl, _⟩ := I.tuple hs
  rw [Vals.ref1 r]
  exact minT_raw (I.ok.hd hc) hl rv.ints hne fun h' tk m t' hk h1 h2 => ⟨.int _, H, I.kept hk, ⟨_, rfl⟩, q m h1 h2⟩
theorem rs_minT {X : Cx} {M : Mem} {ns : List Int} (h0 : ns ≠ []) : RSn X.K (rMinT X.K) M [.tup (ns.map D.int)] (Out (.int (minI ns)) M) := fun S H vs Q c r hR => by
  obtain ⟨v, rfl, r1⟩ := one_of r
  obtain ⟨p, ws, rfl, z, q⟩ := tup_get c r1
  rw [Reps.ints.mp q] at z
  exact ⟨p, ns, rfl, z, List.length_pos_iff.mpr h0, fun m hm hl => hR.id c (rep_int.mpr (by rw [minI_eq hm hl]))⟩
end RL
namespace RL
open PySem L2
/-! the rows of Walks, plain -/
abbrev rowD (r : List Int) : D := .tup (r.map D.int)
def shp (r : List Int) : List Int := r.map fun x => x - minI r
def nxt (size : Nat) (ls : List Nat) (r : List Int) : List Int := ls.map fun y => minI ((List.range ls.length).map fun i => r.getD i 0 + (tlo size ls (ls.getD i 0) y : Int))
def rowN (size : Nat) (ls : List Nat) : Nat → List Int
  | 0 => ls.map fun _ => 0
  | n + 1 => nxt size ls (rowN size ls n)
theorem rowN_len (size : Nat) (ls : List Nat) : ∀ n, (rowN size ls n).length = ls.length
  | 0 => by simp [rowN]
  | n + 1 => by simp [rowN, nxt]
theorem getD_map {α β : Type} {f : α → β} {as : List α} {i : Nat} {d : β} (d0 : α) (h : i < as.length) : (as.map f).getD i d = f (as.getD i d0) := by
  rw [List.getD_eq_getElem?_getD, List.getD_eq_getElem?_getD, List.getElem?_map, List.getElem?_eq_getElem h]
  rfl
theorem map_range {α β : Type} (as : List α) (f : α → β) (d0 : α) : ((List.range as.length).map fun i => f (as.getD i d0)) = as.map f := by
  refine List.ext_getElem? fun i => ?_
  rw [List.getElem?_map, List.getElem?_map]
  by_cases h : i < as.length
  · rw [List.getElem?_range h, List.getElem?_eq_getElem h]
    show some (f (as.getD i d0)) = some (f as[i])
    rw [List.getD_eq_getElem?_getD, List.getElem?_eq_getElem h]
    rfl
  · rw [List.getElem?_eq_none_iff.mpr (by simp; omega), List.getElem?_eq_none_iff.mpr (by omega)]
    rfl
/-- the costs, as the turns come -/
def costL (size : Nat) (ls : List Nat) : List (List Key × D) := (List.range (ls.length * ls.length)).map fun i => ([.inl (ls.getD (i / ls.length) 0 : Nat), .inl (ls.getD (i % ls.length) 0 : Nat)], natD (tlo size ls (ls.getD (i / ls.length) 0) (ls.getD (i % ls.length) 0)))
theorem minI_add {ns : List Int} (h : ns ≠ []) (c : Int) : minI (ns.map fun x => x + c) = minI ns + c := by
  symm
  refine minI_eq (List.mem_map.mpr ⟨_, minI_mem h, rfl⟩) fun y hy => ?_
  obtain ⟨z, hz, rfl⟩ := List.mem_map.mp hy
  have := minI_le hz
  omega
theorem range_ne {n : Nat} {f : Nat → Int} (h : 0 < n) : (List.range n).map f ≠ [] := by
  intro e
  have := congrArg List.length e
  rw [List.length_map, List.length_range] at this
  simp at this
  omega
theorem nxt_add {size : Nat} {ls : List Nat} {r : List Int} (h0 : ls ≠ []) (hl : r.length = ls.length) (c : Int) : nxt size ls (r.map fun x => x + c) = (nxt size ls r).map fun x => x + c := by
  unfold nxt
  rw [List.map_map]
  refine List.map_congr_left fun y _ => ?_
  show _ = minI _ + c
  rw [← minI_add (range_ne (List.length_pos_iff.mpr h0)), List.map_map]
  congr 1
  refine List.map_congr_left fun i hi => ?_
  rw [List.mem_range] at hi
  rw [getD_map 0 (by omega)]
  show r.getD i 0 + c + _ = (r.getD i 0 + _) + c
  omega
theorem shp_eq {r q : List Int} (hl : r.length = q.length) (h : shp r = shp q) : r = q.map fun x => x + (minI r - minI q) := by
  refine List.ext_getElem? fun i => ?_
  have := congrArg (fun l : List Int => l[i]?) h
  simp only [shp, List.getElem?_map] at this
  rw [List.getElem?_map]
  by_cases hi : i < r.length
  · rw [List.getElem?_eq_getElem hi, List.getElem?_eq_getElem (by omega)] at this ⊢
    simp only [Option.map_some, Option.some.injEq] at this ⊢
    omega
  · rw [List.getElem?_eq_none_iff.mpr (by omega), List.getElem?_eq_none_iff.mpr (by omega)]
    rfl
structure Reg (size : Nat) (ls : List Nat) (reg per : Nat) (byt : Int) : Prop where
  pos : 0 < per
  lt : reg + per + 1 < 16777216
  eq : shp (rowN size ls (reg + per)) = shp (rowN size ls reg)
  byt : byt = minI (rowN size ls (reg + per)) - minI (rowN size ls reg)
theorem rowN_add {size : Nat} {ls : List Nat} {a b : Nat} {c : Int} (h0 : ls ≠ []) (h : rowN size ls a = (rowN size ls b).map fun x => x + c) : ∀ m, rowN size ls (a + m) = (rowN size ls (b + m)).map fun x => x + c
  | 0 => h
  | m + 1 => by
    show nxt size ls (rowN size ls (a + m)) = (nxt size ls (rowN size ls (b + m))).map _
    rw [rowN_add h0 h m, nxt_add h0 (rowN_len size ls _)]
theorem Reg.add {size : Nat} {ls : List Nat} {reg per : Nat} {byt : Int} (g : Reg size ls reg per byt) (h0 : ls ≠ []) (m : Nat) : rowN size ls (reg + per + m) = (rowN size ls (reg + m)).map fun x => x + byt :=
  rowN_add h0 (by rw [g.byt]; exact shp_eq (by rw [rowN_len, rowN_len]) g.eq) m
theorem Reg.mul {size : Nat} {ls : List Nat} {reg per : Nat} {byt : Int} (g : Reg size ls reg per byt) (h0 : ls ≠ []) (m : Nat) : ∀ k : Nat, rowN size ls (reg + m + k * per) = (rowN size ls (reg + m)).map fun x => x + k * byt
  | 0 => by simp
  | k + 1 => by
    have e : reg + m + (k + 1) * per = reg + per + (m + k * per) := by rw [Nat.add_mul]; omega
    rw [e, g.add h0, ← Nat.add_assoc, g.mul h0 m k, List.map_map]
    refine List.map_congr_left fun x _ => ?_
    show x + (k : Int) * byt + byt = x + ((k + 1 : Nat) : Int) * byt
    rw [Int.natCast_add, Int.add_mul]
    omega
/-- the fewest bytes of n files and the line behind them -/
def leastE (size : Nat) (ls : List Nat) (n : Nat) : Int := minI ((List.range ls.length).map fun i => (rowN size ls n).getD i 0 + (ls.getD i 0 : Int))
theorem leastE_add {size : Nat} {ls : List Nat} {a b : Nat} {c : Int} (h0 : ls ≠ []) (h : rowN size ls a = (rowN size ls b).map fun x => x + c) : leastE size ls a = leastE size ls b + c := by
  unfold leastE
  rw [← minI_add (range_ne (List.length_pos_iff.mpr h0)), List.map_map]
  congr 1
  refine List.map_congr_left fun i hi => ?_
  rw [List.mem_range] at hi
  rw [h, getD_map 0 (by rw [rowN_len]; exact hi)]
  show _ + c + _ = (_ + _) + c
  omega
theorem Reg.least {size : Nat} {ls : List Nat} {reg per : Nat} {byt : Int} (g : Reg size ls reg per byt) (h0 : ls ≠ []) (n k : Nat) (hk : k = (n - reg) / per) : leastE size ls n = leastE size ls (n - k * per) + k * byt := by
  have hm : k * per ≤ n - reg := by rw [hk]; exact Nat.div_mul_le_self _ _
  by_cases hn : reg ≤ n
  · have e : n = reg + (n - k * per - reg) + k * per := by omega
    have e2 : n - k * per = reg + (n - k * per - reg) := by omega
    conv => lhs; rw [e]
    conv => rhs; rw [e2]
    exact leastE_add h0 (g.mul h0 _ k)
  · have : n - reg = 0 := by omega
    rw [this, Nat.zero_div] at hk
    subst hk
    simp
/-- bounds of the rows -/
theorem rowN_bd {size : Nat} {ls : List Nat} (r : Ru size ls) : ∀ n, ∀ v ∈ rowN size ls n, 0 ≤ v ∧ v ≤ 100 * n
  | 0, v, h => by
    obtain ⟨_, _, rfl⟩ := List.mem_map.mp (show v ∈ ls.map fun _ => (0 : Int) from h)
    omega
  | n + 1, v, h => by
    obtain ⟨y, hy, rfl⟩ := List.mem_map.mp (show v ∈ ls.map _ from h)
    have hm := minI_mem (range_ne (f := fun i => (rowN size ls n).getD i 0 + (tlo size ls (ls.getD i 0) y : Int)) (List.length_pos_iff.mpr r.ne))
    obtain ⟨i, hi, e⟩ := List.mem_map.mp hm
    rw [List.mem_range] at hi
    rw [← e]
    have hv : (rowN size ls n).getD i 0 ∈ rowN size ls n := by
      rw [List.getD_eq_getElem?_getD, List.getElem?_eq_getElem (by rw [rowN_len]; exact hi)]
      exact List.getElem_mem _
    have hx : ls.getD i 0 ∈ ls := by
      rw [List.getD_eq_getElem?_getD, List.getElem?_eq_getElem hi]
      exact List.getElem_mem _
    obtain ⟨b1, b2⟩ := rowN_bd r n _ hv
    obtain ⟨_, c2, _⟩ := tlo_bd r hx hy
    have := r.s2
    show 0 ≤ (rowN size ls n).getD i 0 + (tlo size ls (ls.getD i 0) y : Int) ∧ (rowN size ls n).getD i 0 + (tlo size ls (ls.getD i 0) y : Int) ≤ 100 * ((n + 1 : Nat) : Int)
    omega
theorem minI_bd {size : Nat} {ls : List Nat} (r : Ru size ls) (n : Nat) : 0 ≤ minI (rowN size ls n) ∧ minI (rowN size ls n) ≤ 100 * n :=
  rowN_bd r n _ (minI_mem (by
    intro e
    have := rowN_len size ls n
    rw [e] at this
    exact r.ne (List.length_eq_zero_iff.mp this.symm)))

/-! dicts: what stands at a key -/
section
variable {κ : Type} [DecidableEq κ]
theorem valD_cons (g k : κ) (c : D) (kvs : List (κ × D)) : valD ((g, c) :: kvs) k = if g = k then some c else valD kvs k := by
  by_cases h : g = k
  · simp [valD, List.find?_cons, h]
  · simp [valD, List.find?_cons, h]
theorem valD_app (k : κ) (c : D) (g : κ) : ∀ kvs : List (κ × D), valD (kvs ++ [(g, c)]) k = (valD kvs k).or (if g = k then some c else none)
  | [] => by rw [List.nil_append, valD_cons]; rfl
  | (h, e) :: kvs => by
    rw [List.cons_append, valD_cons, valD_cons, valD_app k c g kvs]
    split <;> simp
theorem valD_any (k : κ) : ∀ kvs : List (κ × D), (kvs.any fun kv => decide (kv.1 = k)) = (valD kvs k).isSome
  | [] => rfl
  | (h, e) :: kvs => by
    rw [List.any_cons, valD_cons, valD_any k kvs]
    by_cases z : h = k
    · simp [z]
    · simp [z]
theorem valD_upd (k g : κ) (c : D) : ∀ kvs : List (κ × D), valD (kvs.map fun kv => if kv.1 = g then (kv.1, c) else kv) k = if k = g then (valD kvs k).map fun _ => c else valD kvs k
  | [] => by simp [valD]
  | (h, e) :: kvs => by
    rw [List.map_cons]
    by_cases z : h = g
    · rw [show (if (h, e).1 = g then ((h, e).1, c) else (h, e)) = (h, c) from if_pos z, valD_cons, valD_cons, valD_upd k g c kvs]
      by_cases y : h = k
      · rw [if_pos y, if_pos y, if_pos (by rw [← y, z])]; rfl
      · rw [if_neg y, if_neg y]
    · rw [show (if (h, e).1 = g then ((h, e).1, c) else (h, e)) = (h, e) from if_neg z, valD_cons, valD_cons, valD_upd k g c kvs]
      by_cases y : h = k
      · rw [if_pos y, if_pos y, if_neg (by rw [← y]; exact z)]
      · rw [if_neg y, if_neg y]
theorem valD_put (kvs : List (κ × D)) (k g : κ) (c : D) : valD (putKD kvs g c) k = if g = k then some c else valD kvs k := by
  unfold putKD
  rw [valD_any]
  by_cases h : (valD kvs g).isSome = true
  · rw [if_pos h, valD_upd]
    by_cases z : g = k
    · subst z
      rw [if_pos rfl, if_pos rfl]
      cases e : valD kvs g with
      | none => rw [e] at h; cases h
      | some d => rfl
    · rw [if_neg z, if_neg (Ne.symm z)]
  · rw [if_neg h, valD_app]
    by_cases z : g = k
    · subst z
      rw [if_pos rfl, if_pos rfl]
      cases e : valD kvs g with
      | none => rfl
      | some d => rw [e] at h; exact absurd rfl h
    · rw [if_neg z, if_neg z]
      simp
end
theorem pairsT_succ (n : Nat) (ks : Nat → List Key) (ys : Nat → D) : pairsT (n + 1) ks ys = putKD (pairsT n ks ys) (ks n) (ys n) := by
  unfold pairsT
  rw [List.range_succ, List.foldl_append, List.foldl_cons, List.foldl_nil]
theorem pairsT_len (ks : Nat → List Key) (ys : Nat → D) : ∀ n, (pairsT n ks ys).length ≤ n
  | 0 => Nat.le_refl _
  | n + 1 => by
    rw [pairsT_succ]
    have := putKD_len (pairsT n ks ys) (ks n) (ys n)
    have := pairsT_len ks ys n
    omega
theorem pairsT_none {ks : Nat → List Key} {ys : Nat → D} {k : List Key} : ∀ {n : Nat}, (∀ i, i < n → ks i ≠ k) → valD (pairsT n ks ys) k = none
  | 0, _ => rfl
  | n + 1, h => by
    rw [pairsT_succ, valD_put, if_neg (h n (Nat.lt_succ_self _))]
    exact pairsT_none fun i hi => h i (Nat.lt_succ_of_lt hi)
theorem pairsT_some {ks : Nat → List Key} {ys : Nat → D} {k : List Key} {d : D} : ∀ {n : Nat}, (∃ i, i < n ∧ ks i = k) → (∀ i, i < n → ks i = k → ys i = d) → valD (pairsT n ks ys) k = some d
  | 0, ⟨_, h, _⟩, _ => absurd h (Nat.not_lt_zero _)
  | n + 1, ⟨i, hi, e⟩, h => by
    rw [pairsT_succ, valD_put]
    by_cases z : ks n = k
    · rw [if_pos z, h n (Nat.lt_succ_self _) z]
    · rw [if_neg z]
      exact pairsT_some ⟨i, by rcases Nat.lt_succ_iff_lt_or_eq.mp hi with q | q; exact q; subst q; exact absurd e z, e⟩ fun j hj => h j (Nat.lt_succ_of_lt hj)
theorem atI_last {n : Nat} {f : Nat → D} : atI ((List.range (n + 1)).map f) (-1) = some (f n) := by
  unfold atI
  have e : ixN ((List.range (n + 1)).map f).length (-1) = some n := by
    unfold ixN
    rw [List.length_map, List.length_range, if_neg (by decide), if_pos (by omega)]
    congr 1
    omega
  rw [e]
  show ((List.range (n + 1)).map f)[n]? = _
  rw [List.getElem?_map, List.getElem?_range (by omega)]
  rfl
abbrev keysI (r : List Int) : List Key := r.map Sum.inl
theorem keysI_inj {r q : List Int} (h : keysI r = keysI q) : r = q := by
  have e := congrArg (List.map fun k : Key => match k with | .inl i => i | .inr _ => (0 : Int)) h
  simpa [keysI, List.map_map, Function.comp_def] using e
theorem keysI_D (r : List Int) : (keysI r).map keyD = r.map D.int := by
  rw [List.map_map]; rfl
section
variable {X : Cx} {e a : Expr} {es : List Expr} {ρ : Rho} {M M1 M2 : Mem} {d d1 : D} {ds : List D}
theorem ev_methM {f : Spec} {C : Addr} {m : Str} {fs : List (Str × D)} {dvs : List V} {dds : List D} {E : XK} (h : PE X e (tMeth C m (mk X.K f) dvs E (tE X a) (tA X es))) (h0 : EV X a ρ M d1 M1) (hI : IsI X.K M1 C d1 fs) (hm : fs.lookup m = none) (ha : AV X es ρ M1 ds M2) (hf : f (d1 :: (ds ++ dds)) M2 (Out d M2)) (hd : ∀ S, Reps X.K S dds dvs := by intro _; exact reps_nil.mpr rfl) : EV X e ρ M d M2 :=
  (ev_meth (Mf := M2) (Mr := []) h h0 hI hm ha (by rw [List.append_nil]) hd hf).imp fun d' M' ⟨Mf', ⟨e1, e2⟩, e3⟩ => ⟨e1, by rw [e3, e2, List.append_nil]⟩
end
/-- the shapes repeat -/
def Ends (size : Nat) (ls : List Nat) : Prop := ∃ i j, i < j ∧ j + 1 < 16777216 ∧ shp (rowN size ls i) = shp (rowN size ls j)
/-- .. for the first time -/
structure First (size : Nat) (ls : List Nat) (reg per : Nat) : Prop where
  pos : 0 < per
  lt : reg + per + 1 < 16777216
  eq : shp (rowN size ls (reg + per)) = shp (rowN size ls reg)
  dis : ∀ a b, a < b → b < reg + per → shp (rowN size ls a) ≠ shp (rowN size ls b)
theorem Ends.first {size : Nat} {ls : List Nat} (h : Ends size ls) : ∃ reg per, First size ls reg per := by
  obtain ⟨i, j, hij, hj, e⟩ := h
  have key : ∀ n, n ≤ j → (∀ a b, a < b → b < n → shp (rowN size ls a) ≠ shp (rowN size ls b)) ∨ ∃ reg per, First size ls reg per := by
    intro n
    induction n with
    | zero => intro _; exact .inl fun a b _ h => absurd h (Nat.not_lt_zero _)
    | succ n ih =>
      intro hn
      rcases ih (by omega) with d | d
      · by_cases q : ∃ a, a < n ∧ shp (rowN size ls a) = shp (rowN size ls n)
        · obtain ⟨a, ha, ea⟩ := q
          refine .inr ⟨a, n - a, by omega, by omega, ?_, ?_⟩
          · rw [show a + (n - a) = n by omega]; exact ea.symm
          · rw [show a + (n - a) = n by omega]; exact d
        · refine .inl fun a b hab hb => ?_
          by_cases z : b = n
          · subst z; exact fun ee => q ⟨a, hab, ee⟩
          · exact d a b hab (by omega)
      · exact .inr d
  rcases key j (Nat.le_refl _) with d | d
  · by_cases q : ∃ a, a < j ∧ shp (rowN size ls a) = shp (rowN size ls j)
    · obtain ⟨a, ha, ea⟩ := q
      exact ⟨a, j - a, by omega, by omega, by rw [show a + (j - a) = j by omega]; exact ea.symm, by rw [show a + (j - a) = j by omega]; exact d⟩
    · exact absurd ⟨i, hij, e⟩ q
  · exact d
theorem First.reg {size : Nat} {ls : List Nat} {reg per : Nat} (f : First size ls reg per) : Reg size ls reg per (minI (rowN size ls (reg + per)) - minI (rowN size ls reg)) := ⟨f.pos, f.lt, f.eq, rfl⟩
end RL
namespace RL
/-! the rows of a min-plus matrix of at most six lines repeat -/
theorem pigeon : ∀ (k : Nat) (f : Nat → Nat), (∀ t, t ≤ k → f t < k) → ∃ s t, s < t ∧ t ≤ k ∧ f s = f t
  | 0, f, h => absurd (h 0 (Nat.le_refl _)) (Nat.not_lt_zero _)
  | k + 1, f, h => by
    by_cases q : ∃ s, s ≤ k ∧ f s = f (k + 1)
    · obtain ⟨s, hs, e⟩ := q
      exact ⟨s, k + 1, by omega, Nat.le_refl _, e⟩
    · have ha := h (k + 1) (Nat.le_refl _)
      have hn : ∀ s, s ≤ k → f s ≠ f (k + 1) := fun s hs e => q ⟨s, hs, e⟩
      obtain ⟨s, t, h1, h2, h3⟩ := pigeon k (fun t => if f t = k then f (k + 1) else f t) (fun t ht => by
        have := h t (by omega)
        have := hn t ht
        show (if f t = k then f (k + 1) else f t) < k
        split <;> omega)
      refine ⟨s, t, h1, by omega, ?_⟩
      have n1 := hn s (by omega)
      have n2 := hn t (by omega)
      split at h3 <;> split at h3 <;> omega
theorem least_nat {P : Nat → Prop} (h : ∃ n, P n) : ∃ n, P n ∧ ∀ m, P m → n ≤ m := by
  obtain ⟨n, hn⟩ := h
  induction n using Nat.strongRecOn with
  | _ n ih =>
    by_cases q : ∃ m, m < n ∧ P m
    · obtain ⟨m, hm, pm⟩ := q
      exact ih m hm pm
    · exact ⟨n, hn, fun m pm => by
        by_cases z : m < n
        · exact absurd ⟨m, z, pm⟩ q
        · omega⟩
theorem least_int {f : Nat → Int} {b : Int} (h : ∀ n, b ≤ f n) : ∃ v : Int, (∀ n, v ≤ f n) ∧ ∃ n, v = f n := by
  obtain ⟨m, ⟨n, e⟩, hm⟩ := least_nat (P := fun m => ∃ n, (f n - b).toNat = m) ⟨_, 0, rfl⟩
  refine ⟨f n, fun i => ?_, n, rfl⟩
  have := hm _ ⟨i, rfl⟩
  have := h i
  have := h n
  omega
/-- the cost of a walk's first n steps -/
def wsum (c : Nat → Nat → Int) (v : Nat → Nat) : Nat → Int
  | 0 => 0
  | n + 1 => wsum c v n + c (v n) (v (n + 1))
theorem wsum_congr {c : Nat → Nat → Int} {v u : Nat → Nat} : ∀ {n : Nat}, (∀ t, t ≤ n → v t = u t) → wsum c v n = wsum c u n
  | 0, _ => rfl
  | n + 1, h => by
    show wsum c v n + _ = wsum c u n + _
    rw [wsum_congr fun t ht => h t (by omega), h n (by omega), h (n + 1) (Nat.le_refl _)]
theorem wsum_add (c : Nat → Nat → Int) (v : Nat → Nat) (a : Nat) : ∀ b : Nat, wsum c v (a + b) = wsum c v a + wsum c (fun t => v (a + t)) b
  | 0 => by simp [wsum]
  | b + 1 => by
    show wsum c v (a + b) + c (v (a + b)) (v (a + b + 1)) = wsum c v a + (wsum c (fun t => v (a + t)) b + c (v (a + b)) (v (a + (b + 1))))
    rw [wsum_add c v a b, Nat.add_assoc a b 1]
    omega
structure MP (k : Nat) (c : Nat → Nat → Int) (r : Nat → Nat → Int) : Prop where
  pos : 0 < k
  six : k ≤ 6
  bd : ∀ i j, i < k → j < k → 0 ≤ c i j ∧ c i j ≤ 100
  z : ∀ j, j < k → r 0 j = 0
  le : ∀ n i j, i < k → j < k → r (n + 1) j ≤ r n i + c i j
  at' : ∀ n j, j < k → ∃ i, i < k ∧ r (n + 1) j = r n i + c i j
section
variable {k : Nat} {c r : Nat → Nat → Int}
/-- the least mean of a closed walk: m / 60 -/
theorem MP.mean (h : MP k c r) : ∃ m : Nat, (∀ (v : Nat → Nat) (n : Nat), (∀ t, v t < k) → v n = v 0 → 60 * wsum c v n ≥ m * n) ∧ ∃ (v : Nat → Nat) (l : Nat), (∀ t, v t < k) ∧ v l = v 0 ∧ 0 < l ∧ 60 * wsum c v l = m * l := by
  have hs := h.six
  have nn : ∀ (v : Nat → Nat) (n : Nat), (∀ t, v t < k) → 0 ≤ wsum c v n := fun v n hv => by
    induction n with
    | zero => exact Int.le_refl _
    | succ n ih =>
      have := (h.bd _ _ (hv n) (hv (n + 1))).1
      show 0 ≤ wsum c v n + _
      omega
  obtain ⟨m, ⟨v0, l0, hv0, hc0, p0, p6, e0⟩, hm⟩ := least_nat (P := fun m => ∃ (v : Nat → Nat) (l : Nat), (∀ t, v t < k) ∧ v l = v 0 ∧ 0 < l ∧ l ≤ 6 ∧ (wsum c v l).toNat * (60 / l) = m)
    ⟨_, fun _ => 0, 1, fun _ => h.pos, rfl, by omega, by omega, rfl⟩
  have div : ∀ l, 0 < l → l ≤ 6 → 60 / l * l = 60 := fun l h1 h2 => by
    have : l = 1 ∨ l = 2 ∨ l = 3 ∨ l = 4 ∨ l = 5 ∨ l = 6 := by omega
    rcases this with e | e | e | e | e | e <;> subst e <;> rfl
  have small : ∀ (v : Nat → Nat) (n : Nat), (∀ t, v t < k) → v n = v 0 → 0 < n → n ≤ 6 → 60 * wsum c v n ≥ m * n := fun v n hv hc hp h6 => by
    have h1 := hm _ ⟨v, n, hv, hc, hp, h6, rfl⟩
    have h2 := nn v n hv
    have h3 := Nat.mul_le_mul_right n h1
    rw [Nat.mul_assoc, div n hp h6] at h3
    have h4 : ((m * n : Nat) : Int) ≤ (((wsum c v n).toNat * 60 : Nat) : Int) := Int.ofNat_le.mpr h3
    rw [Int.natCast_mul, Int.natCast_mul] at h4
    omega
  refine ⟨m, fun v n => ?_, v0, l0, hv0, hc0, p0, ?_⟩
  · induction n using Nat.strongRecOn generalizing v with
    | _ n ih =>
      intro hv hc
      rcases Nat.eq_zero_or_pos n with e | hp
      · subst e
        show 60 * 0 ≥ _
        simp
      · by_cases h6 : n ≤ 6
        · exact small v n hv hc hp h6
        · obtain ⟨s, t, h1, h2, h3⟩ := pigeon k v fun t _ => hv t
          have e1 := small (fun u => v (s + u)) (t - s) (fun u => hv _) (by show v (s + (t - s)) = v (s + 0); rw [show s + (t - s) = t by omega]; exact h3.symm) (by omega) (by omega)
          have e2 := ih (n - (t - s)) (by omega) (fun u => if u ≤ s then v u else v (u + (t - s))) (fun u => by
            show (if u ≤ s then v u else v (u + (t - s))) < k
            split <;> exact hv _) (by
            show (if n - (t - s) ≤ s then v (n - (t - s)) else v (n - (t - s) + (t - s))) = (if 0 ≤ s then v 0 else _)
            rw [if_neg (by omega), if_pos (by omega), show n - (t - s) + (t - s) = n by omega]
            exact hc)
          have f1 : wsum c v n = wsum c v s + wsum c (fun u => v (s + u)) (t - s) + wsum c (fun u => v (t + u)) (n - t) := by
            have g1 := wsum_add c v t (n - t)
            have g2 := wsum_add c v s (t - s)
            rw [show t + (n - t) = n by omega] at g1
            rw [show s + (t - s) = t by omega] at g2
            omega
          have f2 : wsum c (fun u => if u ≤ s then v u else v (u + (t - s))) (n - (t - s)) = wsum c v s + wsum c (fun u => v (t + u)) (n - t) := by
            rw [show n - (t - s) = s + (n - t) by omega, wsum_add]
            congr 1
            · exact wsum_congr fun u hu => if_pos hu
            · refine wsum_congr fun u hu => ?_
              show (if s + u ≤ s then v (s + u) else v (s + u + (t - s))) = v (t + u)
              by_cases z : u = 0
              · subst z
                rw [if_pos (by omega)]
                exact h3
              · rw [if_neg (by omega), show s + u + (t - s) = t + u by omega]
          have f3 : ((n : Nat) : Int) = ((t - s : Nat) : Int) + ((n - (t - s) : Nat) : Int) := by omega
          have f4 : (m : Int) * (n : Int) = (m : Int) * ((t - s : Nat) : Int) + (m : Int) * ((n - (t - s) : Nat) : Int) := by rw [← Int.mul_add, ← f3]
          omega
  · have h2 := nn v0 l0 hv0
    have h3 := congrArg (fun x => x * l0) e0
    rw [Nat.mul_assoc, div l0 p0 p6] at h3
    have h4 : (((wsum c v0 l0).toNat * 60 : Nat) : Int) = ((m * l0 : Nat) : Int) := by rw [h3]
    rw [Int.natCast_mul, Int.natCast_mul] at h4
    omega

/-- a walk along which the row is made -/
theorem MP.back (h : MP k c r) : ∀ (n y : Nat), y < k → ∃ v : Nat → Nat, (∀ t, v t < k) ∧ v n = y ∧ ∀ t, t < n → r (t + 1) (v (t + 1)) = r t (v t) + c (v t) (v (t + 1))
  | 0, y, hy => ⟨fun _ => y, fun _ => hy, rfl, fun t ht => absurd ht (Nat.not_lt_zero _)⟩
  | n + 1, y, hy => by
    obtain ⟨i, hi, e⟩ := h.at' n y hy
    obtain ⟨v, h1, h2, h3⟩ := MP.back h n i hi
    refine ⟨fun t => if t ≤ n then v t else y, fun t => ?_, if_neg (by omega), fun t ht => ?_⟩
    · show (if t ≤ n then v t else y) < k
      split
      · exact h1 t
      · exact hy
    · show r (t + 1) (if t + 1 ≤ n then v (t + 1) else y) = r t (if t ≤ n then v t else y) + c (if t ≤ n then v t else y) (if t + 1 ≤ n then v (t + 1) else y)
      by_cases z : t = n
      · subst z
        rw [if_neg (by omega), if_pos (by omega), h2]
        exact e
      · rw [if_pos (by omega), if_pos (by omega)]
        exact h3 t (by omega)
theorem MP.sum (h : MP k c r) {v : Nat → Nat} {n : Nat} (hv : ∀ t, t < n → r (t + 1) (v (t + 1)) = r t (v t) + c (v t) (v (t + 1))) : ∀ t, t ≤ n → r t (v t) = r 0 (v 0) + wsum c v t
  | 0, _ => by simp [wsum]
  | t + 1, ht => by
    rw [hv t (by omega), MP.sum h hv t (by omega)]
    show _ = _ + (wsum c v t + _)
    omega
/-- scaled, with a potential: g n j = 60 r n j - m n - H j -/
theorem MP.pot (h : MP k c r) : ∃ (m : Nat) (H : Nat → Int), (∀ n j, j < k → 0 ≤ 60 * r n j - m * n - H j ∧ 60 * r (n + 1) j - m * (n + 1 : Nat) - H j ≤ 18000) ∧ ∀ i j, i < k → j < k → 0 ≤ 60 * c i j - m + H i - H j := by
  obtain ⟨m, hm, w, l, hw, hwc, hl, hwe⟩ := h.mean
  have low : ∀ j, j < k → ∀ n : Nat, -6000 ≤ 60 * r n j - m * (n : Int) := fun j hj n => by
    obtain ⟨v, h1, h2, h3⟩ := h.back n j hj
    have e1 := h.sum h3 n (Nat.le_refl _)
    rw [h2, h.z _ (h1 0)] at e1
    have e2 := hm (fun t => if t ≤ n then v t else v 0) (n + 1) (fun t => by
      show (if t ≤ n then v t else v 0) < k
      split <;> exact h1 _) (by
      show (if n + 1 ≤ n then v (n + 1) else v 0) = (if 0 ≤ n then v 0 else v 0)
      rw [if_neg (by omega), if_pos (by omega)])
    have e3 : wsum c (fun t => if t ≤ n then v t else v 0) (n + 1) = wsum c v n + c j (v 0) := by
      show wsum c (fun t => if t ≤ n then v t else v 0) n + c (if n ≤ n then v n else v 0) (if n + 1 ≤ n then v (n + 1) else v 0) = _
      rw [if_pos (Nat.le_refl _), if_neg (by omega), h2]
      congr 1
      exact wsum_congr fun t ht => if_pos ht
    rw [e3] at e2
    have := (h.bd _ _ hj (h1 0)).2
    have f : (m : Int) * ((n + 1 : Nat) : Int) = m * (n : Int) + m := by rw [Int.natCast_add, Int.mul_add]; simp
    have := Int.natCast_nonneg m
    omega
  have ex : ∀ j, ∃ x : Int, j < k → (∀ n : Nat, x ≤ 60 * r n j - m * (n : Int)) ∧ ∃ n : Nat, x = 60 * r n j - m * (n : Int) := fun j => by
    by_cases hj : j < k
    · obtain ⟨x, a, b⟩ := least_int (f := fun n : Nat => 60 * r n j - m * (n : Int)) (b := -6000) (low j hj)
      exact ⟨x, fun _ => ⟨a, b⟩⟩
    · exact ⟨0, fun z => absurd z hj⟩
  obtain ⟨H, hH⟩ := Classical.axiomOfChoice ex
  have H0 : ∀ j, j < k → -6000 ≤ H j ∧ H j ≤ 0 := fun j hj => by
    obtain ⟨a, n, b⟩ := hH j hj
    refine ⟨by rw [b]; exact low j hj n, ?_⟩
    have := a 0
    rw [h.z j hj] at this
    simpa using this
  have edge : ∀ i j, i < k → j < k → 0 ≤ 60 * c i j - m + H i - H j := fun i j hi hj => by
    obtain ⟨_, n, b⟩ := hH i hi
    have a := (hH j hj).1 (n + 1)
    have := h.le n i j hi hj
    have f : (m : Int) * ((n + 1 : Nat) : Int) = m * (n : Int) + m := by rw [Int.natCast_add, Int.mul_add]; simp
    omega
  refine ⟨m, H, fun n j hj => ⟨by have := (hH j hj).1 n; omega, ?_⟩, edge⟩
  -- the walk around the best closed walk
  have step : ∀ (n : Nat) i j, i < k → j < k → 60 * r (n + 1) j - m * ((n + 1 : Nat) : Int) - H j ≤ 60 * r n i - m * (n : Int) - H i + (60 * c i j - m + H i - H j) := fun n i j hi hj => by
    have := h.le n i j hi hj
    have f : (m : Int) * ((n + 1 : Nat) : Int) = m * (n : Int) + m := by rw [Int.natCast_add, Int.mul_add]; simp
    omega
  have part : ∀ (v : Nat → Nat), (∀ t, v t < k) → ∀ b : Nat, 60 * wsum c v b - m * (b : Int) + H (v 0) - H (v b) ≥ 0 := fun v hv b => by
    induction b with
    | zero => simp [wsum]
    | succ b ih =>
      have e1 := edge _ _ (hv b) (hv (b + 1))
      have f : (m : Int) * ((b + 1 : Nat) : Int) = m * (b : Int) + m := by rw [Int.natCast_add, Int.mul_add]; simp
      show 60 * (wsum c v b + c (v b) (v (b + 1))) - _ + _ - _ ≥ 0
      omega
  have along : ∀ (v : Nat → Nat), (∀ t, v t < k) → ∀ n b : Nat, 60 * r (n + b) (v b) - m * ((n + b : Nat) : Int) - H (v b) ≤ 60 * r n (v 0) - m * (n : Int) - H (v 0) + (60 * wsum c v b - m * (b : Int) + H (v 0) - H (v b)) := fun v hv n b => by
    induction b with
    | zero => simp [wsum]
    | succ b ih =>
      have e1 := step (n + b) _ _ (hv b) (hv (b + 1))
      have f : (m : Int) * ((b + 1 : Nat) : Int) = m * (b : Int) + m := by rw [Int.natCast_add, Int.mul_add]; simp
      show 60 * r (n + b + 1) (v (b + 1)) - m * ((n + b + 1 : Nat) : Int) - _ ≤ _ + (60 * (wsum c v b + c (v b) (v (b + 1))) - _ + _ - _)
      omega
  have zero : ∀ s, s ≤ l → 60 * wsum c w s - m * (s : Int) + H (w 0) - H (w s) = 0 := fun s hs => by
    have a := part w hw s
    have b := part (fun t => w (s + t)) (fun t => hw _) (l - s)
    have e := wsum_add c w s (l - s)
    rw [show s + (l - s) = l by omega] at e
    have e2 : (w (s + (l - s))) = w 0 := by rw [show s + (l - s) = l by omega]; exact hwc
    have b' : 60 * wsum c (fun t => w (s + t)) (l - s) - m * ((l - s : Nat) : Int) + H (w (s + 0)) - H (w (s + (l - s))) ≥ 0 := b
    rw [e2, Nat.add_zero] at b'
    have f : (m : Int) * (l : Int) = m * (s : Int) + m * ((l - s : Nat) : Int) := by rw [← Int.mul_add]; congr 1; omega
    omega
  have round : ∀ t : Nat, 60 * r (l * t) (w 0) - m * ((l * t : Nat) : Int) - H (w 0) ≤ 6000 := fun t => by
    induction t with
    | zero =>
      rw [Nat.mul_zero, h.z _ (hw 0)]
      have := H0 _ (hw 0)
      simp
      omega
    | succ t ih =>
      have a := along w hw (l * t) l
      rw [zero l (Nat.le_refl _), hwc] at a
      rw [Nat.mul_add, Nat.mul_one]
      omega
  have some6 : ∃ a, a < k ∧ 60 * r n a - m * (n : Int) - H a ≤ 6000 := by
    have e : n = l * (n / l) + n % l := (Nat.div_add_mod n l).symm
    have hlt := Nat.mod_lt n hl
    have a := along w hw (l * (n / l)) (n % l)
    rw [zero _ (Nat.le_of_lt hlt), ← e] at a
    have := round (n / l)
    exact ⟨w (n % l), hw _, by omega⟩
  obtain ⟨a, ha, e⟩ := some6
  have e1 := step n a j ha hj
  have := (h.bd a j ha hj).2
  have := H0 a ha
  have := H0 j hj
  have := Int.natCast_nonneg m
  omega

theorem MP.along (h : MP k c r) {v : Nat → Nat} (hv : ∀ t, v t < k) (n : Nat) : ∀ b : Nat, r (n + b) (v b) ≤ r n (v 0) + wsum c v b
  | 0 => by simp [wsum]
  | b + 1 => by
    have := h.le (n + b) _ _ (hv b) (hv (b + 1))
    have := MP.along h hv n b
    show r (n + b + 1) (v (b + 1)) ≤ _ + (wsum c v b + _)
    omega
/-- from some place on sixty steps more cost m at most -/
theorem MP.sixty (h : MP k c r) : ∃ (m : Nat) (H : Nat → Int), (∀ n j, j < k → 0 ≤ 60 * r n j - m * n - H j ∧ 60 * r (n + 1) j - m * (n + 1 : Nat) - H j ≤ 18000) ∧ ∀ n y, 108006 ≤ n → y < k → r (n + 60) y ≤ r n y + m := by
  obtain ⟨m, H, hb, he⟩ := h.pot
  refine ⟨m, H, hb, fun n y hn hy => ?_⟩
  have hs := h.six
  obtain ⟨v, h1, h2, h3⟩ := h.back n y hy
  have hsum := h.sum h3
  have inc : ∀ t, t < n → 60 * r t (v t) - m * (t : Int) - H (v t) ≤ 60 * r (t + 1) (v (t + 1)) - m * ((t + 1 : Nat) : Int) - H (v (t + 1)) := fun t ht => by
    have := h3 t ht
    have := he _ _ (h1 t) (h1 (t + 1))
    have f : (m : Int) * ((t + 1 : Nat) : Int) = m * (t : Int) + m := by rw [Int.natCast_add, Int.mul_add]; simp
    omega
  have incs : ∀ s d, s + d ≤ n → 60 * r s (v s) - m * (s : Int) - H (v s) ≤ 60 * r (s + d) (v (s + d)) - m * ((s + d : Nat) : Int) - H (v (s + d)) := fun s d => by
    induction d with
    | zero => intro _; exact Int.le_refl _
    | succ d ih => intro hd; exact Int.le_trans (ih (by omega)) (inc (s + d) (by omega))
  -- a block of six steps that costs nothing
  have blk : ∃ b, b ≤ 18000 ∧ 60 * r (6 * b + 6) (v (6 * b + 6)) - m * ((6 * b + 6 : Nat) : Int) - H (v (6 * b + 6)) = 60 * r (6 * b) (v (6 * b)) - m * ((6 * b : Nat) : Int) - H (v (6 * b)) := by
    by_cases q : ∃ b, b ≤ 18000 ∧ 60 * r (6 * b + 6) (v (6 * b + 6)) - m * ((6 * b + 6 : Nat) : Int) - H (v (6 * b + 6)) = 60 * r (6 * b) (v (6 * b)) - m * ((6 * b : Nat) : Int) - H (v (6 * b))
    · exact q
    · exfalso
      have up : ∀ b : Nat, b ≤ 18001 → (b : Int) ≤ 60 * r (6 * b) (v (6 * b)) - m * ((6 * b : Nat) : Int) - H (v (6 * b)) := fun b => by
        induction b with
        | zero => intro _; exact (hb 0 _ (h1 0)).1
        | succ b ih =>
          intro hb'
          have a1 := ih (by omega)
          have a2 := incs (6 * b) 6 (by omega)
          have a3 : ¬ (60 * r (6 * b + 6) (v (6 * b + 6)) - m * ((6 * b + 6 : Nat) : Int) - H (v (6 * b + 6)) = 60 * r (6 * b) (v (6 * b)) - m * ((6 * b : Nat) : Int) - H (v (6 * b))) := fun e => q ⟨b, by omega, e⟩
          rw [show 6 * (b + 1) = 6 * b + 6 by omega]
          omega
      have a := up 18001 (Nat.le_refl _)
      have b := (hb 108005 _ (h1 (6 * 18001))).2
      rw [show 108005 + 1 = 6 * 18001 by rfl] at b
      omega
  obtain ⟨b, hb18, eb⟩ := blk
  obtain ⟨s, t, st, tk, ev⟩ := pigeon k (fun t => v (6 * b + t)) fun t _ => h1 _
  have ev : v (6 * b + s) = v (6 * b + t) := ev
  generalize hN : 6 * b + s = N at ev
  generalize hd : t - s = d
  have hNd : 6 * b + t = N + d := by omega
  rw [hNd] at ev
  have c1 := incs (6 * b) s (by omega)
  have c2 := incs N d (by omega)
  have c3 := incs (N + d) (6 - t) (by omega)
  rw [hN] at c1
  rw [show N + d + (6 - t) = 6 * b + 6 by omega] at c3
  rw [← ev] at c2 c3
  -- the cost of the closed walk
  have w1 : r (N + d) (v N) = r N (v N) + wsum c (fun u => v (N + u)) d := by
    have e1 := hsum N (by omega)
    have e2 := hsum (N + d) (by omega)
    rw [wsum_add, ← ev] at e2
    omega
  have w2 : 60 * wsum c (fun u => v (N + u)) d = m * (d : Int) := by
    have f : (m : Int) * ((N + d : Nat) : Int) = m * (N : Int) + m * (d : Int) := by rw [Int.natCast_add, Int.mul_add]
    omega
  generalize hz : v N = z at w1
  have hzk : z < k := by rw [← hz]; exact h1 N
  have round : ∀ n', r (n' + d) z ≤ r n' z + wsum c (fun u => v (N + u)) d := fun n' => by
    have := h.along (v := fun u => v (N + u)) (fun u => h1 _) n' d
    have e1 : v (N + d) = z := by rw [← ev]; exact hz
    have e2 : v (N + 0) = z := hz
    rw [e1, e2] at this
    exact this
  have rounds : ∀ (i : Nat) n', r (n' + i * d) z ≤ r n' z + i * wsum c (fun u => v (N + u)) d := fun i => by
    induction i with
    | zero => intro n'; simp
    | succ i ih =>
      intro n'
      have a := ih n'
      have b := round (n' + i * d)
      have f : ((i + 1 : Nat) : Int) * wsum c (fun u => v (N + u)) d = i * wsum c (fun u => v (N + u)) d + wsum c (fun u => v (N + u)) d := by rw [Int.natCast_add, Int.add_mul]; simp
      rw [Nat.add_mul, Nat.one_mul, ← Nat.add_assoc]
      omega
  have full : r (N + 60) z ≤ r N z + m := by
    have hd6 : d = 1 ∨ d = 2 ∨ d = 3 ∨ d = 4 ∨ d = 5 ∨ d = 6 := by omega
    have a := rounds (60 / d) N
    rcases hd6 with e | e | e | e | e | e <;> subst e <;> simp only [Nat.reduceDiv, Nat.reduceMul] at a <;> omega
  have e1 := h.along (v := fun u => v (N + u)) (fun u => h1 _) (N + 60) (n - N)
  have e2 := hsum N (by omega)
  have e3 := hsum n (Nat.le_refl _)
  have e4 := wsum_add c v N (n - N)
  rw [show N + (n - N) = n by omega] at e4
  have e5 : v (N + (n - N)) = y := by rw [show N + (n - N) = n by omega]; exact h2
  have e6 : v (N + 0) = z := hz
  rw [e5, e6, show N + 60 + (n - N) = n + 60 by omega] at e1
  rw [hz] at e2
  rw [h2] at e3
  omega
def sumN (f : Nat → Int) : Nat → Int
  | 0 => 0
  | n + 1 => sumN f n + f n
theorem sumN_le {f g : Nat → Int} : ∀ {n : Nat}, (∀ i, i < n → f i ≤ g i) → sumN f n ≤ sumN g n
  | 0, _ => Int.le_refl _
  | n + 1, h => by
    have := sumN_le (f := f) (g := g) (n := n) fun i hi => h i (by omega)
    have := h n (by omega)
    show sumN f n + f n ≤ sumN g n + g n
    omega
theorem sumN_lt {f g : Nat → Int} : ∀ {n : Nat}, (∀ i, i < n → f i ≤ g i) → (∃ i, i < n ∧ f i < g i) → sumN f n < sumN g n
  | 0, _, ⟨i, h, _⟩ => absurd h (Nat.not_lt_zero _)
  | n + 1, h, ⟨i, hi, e⟩ => by
    show sumN f n + f n < sumN g n + g n
    by_cases z : i = n
    · subst z
      have := sumN_le (f := f) (g := g) (n := i) fun j hj => h j (by omega)
      omega
    · have := sumN_lt (f := f) (g := g) (n := n) (fun j hj => h j (by omega)) ⟨i, by omega, e⟩
      have := h n (by omega)
      omega
theorem sumN_c (f : Nat → Int) (x : Int) : ∀ n : Nat, sumN (fun i => f i + x) n = sumN f n + n * x
  | 0 => by simp [sumN]
  | n + 1 => by
    show sumN _ n + _ = sumN f n + f n + _
    rw [sumN_c f x n, Int.natCast_add, Int.add_mul]
    simp
    omega
theorem MP.ends (h : MP k c r) : ∃ (n : Nat) (m : Int), n < 1000000 ∧ ∀ y, y < k → r (n + 60) y = r n y + m := by
  obtain ⟨m, H, hb, hm⟩ := h.sixty
  have hs := h.six
  by_cases q : ∃ t, t ≤ 1801 ∧ ∀ y, y < k → r (108006 + 60 * t + 60) y = r (108006 + 60 * t) y + m
  · obtain ⟨t, ht, e⟩ := q
    exact ⟨108006 + 60 * t, m, by omega, e⟩
  · exfalso
    have strict : ∀ t, t ≤ 1801 → ∃ y, y < k ∧ r (108006 + 60 * (t + 1)) y - m * ((t + 1 : Nat) : Int) < r (108006 + 60 * t) y - m * (t : Int) := fun t ht => by
      by_cases z : ∃ y, y < k ∧ r (108006 + 60 * (t + 1)) y - m * ((t + 1 : Nat) : Int) < r (108006 + 60 * t) y - m * (t : Int)
      · exact z
      · refine absurd ⟨t, ht, fun y hy => ?_⟩ q
        have a := hm (108006 + 60 * t) y (by omega) hy
        have f : (m : Int) * ((t + 1 : Nat) : Int) = m * (t : Int) + m := by rw [Int.natCast_add, Int.mul_add]; simp
        have b : ¬ (r (108006 + 60 * (t + 1)) y - m * ((t + 1 : Nat) : Int) < r (108006 + 60 * t) y - m * (t : Int)) := fun e => z ⟨y, hy, e⟩
        rw [show 108006 + 60 * (t + 1) = 108006 + 60 * t + 60 by omega] at b
        omega
    have fall : ∀ t, t ≤ 1802 → sumN (fun y => r (108006 + 60 * t) y - m * (t : Int)) k + t ≤ sumN (fun y => r (108006 + 60 * 0) y - m * ((0 : Nat) : Int)) k := fun t => by
      induction t with
      | zero => intro _; simp
      | succ t ih =>
        intro ht
        have a := ih (by omega)
        have b := sumN_lt (f := fun y => r (108006 + 60 * (t + 1)) y - m * ((t + 1 : Nat) : Int)) (g := fun y => r (108006 + 60 * t) y - m * (t : Int)) (n := k) (fun y hy => by
          have a := hm (108006 + 60 * t) y (by omega) hy
          have f : (m : Int) * ((t + 1 : Nat) : Int) = m * (t : Int) + m := by rw [Int.natCast_add, Int.mul_add]; simp
          show r (108006 + 60 * (t + 1)) y - m * ((t + 1 : Nat) : Int) ≤ r (108006 + 60 * t) y - m * (t : Int)
          rw [show 108006 + 60 * (t + 1) = 108006 + 60 * t + 60 by omega]
          omega) (strict t (by omega))
        omega
    have a := fall 1802 (Nat.le_refl _)
    have b := sumN_le (f := fun y => (r (108006 + 60 * 0) y - m * ((0 : Nat) : Int)) + (-300)) (g := fun y => r (108006 + 60 * 1802) y - m * ((1802 : Nat) : Int)) (n := k) (fun y hy => by
      have b1 := (hb (108006 + 60 * 1802) y hy).1
      have b2 := (hb 108005 y hy).2
      show r (108006 + 60 * 0) y - m * ((0 : Nat) : Int) + (-300) ≤ r (108006 + 60 * 1802) y - m * ((1802 : Nat) : Int)
      rw [show 108005 + 1 = 108006 from rfl] at b2
      simp only [Nat.mul_zero, Nat.add_zero] at *
      omega)
    rw [sumN_c] at b
    omega
end
/-- the shapes of the rows repeat -/
theorem ends_of {size : Nat} {ls : List Nat} (ru : Ru size ls) : Ends size ls := by
  have hx : ∀ i, i < ls.length → ls.getD i 0 ∈ ls := fun i hi => by
    rw [List.getD_eq_getElem?_getD, List.getElem?_eq_getElem hi]
    exact List.getElem_mem _
  have nxtD : ∀ n j, j < ls.length → (rowN size ls (n + 1)).getD j 0 = minI ((List.range ls.length).map fun i => (rowN size ls n).getD i 0 + (tlo size ls (ls.getD i 0) (ls.getD j 0) : Int)) := fun n j hj => by
    show (ls.map _).getD j 0 = _
    rw [getD_map 0 hj]
  have h : MP ls.length (fun i j => (tlo size ls (ls.getD i 0) (ls.getD j 0) : Int)) (fun n j => (rowN size ls n).getD j 0) := by
    refine ⟨List.length_pos_iff.mpr ru.ne, ru.len, fun i j hi hj => ?_, fun j hj => ?_, fun n i j hi hj => ?_, fun n j hj => ?_⟩
    · obtain ⟨_, a, _⟩ := tlo_bd ru (hx i hi) (hx j hj)
      have := ru.s2
      show 0 ≤ (tlo size ls (ls.getD i 0) (ls.getD j 0) : Int) ∧ (tlo size ls (ls.getD i 0) (ls.getD j 0) : Int) ≤ 100
      omega
    · show (ls.map fun _ => (0 : Int)).getD j 0 = 0
      rw [getD_map 0 hj]
    · show (rowN size ls (n + 1)).getD j 0 ≤ _
      rw [nxtD n j hj]
      exact minI_le (List.mem_map.mpr ⟨i, List.mem_range.mpr hi, rfl⟩)
    · have := minI_mem (range_ne (f := fun i => (rowN size ls n).getD i 0 + (tlo size ls (ls.getD i 0) (ls.getD j 0) : Int)) (List.length_pos_iff.mpr ru.ne))
      obtain ⟨i, hi, e⟩ := List.mem_map.mp this
      exact ⟨i, List.mem_range.mp hi, by show (rowN size ls (n + 1)).getD j 0 = _; rw [nxtD n j hj]; exact e.symm⟩
  obtain ⟨n, m, hn, e⟩ := h.ends
  refine ⟨n, n + 60, by omega, by omega, ?_⟩
  have hne : rowN size ls n ≠ [] := fun e => by
    have := rowN_len size ls n
    rw [e] at this
    exact ru.ne (List.length_eq_zero_iff.mp this.symm)
  have er : rowN size ls (n + 60) = (rowN size ls n).map fun x => x + m := by
    refine List.ext_getElem? fun i => ?_
    rw [List.getElem?_map]
    by_cases hi : i < ls.length
    · have a := e i hi
      have l1 := rowN_len size ls (n + 60)
      have l2 := rowN_len size ls n
      have a' : (rowN size ls (n + 60)).getD i 0 = (rowN size ls n).getD i 0 + m := a
      rw [List.getD_eq_getElem?_getD, List.getD_eq_getElem?_getD, List.getElem?_eq_getElem (by omega), List.getElem?_eq_getElem (by omega)] at a'
      rw [List.getElem?_eq_getElem (by omega), List.getElem?_eq_getElem (by omega)]
      show some _ = some _
      exact congrArg some a'
    · have l1 := rowN_len size ls (n + 60)
      have l2 := rowN_len size ls n
      rw [List.getElem?_eq_none_iff.mpr (by omega), List.getElem?_eq_none_iff.mpr (by omega)]
      rfl
  rw [er]
  unfold shp
  rw [minI_add hne, List.map_map]
  refine List.map_congr_left fun x _ => ?_
  show x - minI _ = x + m - (minI _ + m)
  omega
end RL
namespace RL
/-! the fewest bytes rise; how many rotations fit -/
/-- the fewest bytes of a stretch -/
def leastB (size : Nat) (ls : List Nat) (n : Nat) : Int := if n = 0 then (ls.getD 0 0 : Int) else (ls.getD 0 0 : Int) + leastE size ls (n - 1)
def leastF (size : Nat) (ls : List Nat) (holds : Bool) (n : Nat) : Int := if holds then leastE size ls n else leastB size ls n
section
variable {size : Nat} {ls : List Nat}
theorem getD_in (ru : Ru size ls) {i : Nat} (hi : i < ls.length) : ls.getD i 0 ∈ ls := by
  rw [List.getD_eq_getElem?_getD, List.getElem?_eq_getElem hi]
  exact List.getElem_mem _
theorem first_le (ru : Ru size ls) : ∀ y ∈ ls, ls.getD 0 0 ≤ y := by
  have h := ru.asc
  have h0 := ru.ne
  revert h h0
  cases ls with
  | nil => intro _ h; exact absurd rfl h
  | cons a as =>
    intro h _ y hy
    rw [List.getD_cons_zero]
    rcases List.mem_cons.mp hy with e | hy
    · omega
    · exact Nat.le_of_lt ((List.pairwise_cons.mp h).1 y hy)
theorem rowN_succ (ru : Ru size ls) (n : Nat) {j : Nat} (hj : j < ls.length) : (∀ i, i < ls.length → (rowN size ls (n + 1)).getD j 0 ≤ (rowN size ls n).getD i 0 + (tlo size ls (ls.getD i 0) (ls.getD j 0) : Int)) ∧ ∃ i, i < ls.length ∧ (rowN size ls (n + 1)).getD j 0 = (rowN size ls n).getD i 0 + (tlo size ls (ls.getD i 0) (ls.getD j 0) : Int) := by
  have nxtD : (rowN size ls (n + 1)).getD j 0 = minI ((List.range ls.length).map fun i => (rowN size ls n).getD i 0 + (tlo size ls (ls.getD i 0) (ls.getD j 0) : Int)) := by
    show (ls.map _).getD j 0 = _
    rw [getD_map 0 hj]
  rw [nxtD]
  refine ⟨fun i hi => minI_le (List.mem_map.mpr ⟨i, List.mem_range.mpr hi, rfl⟩), ?_⟩
  have := minI_mem (range_ne (f := fun i => (rowN size ls n).getD i 0 + (tlo size ls (ls.getD i 0) (ls.getD j 0) : Int)) (List.length_pos_iff.mpr ru.ne))
  obtain ⟨i, hi, e⟩ := List.mem_map.mp this
  exact ⟨i, List.mem_range.mp hi, e.symm⟩
theorem leastE_le (n : Nat) {i : Nat} (hi : i < ls.length) : leastE size ls n ≤ (rowN size ls n).getD i 0 + (ls.getD i 0 : Int) :=
  minI_le (List.mem_map.mpr ⟨i, List.mem_range.mpr hi, rfl⟩)
theorem leastE_at (ru : Ru size ls) (n : Nat) : ∃ i, i < ls.length ∧ leastE size ls n = (rowN size ls n).getD i 0 + (ls.getD i 0 : Int) := by
  have := minI_mem (range_ne (f := fun i => (rowN size ls n).getD i 0 + (ls.getD i 0 : Int)) (List.length_pos_iff.mpr ru.ne))
  obtain ⟨i, hi, e⟩ := List.mem_map.mp this
  exact ⟨i, List.mem_range.mp hi, e.symm⟩
theorem tlo_two {x y : Nat} (ru : Ru size ls) (hx : x ∈ ls) (hy : y ∈ ls) : x + ls.getD 0 0 ≤ tlo size ls x y + y := by
  obtain ⟨_, _, c⟩ := tlo_bd ru hx hy
  have := first_le ru y hy
  omega
theorem leastE_succ (ru : Ru size ls) (n : Nat) : leastE size ls n + 1 ≤ leastE size ls (n + 1) ∧ leastE size ls n + (ls.getD 0 0 : Int) ≤ leastE size ls (n + 1) := by
  obtain ⟨j, hj, e⟩ := leastE_at ru (n + 1)
  obtain ⟨_, i, hi, e2⟩ := rowN_succ ru n hj
  have a := leastE_le (size := size) (ls := ls) n hi
  obtain ⟨b1, _, _⟩ := tlo_bd ru (getD_in ru hi) (getD_in ru hj)
  have b2 := tlo_two ru (getD_in ru hi) (getD_in ru hj)
  have b3 := (ru.bd _ (getD_in ru hi)).2
  omega
theorem leastE_zero (ru : Ru size ls) : leastE size ls 0 = (ls.getD 0 0 : Int) := by
  have z : ∀ i, i < ls.length → (rowN size ls 0).getD i 0 = 0 := fun i hi => by
    show (ls.map fun _ => (0 : Int)).getD i 0 = 0
    rw [getD_map 0 hi]
  obtain ⟨i, hi, e⟩ := leastE_at ru 0
  have a := leastE_le (size := size) (ls := ls) 0 (i := 0) (List.length_pos_iff.mpr ru.ne)
  have b := first_le ru _ (getD_in ru hi)
  rw [z 0 (List.length_pos_iff.mpr ru.ne)] at a
  rw [z i hi] at e
  omega
theorem first_pos (ru : Ru size ls) : 1 ≤ ls.getD 0 0 := (ru.bd _ (getD_in ru (List.length_pos_iff.mpr ru.ne))).1
theorem leastF_zero (ru : Ru size ls) (holds : Bool) : leastF size ls holds 0 = (ls.getD 0 0 : Int) := by
  unfold leastF
  cases holds with
  | true => exact leastE_zero ru
  | false => rfl
theorem leastF_succ (ru : Ru size ls) (holds : Bool) (n : Nat) : leastF size ls holds n + 1 ≤ leastF size ls holds (n + 1) := by
  unfold leastF
  cases holds with
  | true => exact (leastE_succ ru n).1
  | false =>
    show leastB size ls n + 1 ≤ leastB size ls (n + 1)
    unfold leastB
    rw [if_neg (by omega : ¬ n + 1 = 0)]
    by_cases z : n = 0
    · subst z
      rw [if_pos rfl]
      have := leastE_zero ru
      have := first_pos ru
      simp only [Nat.zero_add, Nat.sub_self]
      omega
    · rw [if_neg z]
      have := (leastE_succ ru (n - 1)).1
      rw [show n - 1 + 1 = n by omega] at this
      rw [Nat.add_sub_cancel]
      omega
theorem leastF_mono (ru : Ru size ls) (holds : Bool) (n : Nat) : ∀ d : Nat, leastF size ls holds n + d ≤ leastF size ls holds (n + d)
  | 0 => by simp
  | d + 1 => by
    have := leastF_mono ru holds n d
    have := leastF_succ ru holds (n + d)
    rw [← Nat.add_assoc]
    omega
theorem leastF_le (ru : Ru size ls) (holds : Bool) {n m : Nat} (h : n ≤ m) : leastF size ls holds n ≤ leastF size ls holds m := by
  have := leastF_mono ru holds n (m - n)
  rw [show n + (m - n) = m by omega] at this
  omega
/-- the greatest number up to b at which f is at most L -/
def topN (f : Nat → Int) (L : Int) : Nat → Nat
  | 0 => 0
  | b + 1 => if f (b + 1) ≤ L then b + 1 else topN f L b
theorem topN_le (f : Nat → Int) (L : Int) : ∀ b, topN f L b ≤ b
  | 0 => Nat.le_refl _
  | b + 1 => by
    unfold topN
    split
    · exact Nat.le_refl _
    · have := topN_le f L b; omega
theorem topN_at (f : Nat → Int) (L : Int) (h0 : f 0 ≤ L) : ∀ b, f (topN f L b) ≤ L
  | 0 => h0
  | b + 1 => by
    unfold topN
    split
    · assumption
    · exact topN_at f L h0 b
theorem topN_ge (f : Nat → Int) (L : Int) : ∀ b n, n ≤ b → f n ≤ L → n ≤ topN f L b
  | 0, n, h, _ => h
  | b + 1, n, h, e => by
    unfold topN
    split
    · exact h
    · rename_i hc
      by_cases z : n = b + 1
      · subst z; exact absurd e hc
      · exact topN_ge f L b n (by omega) e
/-- how many rotations fit within L -/
def cnt (size : Nat) (ls : List Nat) (holds : Bool) (L : Nat) : Nat := topN (leastF size ls holds) L L
theorem cnt_iff (ru : Ru size ls) {holds : Bool} {L : Nat} (h0 : ls.getD 0 0 ≤ L) (n : Nat) : leastF size ls holds n ≤ L ↔ n ≤ cnt size ls holds L := by
  have z := leastF_zero ru holds
  constructor
  · intro h
    refine topN_ge _ _ _ _ ?_ h
    have := leastF_mono ru holds 0 n
    rw [Nat.zero_add] at this
    omega
  · intro h
    have := topN_at (leastF size ls holds) L (by rw [z]; omega) L
    exact Int.le_trans (leastF_le ru holds h) this
def callN (size : Nat) (ls : List Nat) (forced : Nat) (holds : Bool) (L : Nat) : Nat := if L < ls.getD 0 0 then 0 else cnt size ls holds L + forced
theorem cnt_mono (ru : Ru size ls) {holds : Bool} {L L' : Nat} (h0 : ls.getD 0 0 ≤ L) (h : L ≤ L') : cnt size ls holds L ≤ cnt size ls holds L' := by
  have a := (cnt_iff ru h0 (cnt size ls holds L)).mpr (Nat.le_refl _)
  exact (cnt_iff ru (by omega) _).mp (by omega)
theorem callN_mono (ru : Ru size ls) {holds : Bool} {forced L L' : Nat} (h : L ≤ L') : callN size ls forced holds L ≤ callN size ls forced holds L' := by
  unfold callN
  by_cases z : L < ls.getD 0 0
  · rw [if_pos z]; omega
  · rw [if_neg z, if_neg (by omega)]
    have := cnt_mono ru (holds := holds) (by omega : ls.getD 0 0 ≤ L) h
    omega
theorem cnt_holds (ru : Ru size ls) {L : Nat} (h0 : ls.getD 0 0 ≤ L) : cnt size ls true L ≤ cnt size ls false L ∧ cnt size ls false L ≤ cnt size ls true L + 1 := by
  constructor
  · have a := (cnt_iff ru (holds := true) h0 (cnt size ls true L)).mpr (Nat.le_refl _)
    refine (cnt_iff ru h0 _).mp ?_
    generalize cnt size ls true L = n at a
    have a : leastE size ls n ≤ L := a
    show leastB size ls n ≤ L
    unfold leastB
    by_cases z : n = 0
    · rw [if_pos z]; omega
    · rw [if_neg z]
      have := (leastE_succ ru (n - 1)).2
      rw [show n - 1 + 1 = n by omega] at this
      omega
  · have a := (cnt_iff ru (holds := false) h0 (cnt size ls false L)).mpr (Nat.le_refl _)
    generalize cnt size ls false L = n at a ⊢
    by_cases z : n = 0
    · omega
    · have a : leastB size ls n ≤ L := a
      unfold leastB at a
      rw [if_neg z] at a
      have := (cnt_iff ru (holds := true) h0 (n - 1)).mp (by show leastE size ls (n - 1) ≤ L; omega)
      omega
end
end RL
namespace RL
open PySem L2
/-! the box that the laws draw from -/
def big : Nat := 10 ^ 300
abbrev Bx := Nat × Nat × Nat
abbrev boxM (p : Addr) (b : Bx) : Mem := [(p, .lst [natD b.1, natD b.2.1, natD b.2.2])]
structure BxOk (b : Bx) (n : Nat) : Prop where
  h1 : b.1 < big
  h2 : b.2.1 < 2 ^ 61
  h3 : b.2.2 ≤ n
def mixB (s c : Nat) : Nat :=
  (((s + 65557 * c * c + 19) * 48311 % 2305843009213693921) * (((s + 65557 * c * c + 19) * 48311 % 2305843009213693921) % 1000037 + 99989 * c)) % 2305843009213693907
def takeV (b : Bx) (m : Nat) : Nat := if 0 < b.1 then b.1 % m else (mixB b.2.1 (b.2.2 + 1) / 103 + mixB b.2.1 (b.2.2 + 1) / 1000003) % m
def takeS (b : Bx) (m : Nat) : Bx := if 0 < b.1 then (b.1 / m, b.2.1, b.2.2) else (b.1, b.2.1, b.2.2 + 1)
theorem takeV_lt (b : Bx) {m : Nat} (h : 0 < m) : takeV b m < m := by
  unfold takeV
  split
  · exact Nat.mod_lt _ h
  · exact Nat.mod_lt _ h
theorem takeS_ok {b : Bx} {n : Nat} (h : BxOk b n) (m : Nat) : BxOk (takeS b m) (n + 1) := by
  unfold takeS
  have := h.h3
  split
  · exact ⟨Nat.lt_of_le_of_lt (Nat.div_le_self _ _) h.h1, h.h2, by show b.2.2 ≤ n + 1; omega⟩
  · exact ⟨h.h1, h.h2, by show b.2.2 + 1 ≤ n + 1; omega⟩
theorem op_powW {X : Cx} : OpR X (binaryOp .Pow) (rI (fun i j => 0 ≤ j ∧ (Builtin.Int.intBits i : Int) * j ≤ 2 ^ 27) fun i j => .int (i ^ j.toNat)) := opI fun _ _ _ _ _ _ _ hc q => PyProof.Rows.pow_int hc.1 hc.2 q
theorem ev_pow {X : Cx} {a b : Expr} {ρ : Rho} {M M1 M2 : Mem} {pos : Pos} {i j : Int} (ha : EV X a ρ M (.int i) M1) (hb : EV X b ρ M1 (.int j) M2) (hc : 0 ≤ j ∧ (Builtin.Int.intBits i : Int) * j ≤ 2 ^ 27) : EV X (.BinOp a .Pow b pos) ρ M (.int (i ^ j.toNat)) M2 := ev_op op_powW ha hb (rs_intC hc fun _ => rep_int.mpr rfl)
/-- what a law finds in its script's k-th place -/
def cellOf (ns : List Int) (k : Nat) : Int := if k < ns.length then ns.getD k 0 else 29 * (k : Int) + 6
def boxOf (ns : List Int) (k : Nat) : Bx :=
  (((cellOf ns k).natAbs % big) * (if 10 ^ 18 ≤ (cellOf ns k).natAbs then 1 else 0), ((cellOf ns k % 2305843009213693951 * 70003 + 6011 * k * k + 61) % 2305843009213693921).toNat, 0)
theorem big_pos : 0 < big := by decide +kernel
theorem big_int : (((10 : Int) ^ (60 : Int).toNat) ^ (5 : Int).toNat) = (big : Int) := by decide +kernel
theorem boxOf_ok (ns : List Int) (k : Nat) : BxOk (boxOf ns k) 0 := by
  refine ⟨?_, ?_, Nat.le_refl _⟩
  · show _ * _ < _
    have : (cellOf ns k).natAbs % big < big := Nat.mod_lt _ big_pos
    by_cases h : 10 ^ 18 ≤ (cellOf ns k).natAbs
    · rw [if_pos h, Nat.mul_one]; exact this
    · rw [if_neg h, Nat.mul_zero]; exact big_pos
  · show Int.toNat _ < _
    have a := Int.emod_lt_of_pos ((cellOf ns k % 2305843009213693951 * 70003 + 6011 * k * k + 61)) (by decide : (0 : Int) < 2305843009213693921)
    have b := Int.emod_nonneg ((cellOf ns k % 2305843009213693951 * 70003 + 6011 * k * k + 61)) (by decide : (2305843009213693921 : Int) ≠ 0)
    omega
section
variable {X : Cx} {e : Expr} {ρ : Rho} {M M1 : Mem} {ds : List D}
/-- a new list that may change -/
theorem ev_new (h : FV X e ρ M ds M1) : EVp X e ρ M (fun d M' => ∃ p, p ∉ dm M1 ∧ d = .ref p ∧ M' = M1 ++ [(p, .lst ds)]) := fun σ S H Q hE hC hR =>
  h σ S H Q hE hC fun p vs S' H' s c n1 n2 n3 e1 r => by
    refine hR (.ref p) _ (.ref p) S' H' ⟨p, n3, rfl, rfl⟩ ⟨s.sub, s.frm, s.new, fun a ha => ?_, s.kp⟩ ⟨c.sub, ?_, fun q hq => ?_⟩ (rep_ref.mpr rfl)
    · rw [dm, List.map_append] at ha
      rcases List.mem_append.mp ha with ha | ha
      · exact s.dom a ha
      · have : a = p := by simpa using ha
        subst this
        exact .inr n1
    · rw [dm, List.map_append, List.nodup_append]
      refine ⟨c.nd, by simp, fun a ha b hb z => n3 ?_⟩
      have : b = p := by simpa using hb
      rw [← this, ← z]; exact ha
    · rcases List.mem_append.mp hq with hq | hq
      · exact c.mem q hq
      · have : q = (p, .lst ds) := by simpa using hq
        subst this
        exact ⟨n2, _, e1, vs, rfl, r⟩

theorem ev_newD {pos : Pos} : EVp X (.Dict [] [] pos) ρ M (fun d M' => ∃ p, p ∉ dm M ∧ d = .ref p ∧ M' = M ++ [(p, .dK [])]) := fun σ S H Q hE hC hR =>
  tE_of pe_dnewK fun p hp => by
    obtain ⟨c2, s2⟩ := cfg_mut (m := .dK []) hC hp ⟨[], rfl, reps_nil.mpr rfl⟩
    have hn : p ∉ dm M := fun hm => by
      obtain ⟨q, hq, z⟩ := List.mem_map.mp hm
      obtain ⟨_, u, y, _⟩ := hC.mem q hq
      rw [z, hp] at y; cases y
    exact hR (.ref p) _ (.ref p) S _ ⟨p, hn, rfl, rfl⟩ s2 c2 (rep_ref.mpr rfl)
/-- a, b = e1, e2, the second of several outcomes -/
theorem sv_parP {st : Stmt} {rest : List Stmt} {P : Post} {n m : Nat} {a b : Expr} {d1 : D} {R : D → Mem → Prop} (h : PS X st (tPar n m (tA X [a, b]))) (ha : EV X a ρ M d1 M1) (hb : EVp X b ρ M1 R) (k : ∀ d2 M2, R d2 M2 → SV X rest ((ρ.set n (some d1)).set m (some d2)) M2 P)
    (hs : starEach [a, b] X.env = (false, eval a X.env) :: starEach [b] X.env := by rfl) (hs2 : starEach [b] X.env = (false, eval b X.env) :: starEach [] X.env := by rfl) : SV X (st :: rest) ρ M P := fun σ S H E hE hC hF =>
  tSs_of (pss_cons psW pssW) (tSt_of h (tA_of (pa_cons peW (pa_cons peW pa_nil hs2) hs) (ha.use hE hC fun x S1 H1 s1 c1 r1 => hb σ S1 H1 _ (hE.mono s1.sub) c1 fun d2 M2 y S2 H2 p s2 c2 r2 =>
    ⟨x, y, rfl, k d2 M2 p _ S2 H2 E (((hE.mono (s1.sub.trans s2.sub)).set (r1.mono s2.sub) n).set r2 m) c2 (hF.after (s1.trans c1 s2) c2)⟩)))
end
/-! the books -/
def insN (fk : List Nat) (x : Nat) : List Nat := if x ∈ fk then fk else fk ++ [x]
abbrev kvB (fk : List Nat) : List (Key × D) := fk.map fun (x : Nat) => (Sum.inl (x : Int), D.bl true)
theorem kvB_put (fk : List Nat) (x : Nat) : putKD (kvB fk) (.inl (x : Int)) (.bl true) = kvB (insN fk x) := by
  unfold putKD insN
  have e : ((kvB fk).any fun kv => decide (kv.1 = (Sum.inl (x : Int) : Key))) = decide (x ∈ fk) := by
    rw [List.any_map, Bool.eq_iff_iff, List.any_eq_true, decide_eq_true_eq]
    constructor
    · rintro ⟨y, hy, z⟩
      have : (Sum.inl (y : Int) : Key) = Sum.inl (x : Int) := by simpa using z
      have : y = x := by injection this with h; omega
      rw [← this]; exact hy
    · intro h
      exact ⟨x, h, by simp⟩
  rw [e]
  by_cases h : x ∈ fk
  · rw [if_pos (decide_eq_true h), if_pos h, List.map_map]
    refine List.map_congr_left fun y _ => ?_
    show (if (Sum.inl (y : Int) : Key) = Sum.inl (x : Int) then ((Sum.inl (y : Int) : Key), D.bl true) else ((Sum.inl (y : Int) : Key), D.bl true)) = _
    split <;> rfl
  · rw [if_neg (by simpa using h), if_neg h]
    show kvB fk ++ [_] = List.map _ (fk ++ [x])
    rw [List.map_append]
    rfl
def nineB (size v : Nat) : List Nat := [1 + v, 1 + v, 1 + v, 1 + v, size / 2 + 1, 1, size, max 1 (size / 2), max 1 (size / 3)]
def turnB (size : Nat) (st : Bx × List Nat) : Bx × List Nat := (takeS (takeS st.1 size) 9, insN st.2 ((nineB size (takeV st.1 size)).getD (takeV (takeS st.1 size) 9) 0))
def iterB (size : Nat) : Nat → Bx × List Nat → Bx × List Nat
  | 0, st => st
  | n + 1, st => turnB size (iterB size n st)
def sortN (fk : List Nat) : List Nat := fk.mergeSort fun a b => decide (a ≤ b)
def bookSize (b : Bx) (t : Nat) : Nat := 1 + takeV b t
def bookIt (b : Bx) (t : Nat) : Bx × List Nat := iterB (bookSize b t) (1 + takeV (takeS b t) 6) (takeS (takeS b t) 6, [])
def bookLs (b : Bx) (t : Nat) : List Nat := sortN (bookIt b t).2
def bookS (b : Bx) (t : Nat) : Bx := (bookIt b t).1
theorem sortN_perm (fk : List Nat) : (sortN fk).Perm fk := List.mergeSort_perm fk _
theorem sortN_pw (fk : List Nat) : (sortN fk).Pairwise (· ≤ ·) := by
  have := List.pairwise_mergeSort (le := fun a b : Nat => decide (a ≤ b)) (fun a b c h1 h2 => by simp at h1 h2 ⊢; omega) (fun a b => by simp; omega) fk
  exact this.imp fun h => by simpa using h
theorem sortN_srt (fk : List Nat) : srt (fk.map fun (x : Nat) => (x : Int)) = (sortN fk).map fun (x : Nat) => (x : Int) := by
  symm
  refine srt_eq ((sortN_perm fk).map _) ?_
  rw [List.pairwise_map]
  exact (sortN_pw fk).imp fun h => by omega
structure ItOk (size n m : Nat) (st : Bx × List Nat) : Prop where
  b : BxOk st.1 m
  nd : st.2.Nodup
  len : st.2.length ≤ n
  pos : 0 < n → st.2 ≠ []
  bd : ∀ x ∈ st.2, 1 ≤ x ∧ x ≤ size
theorem nineB_bd {size v i : Nat} (hs : 1 ≤ size) (hv : v < size) (hi : i < 9) : 1 ≤ (nineB size v).getD i 0 ∧ (nineB size v).getD i 0 ≤ size := by
  have : i = 0 ∨ i = 1 ∨ i = 2 ∨ i = 3 ∨ i = 4 ∨ i = 5 ∨ i = 6 ∨ i = 7 ∨ i = 8 := by omega
  rcases this with e | e | e | e | e | e | e | e | e <;> subst e <;> simp only [nineB, List.getD_cons_zero, List.getD_cons_succ] <;> omega
theorem turnB_ok {size n m : Nat} {st : Bx × List Nat} (hs : 1 ≤ size) (h : ItOk size n m st) : ItOk size (n + 1) (m + 2) (turnB size st) := by
  obtain ⟨h1, h2, h3, h4, h5⟩ := h
  have hv := takeV_lt st.1 (m := size) (by omega)
  have hi := takeV_lt (takeS st.1 size) (m := 9) (by omega)
  have hb := nineB_bd hs hv hi
  refine ⟨takeS_ok (takeS_ok h1 size) 9, ?_, ?_, ?_, ?_⟩
  · show (insN st.2 _).Nodup
    unfold insN
    split
    · exact h2
    · rename_i hx
      rw [List.nodup_append]
      refine ⟨h2, by simp, fun a ha b hb e => hx ?_⟩
      have e2 : b = (nineB size (takeV st.1 size)).getD (takeV (takeS st.1 size) 9) 0 := by simpa using hb
      rw [← e2, ← e]; exact ha
  · show (insN st.2 _).length ≤ _
    unfold insN
    split
    · omega
    · rw [List.length_append, List.length_singleton]; omega
  · intro _
    show insN st.2 _ ≠ []
    unfold insN
    split
    · rename_i hx
      exact List.ne_nil_of_mem hx
    · intro e; simp at e
  · show ∀ x ∈ insN st.2 _, _
    unfold insN
    split
    · exact h5
    · intro y hy
      rcases List.mem_append.mp hy with z | z
      · exact h5 y z
      · have : y = (nineB size (takeV st.1 size)).getD (takeV (takeS st.1 size) 9) 0 := by simpa using z
        rw [this]; exact hb
theorem iterB_ok {size : Nat} {b : Bx} {m : Nat} (hs : 1 ≤ size) (hb : BxOk b m) : ∀ n, ItOk size n (m + 2 * n) (iterB size n (b, []))
  | 0 => ⟨hb, List.nodup_nil, Nat.le_refl _, fun h => absurd h (Nat.lt_irrefl _), fun x h => by cases h⟩
  | n + 1 => by
    have := turnB_ok hs (iterB_ok hs hb n)
    rw [show m + 2 * (n + 1) = m + 2 * n + 2 by omega]
    exact this
theorem bookIt_ok {b : Bx} {t m : Nat} (ok : BxOk b m) (ht : 0 < t) : ItOk (bookSize b t) (1 + takeV (takeS b t) 6) (m + 14) (bookIt b t) := by
  have h6 := takeV_lt (takeS b t) (m := 6) (by omega)
  have := iterB_ok (size := bookSize b t) (by unfold bookSize; omega) (takeS_ok (takeS_ok ok t) 6) (1 + takeV (takeS b t) 6)
  obtain ⟨a, b', c, d, e⟩ := this
  exact ⟨⟨a.h1, a.h2, by have := a.h3; show (iterB (bookSize b t) (1 + takeV (takeS b t) 6) (takeS (takeS b t) 6, [])).1.2.2 ≤ m + 14; omega⟩, b', c, d, e⟩
theorem book_ru {b : Bx} {t m : Nat} (ok : BxOk b m) (ht : 0 < t) (ht2 : t ≤ 100) : Ru (bookSize b t) (bookLs b t) := by
  obtain ⟨_, nd, len, pos, bd⟩ := bookIt_ok ok ht
  have h6 := takeV_lt (takeS b t) (m := 6) (by omega)
  have hv := takeV_lt b ht
  have pm := sortN_perm (bookIt b t).2
  refine ⟨by unfold bookSize; omega, by unfold bookSize; omega, fun e => ?_, ?_, ?_, fun l hl => bd l (pm.mem_iff.mp hl)⟩
  · refine pos (by omega) ?_
    unfold bookLs at e
    rw [e] at pm
    exact List.nil_perm.mp pm
  · unfold bookLs
    rw [pm.length_eq]
    omega
  · unfold bookLs
    have nd2 : (sortN (bookIt b t).2).Nodup := pm.nodup_iff.mpr nd
    have := (sortN_pw (bookIt b t).2).and nd2
    exact this.imp fun ⟨h1, h2⟩ => by omega
theorem bookS_ok {b : Bx} {t m : Nat} (ok : BxOk b m) (ht : 0 < t) : BxOk (bookS b t) (m + 14) := (bookIt_ok ok ht).b
end RL
namespace RL
open PySem L2
/-! == and != of data -/
mutual
def pd : D → PyData
  | .non => .none
  | .bl b => .bool b
  | .int i => .int i
  | .str x => .str x
  | .tup ds => .tuple (pds ds)
  | .lst ds => .list (pds ds)
  | .ref _ => .none
  | .ty _ => .none
  | .obj _ => .none
def pds : List D → List PyData
  | [] => []
  | d :: ds => pd d :: pds ds
end
mutual
/-- plain data, of nesting n at most -/
def flatD : Nat → D → Prop
  | _, .non => True
  | _, .bl _ => True
  | _, .int _ => True
  | _, .str x => PyData.canLay0 (.str x) = true
  | 0, .tup _ => False
  | n + 1, .tup ds => flatDs n ds
  | 0, .lst _ => False
  | n + 1, .lst ds => flatDs n ds
  | _, .ref _ => False
  | _, .ty _ => False
  | _, .obj _ => False
def flatDs : Nat → List D → Prop
  | _, [] => True
  | n, d :: ds => flatD n d ∧ flatDs n ds
end
mutual
theorem flat_lay : ∀ (d : D) (n : Nat), flatD n d → (pd d).canLay0 = true ∧ (pd d).depth ≤ n
  | .non, n, _ => by simp [pd, PyData.canLay0, PyData.depth]
  | .bl _, n, _ => by simp [pd, PyData.canLay0, PyData.depth]
  | .int _, n, _ => by simp [pd, PyData.canLay0, PyData.depth]
  | .str x, n, h => by
    simp only [flatD] at h
    simp only [pd, PyData.depth]
    exact ⟨h, Nat.zero_le _⟩
  | .tup ds, 0, h => by simp [flatD] at h
  | .tup ds, n + 1, h => by
    simp only [flatD] at h
    obtain ⟨a, b⟩ := flat_lays ds n h
    simp only [pd, PyData.canLay0, PyData.depth]
    exact ⟨a, by omega⟩
  | .lst ds, 0, h => by simp [flatD] at h
  | .lst ds, n + 1, h => by
    simp only [flatD] at h
    obtain ⟨a, b⟩ := flat_lays ds n h
    simp only [pd, PyData.canLay0, PyData.depth]
    exact ⟨a, by omega⟩
  | .ref _, n, h => by cases n <;> simp [flatD] at h
  | .ty _, n, h => by cases n <;> simp [flatD] at h
  | .obj _, n, h => by cases n <;> simp [flatD] at h
theorem flat_lays : ∀ (ds : List D) (n : Nat), flatDs n ds → PyData.canLayAll0 (pds ds) = true ∧ PyData.depthAll (pds ds) ≤ n
  | [], n, _ => by simp [pds, PyData.canLayAll0, PyData.depthAll]
  | d :: ds, n, h => by
    simp only [flatDs] at h
    obtain ⟨a, b⟩ := flat_lay d n h.1
    obtain ⟨c, e⟩ := flat_lays ds n h.2
    simp only [pds, PyData.canLayAll0, PyData.depthAll, a, c]
    exact ⟨rfl, by omega⟩
end
mutual
theorem rep_dp {K : Fg} {S H : Hp} {M : Mem} (c : Cfg K S M H) : ∀ (d : D) (n : Nat) (v : V), flatD n d → Rep K S d v → Dp K H v (pd d)
  | .non, n, v, _, r => by rw [rep_non.mp r]; simp only [pd]; exact .non
  | .bl b, n, v, _, r => by rw [rep_bl.mp r]; simp only [pd]; exact .bl b
  | .int i, n, v, _, r => by rw [rep_int.mp r]; simp only [pd]; exact .int i
  | .str x, n, v, _, r => by rw [rep_str.mp r]; simp only [pd]; exact .str x
  | .tup ds, 0, v, h, _ => by simp [flatD] at h
  | .tup ds, n + 1, v, h, r => by
    simp only [flatD] at h
    obtain ⟨a, vs, rfl, z, q⟩ := rep_tup.mp r
    simp only [pd]
    exact .tup (SqT.of (c.sub _ _ z)) (rep_dps c ds n vs h q)
  | .lst ds, 0, v, h, _ => by simp [flatD] at h
  | .lst ds, n + 1, v, h, r => by
    simp only [flatD] at h
    obtain ⟨a, vs, rfl, z, q⟩ := rep_lst.mp r
    simp only [pd]
    exact .lst (.of (c.sub _ _ z)) (rep_dps c ds n vs h q)
  | .ref _, n, v, h, _ => by cases n <;> simp [flatD] at h
  | .ty _, n, v, h, _ => by cases n <;> simp [flatD] at h
  | .obj _, n, v, h, _ => by cases n <;> simp [flatD] at h
theorem rep_dps {K : Fg} {S H : Hp} {M : Mem} (c : Cfg K S M H) : ∀ (ds : List D) (n : Nat) (vs : List V), flatDs n ds → Reps K S ds vs → DpAll K H vs (pds ds)
  | [], n, vs, _, r => by rw [reps_nil.mp r]; simp only [pds]; exact .nil
  | d :: ds, n, vs, h, r => by
    simp only [flatDs] at h
    obtain ⟨v, ws, rfl, q, r⟩ := reps_cons.mp r
    simp only [pds]
    exact .cons (rep_dp c d n v h.1 q) (rep_dps c ds n ws h.2 r)
end
theorem flatDs_map {α : Type} {f : α → D} {n : Nat} : ∀ {as : List α}, (∀ a ∈ as, flatD n (f a)) → flatDs n (as.map f)
  | [], _ => by simp [flatDs]
  | a :: as, h => by
    rw [List.map_cons]
    simp only [flatDs]
    exact ⟨h a List.mem_cons_self, flatDs_map fun b hb => h b (List.mem_cons_of_mem _ hb)⟩
theorem flat_ints (n : Nat) (ns : List Int) : flatD (n + 1) (.lst (ns.map D.int)) := by
  simp only [flatD]
  exact flatDs_map fun a _ => by cases n <;> simp [flatD]
theorem flat_intsT (n : Nat) (ns : List Int) : flatD (n + 1) (.tup (ns.map D.int)) := by
  simp only [flatD]
  exact flatDs_map fun a _ => by cases n <;> simp [flatD]
theorem flat_shaped {d : D} {n : Nat} (h : flatD n d) (hn : n ≤ 64) : SeqAt.shaped (pd d) = true := by
  obtain ⟨a, b⟩ := flat_lay d n h
  unfold SeqAt.shaped
  rw [a, decide_eq_true (by omega : (pd d).depth ≤ 64)]
  rfl
section
variable {X : Cx} {a b : Expr} {ρ : Rho} {M M1 M2 : Mem} {d d1 d2 : D} {pos : Pos}
theorem rs_neD {n m : Nat} (h1 : flatD n d1) (h2 : flatD m d2) (hn : n ≤ 64) (hm : m ≤ 64) : RS2 X.K (rNeD X.K) M d1 d2 (Out (.bl (!PyData.eqv (pd d1) (pd d2))) M) := fun S H x y Q c r1 r2 hR =>
  ⟨pd d1, pd d2, rep_dp c d1 n x h1 r1, rep_dp c d2 m y h2 r2, flat_shaped h1 hn, flat_shaped h2 hm, hR.id c (rep_bl.mpr rfl)⟩
theorem rs_eqD {n m : Nat} (h1 : flatD n d1) (h2 : flatD m d2) (hn : n ≤ 64) (hm : m ≤ 64) : RS2 X.K (rEqD X.K) M d1 d2 (Out (.bl (PyData.eqv (pd d1) (pd d2))) M) := fun S H x y Q c r1 r2 hR =>
  ⟨pd d1, pd d2, rep_dp c d1 n x h1 r1, rep_dp c d2 m y h2 r2, flat_shaped h1 hn, flat_shaped h2 hm, hR.id c (rep_bl.mpr rfl)⟩
/-- two equal data: != is False, == is True -/
theorem tv_ne0 {n : Nat} (hu : X.A.units + 64 < cLine) (ha : EV X a ρ M d M1) (hb : EV X b ρ M1 d M2) (h : flatD n d) (hn : n ≤ 64) : TV X (.Compare a [.NotEq] [b] pos) ρ M false M2 :=
  TV.eq (tv_cmp (op_neD hu) (nomark _) ha hb (rs_neD h h hn hn)) (by rw [SeqAt.eqv_refl _ (flat_lay d n h).1]; rfl)
theorem tv_eq1 {n : Nat} (hu : X.A.units + 64 < cLine) (ha : EV X a ρ M d M1) (hb : EV X b ρ M1 d M2) (h : flatD n d) (hn : n ≤ 64) : TV X (.Compare a [.Eq] [b] pos) ρ M true M2 :=
  TV.eq (tv_cmp (op_eqD hu) (nomark _) ha hb (rs_eqD h h hn hn)) (SeqAt.eqv_refl _ (flat_lay d n h).1)
end
theorem hu64 {A : Around} {k : Nat} (hr : Room k A) : A.units + 64 < cLine := hr.units
end RL
namespace RL
open PySem L2
section
variable {X : Cx} {e a : Expr} {ρ : Rho} {M M1 : Mem}
/-- f(e), e of several outcomes; the callee sees the whole store -/
theorem ev_callP {f : Spec} {E : XK} {R0 R : D → Mem → Prop} (h : PE X e (tCall (mk X.K f) [] E (tA X [a]))) (ha : EVp X a ρ M R0) (k : ∀ d M1, R0 d M1 → f [d] M1 R) (hs : starEach [a] X.env = (false, eval a X.env) :: starEach [] X.env := by rfl) : EVp X e ρ M R := fun σ S H Q hE hC hR =>
  tE_of h (tA_of (pa_cons peW pa_nil hs) (ha σ S H _ hE hC fun d M1 y S1 H1 p s1 c1 r1 => by
    have hM : M1 = M1 ++ [] := by rw [List.append_nil]
    have c1' : Cfg X.K S1 (M1 ++ []) H1 := by rw [← hM]; exact c1
    have s1' : Step M S H (M1 ++ []) S1 H1 := by rw [← hM]; exact s1
    refine mk_use (XE := E) (ds := [d]) s1' c1' (.one r1) (k d M1 p) (hR.imp fun d' M' ⟨Mf', z, e3⟩ => ?_)
    rw [List.append_nil] at e3
    rw [e3]; exact z))
theorem ev_dropP {R : D → Mem → Prop} (k : Nat) (h : EVp X e ρ M R) : EVp X e ρ M (fun d M' => ∃ M0, R d M0 ∧ M' = M0.take k) := fun σ S H Q hE hC hR =>
  h σ S H Q hE hC fun d M1 v S1 H1 p s1 c1 r1 => hR d _ v S1 H1 ⟨M1, p, rfl⟩ (step_take k s1) (cfg_take k c1) r1
end
/-- what a law promises -/
def spLaw (K : Fg) : Sp := fun vs H Q _ => ∃ (a : Addr) (ns : List Int), vs = [.ref a] ∧ SqL K H a (ns.map V.int) ∧ ns.length ≤ 63 ∧ ∀ H', Q (.bl true) H'
def spLawD (K : Fg) : Spec := fun ds M R => ∃ ns : List Int, ns.length ≤ 63 ∧ ds = [.obj (scrOT K ns)] ∧ M = [] ∧ R = Out (.bl true) []
theorem law_ok {P : Program} {w : World} {K : Fg} {mg : Str → Option Value} {base : Heap} {k : Nat} {f : Addr} {fd : FuncData} {ps : List Str} (h : FnOk P w K mg base CX0 k f fd ps (mk K (spLawD K))) : FnOk P w K mg base CX0 k f fd ps (spLaw K) := by
  refine h.imp ?_
  · rintro vs H Q E ⟨a, ns, rfl, hs, hl, q⟩
    refine ⟨H, [.obj (scrOT K ns)], [], _, .one (rep_obj.mpr ⟨a, rfl, hs⟩), ⟨Same.refl _, List.nodup_nil, fun p hp => by cases hp⟩, ⟨ns, hl, rfl, rfl, rfl⟩, ?_⟩
    rintro d M' v S' H' ⟨rfl, rfl⟩ _ _ r
    rw [rep_bl.mp r]
    exact q H'
/-- the box behind i takes -/
def tks (b : Bx) (m : Nat) : Nat → Bx
  | 0 => b
  | i + 1 => takeS (tks b m i) m
theorem tks_ok {b : Bx} {n : Nat} (h : BxOk b n) (m : Nat) : ∀ i, BxOk (tks b m i) (n + i)
  | 0 => h
  | i + 1 => takeS_ok (tks_ok h m i) m
end RL
namespace RL
open PySem L2
/-! name = [..] on one line -/
/-- a reading that gives a new list -/
def FVt (K : Fg) (t : TE) (ρ : Rho) (M : Mem) (ds : List D) (M' : Mem) : Prop :=
  ∀ σ S H Q, EnvR K S σ ρ → Cfg K S M H →
    (∀ p vs S' H', Step M S H M' S' H' → Cfg K S' M' H' → H p = none → S' p = none → p ∉ dm M' → H' p = some (.lst vs) → Reps K S' ds vs → Q (.ref p) H') → t σ H Q
section
variable {X : Cx} {e a b c tg iter elt tst : Expr} {es : List Expr} {st : Stmt} {rest body els : List Stmt} {ρ ρ1 : Rho} {M M1 M2 M3 : Mem} {d d1 d2 d3 : D} {ds ds2 : List D} {P : Post} {pos p1 p2 : Pos} {i j : Int} {x : Str} {scope : Scope} {vs : List Nat}
theorem fvt_lc (t : Tg) {n : Nat} {xs ys : Nat → D} (hsl : ∀ i ∈ t.sl, i ∈ vs) (hi : IV X tg iter ρ M n xs M1) (hn : n ≤ sizeLine) (Mf : Nat → Mem) (m0 : Mf 0 = M1) (hf : ∀ i, i < n → t.fits (xs i))
    (turn : ∀ i, i < n → EVb X scope elt (t.put (wipeR ρ vs) (xs i)) (Mf i) (ys i) (Mf (i + 1))) : FVt X.K (tLc (tI X tg iter) (t.t X.K) tYes (tEb X scope elt) vs) ρ M ((List.range n).map ys) (Mf n) := fun σ S H Q hE hC hR =>
  (hi σ S H _ hE hC fun J S1 H1 s1 c1 yl L hL => by
    have hH : H L = none := s1.kp L hL
    refine ⟨fun i m H' => m = n - i ∧ i ≤ n ∧ Acc X.K M S H S1 L ((List.range i).map ys) (Mf i) H', ⟨n, rfl, Nat.zero_le _, by rw [m0]; exact Acc.new s1 c1 hL⟩, ?_⟩
    rintro i m H' ⟨rfl, hin, ⟨S', acc, c', st', ss, h1, h2, h3, r⟩⟩
    by_cases hlt : i < n
    · obtain ⟨hgo, hy⟩ := (yl S' (Mf i) H' ss c' i).1 hlt
      refine .inr ⟨hgo, fun H2 => Acc X.K M S H S1 L ((List.range (i + 1)).map ys) (Mf (i + 1)) H2, fun H2 z => ⟨n - (i + 1), by omega, rfl, hlt, z⟩, fun x H2 y => ?_⟩
      obtain ⟨S2, s2, c2, r2⟩ := hy x H2 y
      obtain ⟨g1, g2, g3, g4, g5, g6⟩ := Acc.turn c' st' ss h1 h2 h3 r c2 s2
      refine t.use ((hE.mono (s1.sub.trans (ss.trans s2.sub))).wipe vs) c2 r2 (hf i hlt) fun σ3 e3 w3 => ⟨(w3 vs hsl).trans (wipe_wipe σ vs), fun s0 H0 C cl fp => (turn i hlt s0 H0 C cl fp).use e3 c2 fun v S3 H3 s3 c3 r3 => ?_⟩
      obtain ⟨k1, k2, k3, k4, k5, k6⟩ := Acc.turn c2 g5 g6 g1 g2 g3 g4 c3 s3
      refine ⟨acc, k1, ?_, ?_⟩
      · have := r.length
        rw [List.length_map, List.length_range] at this
        omega
      · rw [List.range_succ, List.map_append]
        exact Acc.put hH c3 k1 k2 k3 k4 k5 k6 r3
    · have e : i = n := by omega
      subst e
      exact .inl ⟨(yl S' (Mf i) H' ss c' i).2 (Nat.le_refl _), hR L acc S' H' st' c' hH h2 h3 h1 r⟩)
theorem fvt_lcF (t : Tg) {n : Nat} {xs ys : Nat → D} {ks : Nat → Bool} (hsl : ∀ i ∈ t.sl, i ∈ vs) (hi : IV X tg iter ρ M n xs M1) (hn : n ≤ sizeLine) (hf : ∀ i, i < n → t.fits (xs i))
    (turn : ∀ i, i < n → TVb X scope tst (t.put (wipeR ρ vs) (xs i)) M1 (ks i) M1 ∧ (ks i = true → EVb X scope elt (t.put (wipeR ρ vs) (xs i)) M1 (ys i) M1)) : FVt X.K (tLc (tI X tg iter) (t.t X.K) (tTb X scope tst) (tEb X scope elt) vs) ρ M (((List.range n).filter ks).map ys) M1 := fun σ S H Q hE hC hR =>
  (hi σ S H _ hE hC fun J S1 H1 s1 c1 yl L hL => by
    have hH : H L = none := s1.kp L hL
    refine ⟨fun i m H' => m = n - i ∧ i ≤ n ∧ Acc X.K M S H S1 L (((List.range i).filter ks).map ys) M1 H', ⟨n, rfl, Nat.zero_le _, Acc.new s1 c1 hL⟩, ?_⟩
    rintro i m H' ⟨rfl, hin, ⟨S', acc, c', st', ss, h1, h2, h3, r⟩⟩
    by_cases hlt : i < n
    · obtain ⟨hgo, hy⟩ := (yl S' M1 H' ss c' i).1 hlt
      refine .inr ⟨hgo, fun H2 => Acc X.K M S H S1 L (((List.range (i + 1)).filter ks).map ys) M1 H2, fun H2 z => ⟨n - (i + 1), by omega, rfl, hlt, z⟩, fun x H2 y => ?_⟩
      obtain ⟨S2, s2, c2, r2⟩ := hy x H2 y
      obtain ⟨g1, g2, g3, g4, g5, g6⟩ := Acc.turn c' st' ss h1 h2 h3 r c2 s2
      obtain ⟨tt, te⟩ := turn i hlt
      refine t.use ((hE.mono (s1.sub.trans (ss.trans s2.sub))).wipe vs) c2 r2 (hf i hlt) fun σ3 e3 w3 => ⟨(w3 vs hsl).trans (wipe_wipe σ vs), fun s0 H0 C cl fp => tt s0 H0 C cl fp σ3 S2 H2 _ e3 c2 fun S3 H3 s3 c3 => ?_⟩
      obtain ⟨k1, k2, k3, k4, k5, k6⟩ := Acc.turn c2 g5 g6 g1 g2 g3 g4 c3 s3
      rw [List.range_succ, List.filter_append]
      cases hk : ks i with
      | true =>
        rw [if_pos rfl]
        refine fun s0 H0 C cl fp => (te hk s0 H0 C cl fp).use (e3.mono s3.sub) c3 fun v S4 H4 s4 c4 r4 => ?_
        obtain ⟨l1, l2, l3, l4, l5, l6⟩ := Acc.turn c3 k5 k6 k1 k2 k3 k4 c4 s4
        refine ⟨acc, l1, ?_, ?_⟩
        · have q := r.length
          rw [List.length_map] at q
          have := List.length_filter_le ks (List.range i)
          rw [List.length_range] at this
          omega
        · rw [List.filter_cons, if_pos hk, List.filter_nil, List.map_append]
          exact Acc.put hH c4 l1 l2 l3 l4 l5 l6 r4
      | false =>
        rw [if_neg Bool.false_ne_true, List.filter_cons, if_neg (by rw [hk]; decide), List.filter_nil, List.append_nil]
        exact ⟨S3, acc, c3, k5, k6, k1, k2, k3, k4⟩
    · have e : i = n := by omega
      subst e
      exact .inl ⟨(yl S' M1 H' ss c' i).2 (Nat.le_refl _), hR L acc S' H' st' c' hH h2 h3 h1 r⟩)


theorem sv_setLc {n : Nat} {t : TE} (h : PS X st (tAsg t (gName n))) (he : FVt X.K t ρ M ds M1) (k : SV X rest (ρ.set n (some (.lst ds))) M1 P) : SV X (st :: rest) ρ M P := fun σ S H E hE hC hF =>
  tSs_of (pss_cons psW pssW) (tSt_of h (he σ S H _ hE hC fun p vs S' H' st c n1 n2 n3 e1 r => by
    have hs : Same S' (upd S' p (.lst vs)) := fun a u z => by rw [upd_ne (ne_of_none z n2)]; exact z
    have st2 : Step M S H M1 (upd S' p (.lst vs)) H' := ⟨st.sub.trans hs, st.frm, fun a n q => by
      by_cases ha : a = p
      · subst ha; exact .inl n1
      · rw [upd_ne ha] at q; exact st.new a n q, st.dom, st.kp⟩
    have c2 : Cfg X.K (upd S' p (.lst vs)) M1 H' := ⟨fun a o z => by
      by_cases ha : a = p
      · subst ha; rw [upd_same] at z; rw [← z]; exact e1
      · rw [upd_ne ha] at z; exact c.sub a o z, c.nd, fun q hq => by
      obtain ⟨m1, o, m2, m3⟩ := c.mem q hq
      refine ⟨?_, o, m2, m3.mono hs⟩
      rw [upd_ne (fun z => n3 (by rw [← z]; exact List.mem_map.mpr ⟨q, hq, rfl⟩))]
      exact m1⟩
    exact k _ _ H' E ((hE.mono st2.sub).set (rep_lst.mpr ⟨p, vs, rfl, upd_same, r.mono hs⟩) n) c2 (hF.after st2 c2)))
end
end RL
namespace RL
open PySem L2
def top (i : Nat) : Stmt := PySem.Challenge.pw_rotatedlogs_k22_demands_that_rise.main.body.getD i (.Pass ⟨0, 0, 0, 0⟩)
abbrev sLL : Stmt := top 2
abbrev sTF : Stmt := top 3
abbrev sTU : Stmt := top 4
structure Bl (mg : Str → Option Value) : Prop where
  len : mg "len" = none
  range : mg "range" = none
  tuple : mg "tuple" = none
  list : mg "list" = none
  zip : mg "zip" = none
  min : mg "min" = none
  max : mg "max" = none
  abs : mg "abs" = none
  int : mg "int" = none
  all : mg "all" = none
  sorted : mg "sorted" = none
section
variable {P : Program} {w : World} {K : Fg} {mg : Str → Option Value} {base : Heap}
abbrev scLL : FnScope ["rules", "first", "size", "lengths", "found", "total", "length"] ["rules", "first"] (defScope sLL) := ⟨rfl, rfl, rfl, by decide +kernel, rfl, by decide +kernel, by decide +kernel⟩
abbrev lastsD (size : Nat) (ls : List Nat) (x : Nat) : List D := (List.range (size + 1)).map fun t => optD (lastL ls x t)
def spLL : Spec := fun ds M R => ∃ size ls x, Ru size ls ∧ x ∈ ls ∧ ds = [rulesD size ls, natD x] ∧ M = [] ∧ R = Out (.lst (lastsD size ls x)) []
abbrev rhoLL (size : Nat) (ls : List Nat) (x : Nat) (p : Addr) : Rho := [some (rulesD size ls), some (natD x), some (natD size), some (tupN ls), some (.ref p), none, none]
def tabL (size : Nat) (ls : List Nat) (x i : Nat) : List D := (List.range (size + 1)).map fun t => if t ≤ x + i then optD (lastL ls x t) else .non
theorem tabL_get {size : Nat} {ls : List Nat} {x i t : Nat} (h : t ≤ size) : (tabL size ls x i)[t]? = some (if t ≤ x + i then optD (lastL ls x t) else .non) := by
  unfold tabL
  rw [List.getElem?_map, List.getElem?_range (by omega)]
  rfl
theorem set_same {α : Type} {as : List α} {n : Nat} {a : α} (h : as[n]? = some a) : as.set n a = as := by
  refine List.ext_getElem? fun j => ?_
  by_cases e : n = j
  · subst e
    rw [List.getElem?_set_self (List.getElem?_eq_some_iff.mp h).1, h]
  · rw [List.getElem?_set_ne e]
theorem tabL_succ {size : Nat} {ls : List Nat} {x i : Nat} : (tabL size ls x i).set (x + 1 + i) (optD (lastL ls x (x + 1 + i))) = tabL size ls x (i + 1) := by
  refine List.ext_getElem? fun j => ?_
  by_cases hj : j ≤ size
  · by_cases e : x + 1 + i = j
    · subst e
      rw [List.getElem?_set_self (by unfold tabL; simp; omega), tabL_get hj, if_pos (by omega)]
    · rw [List.getElem?_set_ne e, tabL_get hj, tabL_get hj]
      by_cases q : j ≤ x + i
      · rw [if_pos q, if_pos (by omega)]
      · rw [if_neg q, if_neg (by omega)]
  · rw [List.getElem?_eq_none_iff.mpr (by unfold tabL; simp; omega), List.getElem?_eq_none_iff.mpr (by unfold tabL; simp; omega)]
theorem isNon_optD (o : Option Nat) : isNon (optD o) = !o.isSome := by cases o <;> rfl
theorem ixN_n {n j : Nat} {i : Int} (h : j < n) (e : i = (j : Int)) : ixN n i = some j := by
  subst e
  unfold ixN
  rw [if_pos (by omega), if_pos (by omega)]
  simp
theorem rep_one (n : Nat) (d : D) : (List.replicate n [d]).flatten = List.replicate n d := by
  induction n with
  | zero => rfl
  | succ n ih => rw [List.replicate_succ, List.flatten_cons, ih]; rfl
theorem ok_LL {f : Addr} {fd : FuncData} (F : Fun K "last_lines" "last_lines" sLL f fd) (T : Bl mg) : FnOk P w K mg base CX0 1 f fd ["rules", "first"] (mk K spLL) := by
  refine fn_ok F scLL (fun ds M R ⟨_, _, _, _, _, e, _⟩ => by rw [e]; rfl) (fun cdv A outer s H E hr ds M R ⟨size, ls, x, r, hx, e1, e0, e2⟩ => ?_)
  subst e1 e0 e2
  obtain ⟨x1, x2⟩ := r.bd x hx
  have s1 := r.s1
  have s2 := r.s2
  -- size, lengths = rules
  refine sv_asg (.tp [2, 3]) (ps_asg peW (pg_tup rfl (pgs_cons (pg_name (i := 2) scLL.nd rfl (by first | exact Or.inl rfl | exact Or.inr rfl)) (pgs_cons (pg_name (i := 3) scLL.nd rfl (by first | exact Or.inl rfl | exact Or.inr rfl)) pgs_nil)))) (ev_var (pv 0) rfl) rfl ?_
  -- found = [None] * (size + 1)
  refine sv_setN (n := 4) (ps_set (i := 4) scLL.nd rfl (by first | exact Or.inl rfl | exact Or.inr rfl) peW) (fv_rep (ev_fv (fv_lst (av_cons (ev_non) av_nil) (by decide))) (ev_add (ev_var (pv 2) rfl) (ev_int)) .dat ?_ ?_ ?_) ?_
  · omega
  · omega
  · have : sizeLine = 16777216 := by decide
    simp only [List.length_singleton]
    omega
  intro p_found hp_found
  -- found[first] = first
  refine sv_setL (ps_asg peW (pg_sub peW peW set_list)) (ev_var (pv 1) rfl) (ev_var (pv 4) rfl) (ev_var (pv 1) rfl) (kk := 0) rfl (n := x) ?_ ?_
  · exact ixN_n (by rw [rep_one, List.length_replicate]; omega) rfl
  -- the two loops
  have hlen : ∀ i, (tabL size ls x i).length = size + 1 := fun i => by unfold tabL; simp
  refine SV.to (ρ := rhoLL size ls x p_found) (M := [(p_found, .lst (tabL size ls x 0))]) rfl ?_ ?_
  · show [(p_found, MO.lst _)] = [(p_found, MO.lst _)]
    congr 3
    rw [rep_one]
    refine List.ext_getElem? fun j => ?_
    by_cases hj : j ≤ size
    · rw [tabL_get hj]
      by_cases e : x = j
      · subst e
        rw [List.getElem?_set_self (by simp; omega), if_pos (by omega), lastL_eq]
        rfl
      · rw [List.getElem?_set_ne e, List.getElem?_replicate, if_pos (by omega)]
        by_cases q : j ≤ x + 0
        · rw [if_pos q, lastL_lt (by omega)]
          rfl
        · rw [if_neg q]
    · rw [List.getElem?_eq_none_iff.mpr (by simp; omega), List.getElem?_eq_none_iff.mpr (by unfold tabL; simp; omega)]
  refine sv_for (.nm 5) (ps_for PassesOwn.never rfl piW (pg_name (i := 5) scLL.nd rfl (by first | exact Or.inl rfl | exact Or.inr rfl)) pssW) (iv_range2 (pi_range2 rfl T.range paW) (av_cons (ev_add (ev_var (pv 1) rfl) (ev_int)) (av_cons (ev_add (ev_var (pv 2) rfl) (ev_int)) av_nil)) ?_)
    (fun _ => rhoLL size ls x p_found) (fun i => [(p_found, .lst (tabL size ls x i))]) (wk_refl _) rfl (fun i hi => trivial) (fun i hi => ?_) ?_
  · omega
  · have hi' : i + x < size := by omega
    refine sv_for (.nm 6) (ps_for PassesOwn.never rfl piW (pg_name (i := 6) scLL.nd rfl (by first | exact Or.inl rfl | exact Or.inr rfl)) pssW) (iv_tupM 0 (ev_var (pv 3) rfl))
      (fun _ => (rhoLL size ls x p_found).set 5 (some (.int ((x : Int) + 1 + i)))) (fun j => [(p_found, .lst ((tabL size ls x i).set (x + 1 + i) (optD ((ls.take j).foldl (stepL ls x (x + 1 + i)) none))))]) (wk_refl _) ?_ (fun i hi => trivial) (fun j hj => ?_) ?_
    · show [(p_found, MO.lst _)] = [(p_found, MO.lst _)]
      rw [set_same]
      rw [tabL_get (by omega), if_neg (by omega)]
      rfl
    · have hlj : ls.getD j 0 ∈ ls := by
        rw [List.getD_eq_getElem?_getD, List.getElem?_eq_getElem hj]
        exact List.getElem_mem hj
      obtain ⟨l1, l2⟩ := r.bd _ hlj
      have htake : ls.take (j + 1) = ls.take j ++ [ls.getD j 0] := by
        rw [List.take_add_one, List.getD_eq_getElem?_getD, List.getElem?_eq_getElem hj]
        rfl
      generalize hl : ls.getD j 0 = l at hlj l1 l2 htake
      refine sv_one (s1_if (tv_w (wv_and (tv_le (ev_var (pv 6) rfl) (ev_var (pv 5) rfl)) (fun hb => wv_and1 (tv_notN (ev_ixL (d := optD (lastL ls x (x + 1 + i - l))) (ev_var (pv 4) rfl) (ev_sub (ev_var (pv 5) rfl) (ev_var (pv 6) rfl)) (.lst (.own (k := 0) rfl)) ?_))))) (fun hc => ?_) (fun hc => ?_))
      · have hle : (l : Int) ≤ x + 1 + i := by simpa using hb
        refine at_nat (j := x + 1 + i - l) ?_ (by omega)
        rw [List.getElem?_set_ne (by omega), tabL_get (by omega), if_pos (by omega)]
      · refine sv_setL (ps_asg peW (pg_sub peW peW set_list)) (ev_var (pv 6) rfl) (ev_var (pv 4) rfl) (ev_var (pv 5) rfl) (kk := 0) rfl (n := x + 1 + i) ?_ ?_
        · exact ixN_n (by rw [List.length_set, hlen]; omega) (by omega)
        · refine sv_nil ⟨⟨rfl, rfl, rfl, rfl, rfl, rfl, trivial⟩, ?_⟩
          show [(p_found, MO.lst _)] = [(p_found, MO.lst _)]
          rw [List.set_set, htake, List.foldl_append, List.foldl_cons, List.foldl_nil]
          rw [isNon_optD] at hc
          have hle : l ≤ x + 1 + i ∧ (lastL ls x (x + 1 + i - l)).isSome = true := by
            simp at hc
            exact ⟨by omega, hc.2⟩
          rw [show stepL ls x (x + 1 + i) ((ls.take j).foldl (stepL ls x (x + 1 + i)) none) l = some l from if_pos hle]
          rfl
      · refine sv_nil ⟨⟨rfl, rfl, rfl, rfl, rfl, rfl, trivial⟩, ?_⟩
        show [(p_found, MO.lst _)] = [(p_found, MO.lst _)]
        rw [htake, List.foldl_append, List.foldl_cons, List.foldl_nil]
        rw [isNon_optD] at hc
        have hle : ¬ (l ≤ x + 1 + i ∧ (lastL ls x (x + 1 + i - l)).isSome = true) := by
          simp at hc
          rintro ⟨h1, h2⟩
          rw [hc (by omega)] at h2
          cases h2
        rw [show stepL ls x (x + 1 + i) ((ls.take j).foldl (stepL ls x (x + 1 + i)) none) l = ((ls.take j).foldl (stepL ls x (x + 1 + i)) none) from if_neg hle]
    · refine sv_nil ⟨⟨rfl, rfl, rfl, rfl, rfl, trivial⟩, ?_⟩
      show [(p_found, MO.lst _)] = [(p_found, MO.lst _)]
      rw [List.take_length, ← lastL_gt (by omega) fun l hl => (r.bd l hl).1, tabL_succ]
  · refine sv_retE (ev_frz (k := 0) (ev_var (pv 4) rfl) rfl) ?_
    refine ⟨?_, rfl⟩
    congr 1
    unfold tabL lastsD
    refine List.map_congr_left fun t ht => ?_
    rw [List.mem_range] at ht
    rw [if_pos (by omega)]

/-! totals_for -/
abbrev nTF : List Str := ["lasts", "later", "size", "total"]
abbrev scTF : FnScope nTF ["lasts", "later"] (defScope sTF) := ⟨rfl, rfl, rfl, by decide +kernel, rfl, by decide +kernel, by decide +kernel⟩
def spTF : Spec := fun ds M R => ∃ size ls x y, Ru size ls ∧ x ∈ ls ∧ y ∈ ls ∧ ds = [.lst (lastsD size ls x), natD y] ∧ M = [] ∧ R = Out (.lst ((totF size ls x y).map natD)) []
theorem ok_TF {f : Addr} {fd : FuncData} (F : Fun K "totals_for" "totals_for" sTF f fd) (T : Bl mg) : FnOk P w K mg base CX0 1 f fd ["lasts", "later"] (mk K spTF) := by
  refine fn_ok F scTF (fun ds M R ⟨_, _, _, _, _, _, _, e, _⟩ => by rw [e]; rfl) (fun cdv A outer s H E hr ds M R ⟨size, ls, x, y, r, hx, hy, e1, e0, e2⟩ => ?_)
  subst e1 e0 e2
  have s2 := r.s2
  obtain ⟨y1, y2⟩ := r.bd y hy
  -- size = len(lasts) - 1
  refine sv_set (n := 2) (ps_set (i := 2) scTF.nd rfl (by first | exact Or.inl rfl | exact Or.inr rfl) peW) (EV.eq (d' := natD size) (ev_sub (ev_cb (pe_callB call_len_seq (by rfl) T.len PySem.boot_len paW) (av_cons (ev_var (pv 0) rfl) av_nil) (rs_lenL (.lst .dat))) (ev_int)) (by simp) rfl) ?_
  -- return [total for total in range(size - later + 1, size + 1) if lasts[total] is not None]
  refine sv_retE (ev_fv (fv_lcF (.nm 3) (ks := fun i => can ls x (size - y + 1 + i)) (ys := fun i => natD (size - y + 1 + i)) (pe_lc (own := [("total", 3)]) (g := Tg.t _ (.nm 3)) rfl scTF.nd piW (blkOk_by (N := nTF) (sc := defScope sTF) (by decide +kernel)) (fun _ _ _ _ _ => pg_name (i := 3) scTF.nd rfl (by first | exact Or.inl rfl | exact Or.inr rfl)) (fun s H C cl fp => pts_one (ptB s H C cl fp)) peB) (by simp [Tg.sl])
    (IV.cg (n' := y) (ys := fun i => natD (size - y + 1 + i)) (iv_range2 (pi_range2 rfl T.range paW) (av_cons (ev_add (ev_sub (ev_var (pv 2) rfl) (ev_var (pv 1) rfl)) (ev_int)) (av_cons (ev_add (ev_var (pv 2) rfl) (ev_int)) av_nil)) ?_) (by omega) (fun i hi => by congr 1; omega)) ?_ (fun i hi => trivial)
    (fun i hi => ⟨fun s H C cl fp => TV.eq (tv_notN (ev_ixL (d := optD (lastL ls x (size - y + 1 + i))) (ev_var (pv 0) rfl) (ev_var (pv 3) rfl) (.lst .dat) ?_)) ?_, fun hk s H C cl fp => ev_var (pv 3) rfl⟩))) ?_
  · omega
  · have : sizeLine = 16777216 := by decide
    omega
  · refine at_nat (j := size - y + 1 + i) ?_ rfl
    unfold lastsD
    rw [List.getElem?_map, List.getElem?_range (by omega)]
    rfl
  · rw [isNon_optD, Bool.not_not]; rfl
  · refine ⟨?_, rfl⟩
    unfold totF
    rw [List.filter_map, List.map_map]
    rfl

/-! turns -/
abbrev scTU : FnScope ["rules", "found", "first", "lasts", "later", "totals"] ["rules"] (defScope sTU) := ⟨rfl, rfl, rfl, by decide +kernel, rfl, by decide +kernel, by decide +kernel⟩
abbrev turnD (size : Nat) (ls : List Nat) (x y : Nat) : D := .tup [natD x, natD y, natD (tlo size ls x y), natD (thi size ls x y)]
/-- the turns of the first i lines, all others behind -/
def turnsL (size : Nat) (ls xs : List Nat) : List D := (xs.map fun x => ls.map fun y => turnD size ls x y).flatten
def spTU : Spec := fun ds M R => ∃ size ls, Ru size ls ∧ ds = [rulesD size ls] ∧ M = [] ∧ R = Out (.tup (turnsL size ls ls)) []
abbrev rhoTU (size : Nat) (ls : List Nat) (p : Addr) : Rho := [some (rulesD size ls), some (.ref p), none, none, none, none]
theorem take_succ_getD {α : Type} {as : List α} {i : Nat} (d : α) (h : i < as.length) : as.take (i + 1) = as.take i ++ [as.getD i d] := by
  rw [List.take_add_one, List.getD_eq_getElem?_getD, List.getElem?_eq_getElem h]
  rfl
theorem getD_mem {α : Type} {as : List α} {i : Nat} (d : α) (h : i < as.length) : as.getD i d ∈ as := by
  rw [List.getD_eq_getElem?_getD, List.getElem?_eq_getElem h]
  exact List.getElem_mem h
theorem ok_TU {f fL fT : Addr} {fd fdL fdT : FuncData} (F : Fun K "turns" "turns" sTU f fd) (T : Bl mg) (FL : Fun K "last_lines" "last_lines" sLL fL fdL) (bL : Binds K fdL ["rules", "first"] []) (gL : mg "last_lines" = some (.ref fL))
    (FT : Fun K "totals_for" "totals_for" sTF fT fdT) (bT : Binds K fdT ["lasts", "later"] []) (gT : mg "totals_for" = some (.ref fT)) : FnOk P w K mg base CX0 2 f fd ["rules"] (mk K spTU) := by
  have GL : FnOk P w K mg base CX0 1 fL fdL ["rules", "first"] (mk K spLL) := ok_LL FL T
  have GT : FnOk P w K mg base CX0 1 fT fdT ["lasts", "later"] (mk K spTF) := ok_TF FT T
  refine fn_ok F scTU (fun ds M R ⟨_, _, _, e, _⟩ => by rw [e]; rfl) (fun cdv A outer s H E hr ds M R ⟨size, ls, r, e1, e0, e2⟩ => ?_)
  subst e1 e0 e2
  have hl6 := r.len
  have hline : sizeLine = 16777216 := by decide
  -- found = []
  refine sv_setN (n := 1) (ps_set (i := 1) scTU.nd rfl (by first | exact Or.inl rfl | exact Or.inr rfl) peW) (fv_lst av_nil (by decide)) ?_
  intro p_found hp_found
  refine SV.to (ρ := rhoTU size ls p_found) (M := [(p_found, .lst (turnsL size ls (ls.take 0)))]) rfl rfl ?_
  have len1 : ∀ xs : List Nat, (turnsL size ls xs).length = xs.length * ls.length := fun xs => by
    induction xs with
    | nil => simp [turnsL]
    | cons a xs ih =>
      show (ls.map (fun y => turnD size ls a y) ++ turnsL size ls xs).length = (xs.length + 1) * ls.length
      rw [List.length_append, List.length_map, ih, Nat.add_mul]
      omega
  -- for first in rules[1]:
  refine sv_for (.nm 2) (ps_for PassesOwn.never rfl piW (pg_name (i := 2) scTU.nd rfl (by first | exact Or.inl rfl | exact Or.inr rfl)) pssW) (iv_tupM (f := natD) (as := ls) 0 (ev_ixT (ev_var (pv 0) rfl) (ev_int) rfl))
    (fun _ => rhoTU size ls p_found) (fun i => [(p_found, .lst (turnsL size ls (ls.take i)))]) (wk_refl _) rfl (fun i hi => trivial) (fun i hi => ?_) ?_
  · have hx : ls.getD i 0 ∈ ls := getD_mem 0 hi
    have ht := take_succ_getD 0 hi
    generalize hxe : ls.getD i 0 = x at hx ht
    -- lasts = last_lines(rules, first)
    refine sv_set (n := 3) (ps_set (i := 3) scTU.nd rfl (by first | exact Or.inl rfl | exact Or.inr rfl) peW) (ev_call0 (pe_call GL (hr.mono (by decide)) (by rfl) gL FL.kp bL .nil pass0 paW) (av_cons (ev_var (pv 0) rfl) (av_cons (ev_var (pv 2) rfl) av_nil)) ⟨size, ls, x, r, hx, rfl, rfl, rfl⟩) ?_
    -- for later in rules[1]:
    refine sv_for (.nm 4) (ps_for PassesOwn.never rfl piW (pg_name (i := 4) scTU.nd rfl (by first | exact Or.inl rfl | exact Or.inr rfl)) pssW) (iv_tupM (f := natD) (as := ls) 0 (ev_ixT (ev_var (pv 0) rfl) (ev_int) rfl))
      (fun _ => ((rhoTU size ls p_found).set 2 (some (natD x))).set 3 (some (.lst (lastsD size ls x)))) (fun j => [(p_found, .lst (turnsL size ls (ls.take i) ++ (ls.take j).map fun y => turnD size ls x y))]) (wk_refl _) ?_ (fun i hi => trivial) (fun j hj => ?_) ?_
    · show [(p_found, MO.lst _)] = [(p_found, MO.lst _)]
      rw [List.take_zero, List.map_nil, List.append_nil]
    · have hy : ls.getD j 0 ∈ ls := getD_mem 0 hj
      have ht2 := take_succ_getD 0 hj
      generalize hye : ls.getD j 0 = y at hy ht2
      -- totals = totals_for(lasts, later)
      refine sv_set (n := 5) (ps_set (i := 5) scTU.nd rfl (by first | exact Or.inl rfl | exact Or.inr rfl) peW) (ev_call0 (pe_call GT (hr.mono (by decide)) (by rfl) gT FT.kp bT .nil pass0 paW) (av_cons (ev_var (pv 3) rfl) (av_cons (ev_var (pv 4) rfl) av_nil)) ⟨size, ls, x, y, r, hx, hy, rfl, rfl, rfl⟩) ?_
      have hne := totF_ne r hx hy
      have hpos : 0 < (totF size ls x y).length := List.length_pos_iff.mpr hne
      -- found.append((first, later, totals[0], totals[-1]))
      refine sv_exprE rfl (ev_append (kk := 0) (pe_bm PySem.F.plainAttrs_list PySem.F.slot_list_append PySem.F.type_list_append mt_append peW paW) (ev_var (pv 1) rfl) (av_cons (ev_tup (av_cons (ev_var (pv 2) rfl) (av_cons (ev_var (pv 4) rfl) (av_cons (ev_ixL (d := natD (tlo size ls x y)) (ev_var (pv 5) rfl) (ev_int) (.lst .dat) ?_) (av_cons (ev_ixL (d := natD (thi size ls x y)) (ev_var (pv 5) rfl) (ev_neg (ev_int)) (.lst .dat) ?_) av_nil)))) (by show 4 ≤ sizeLine; decide)) av_nil) rfl ⟨_, rfl⟩ ?_) ?_
      · refine at_nat (j := 0) ?_ rfl
        rw [List.getElem?_map, List.getElem?_eq_getElem hpos]
        unfold tlo
        rw [List.getD_eq_getElem?_getD, List.getElem?_eq_getElem hpos]
        rfl
      · unfold atI
        have e : ixN ((totF size ls x y).map natD).length (-1) = some ((totF size ls x y).length - 1) := by
          unfold ixN
          rw [List.length_map, if_neg (by decide), if_pos (by omega)]
          congr 1
          omega
        show (ixN ((totF size ls x y).map natD).length (-1)).bind _ = _
        rw [e]
        show ((totF size ls x y).map natD)[(totF size ls x y).length - 1]? = _
        rw [List.getElem?_map, List.getElem?_eq_getElem (by omega)]
        unfold thi
        rw [List.getD_eq_getElem?_getD, List.getElem?_eq_getElem (by omega)]
        rfl
      · rw [List.length_append, len1, List.length_map, List.length_take, List.length_take]
        have : min i ls.length * ls.length ≤ 6 * 6 := Nat.mul_le_mul (by omega) hl6
        omega
      · refine sv_nil ⟨⟨rfl, rfl, rfl, rfl, trivial⟩, ?_⟩
        show [(p_found, MO.lst _)] = [(p_found, MO.lst _)]
        rw [ht2, List.map_append, List.append_assoc]
        rfl
    · refine sv_nil ⟨⟨rfl, rfl, trivial⟩, ?_⟩
      show [(p_found, MO.lst _)] = [(p_found, MO.lst _)]
      rw [List.take_length, ht]
      unfold turnsL
      rw [List.map_append, List.flatten_append]
      simp
  · -- return tuple(found)
    refine sv_retE (ev_drop 0 (ev_cb (pe_callTy call_tuple_of (by rfl) T.tuple (by decide +kernel) paW) (av_cons (ev_var (pv 1) rfl) av_nil) (rs_tupL (.own (k := 0) rfl)))) ?_
    rw [List.take_length]
    exact ⟨rfl, rfl⟩
end
end RL
namespace RL
open PySem L2
/-! Walks -/
abbrev sWk (i : Nat) : Stmt := inClass (top 6) i
structure CW (K : Fg) (mg : Str → Option Value) (C : Addr) : Prop where
  cl : Cls K C
  mgC : mg "Walks" = some (.ref C)
  nLen : NoAttr K C "lengths"
  nCost : NoAttr K C "costs"
  nRows : NoAttr K C "rows"
  nReg : NoAttr K C "regular_from"
  nPer : NoAttr K C "period"
  nByt : NoAttr K C "bytes"
section
variable {P : Program} {w : World} {K : Fg} {mg : Str → Option Value} {base : Heap}
abbrev nSH : List Str := ["self", "row", "number"]
abbrev scSH : FnScope nSH ["self", "row"] (defScope (sWk 1)) := ⟨rfl, rfl, rfl, by decide +kernel, rfl, by decide +kernel, by decide +kernel⟩
def spSH : Spec := fun ds M R => ∃ self row, row ≠ [] ∧ row.length ≤ 6 ∧ ds = [self, rowD row] ∧ M = [] ∧ R = Out (rowD (shp row)) []
theorem ok_SH {f : Addr} {fd : FuncData} (F : Fun K "shape_of" "Walks.shape_of" (sWk 1) f fd) (T : Bl mg) : FnOk P w K mg base CX0 1 f fd ["self", "row"] (mk K spSH) := by
  refine fn_ok F scSH (fun ds M R ⟨_, _, _, _, e, _, _⟩ => by rw [e]; rfl) (fun cdv A outer s H E hr ds M R ⟨self, row, h0, h6, e1, e0, e2⟩ => ?_)
  subst e1 e0 e2
  have hline : sizeLine = 16777216 := by decide
  refine sv_retE (ev_cb (pe_callTy call_tuple_of (by rfl) T.tuple (by decide +kernel) paW) (av_cons (ev_fv (fv_lc (.nm 2) (ys := fun i => .int (row.getD i 0 - minI row)) (pe_lc (own := [("number", 2)]) (g := Tg.t _ (.nm 2)) rfl scSH.nd piW (blkOk_by (N := nSH) (sc := defScope (sWk 1)) (by decide +kernel)) (fun _ _ _ _ _ => pg_name (i := 2) scSH.nd rfl (by first | exact Or.inl rfl | exact Or.inr rfl)) (fun s H C cl fp => pts_nil) peB) (by simp [Tg.sl]) (iv_tupM (f := D.int) (as := row) 0 (ev_var (pv 1) rfl)) ?_ (fun _ => []) rfl (fun i hi => trivial) (fun i hi s H C cl fp => ev_sub (ev_var (pv 2) rfl) (ev_cb (pe_callB (cr_minT rfl) (by rfl) T.min (by decide +kernel) paW) (av_cons (ev_var (pv 1) rfl) av_nil) (rs_minT h0))))) av_nil) (rs_tupL .dat)) ?_
  · omega
  · refine ⟨?_, rfl⟩
    show D.tup ((List.range row.length).map fun i => D.int (row.getD i 0 - minI row)) = D.tup ((shp row).map D.int)
    unfold shp
    rw [List.map_map, map_range row (fun x => D.int (x - minI row)) 0]
    rfl

/-! row_behind -/
abbrev nRB : List Str := ["self", "row", "pairs", "cost", "first", "later"]
abbrev scRB : FnScope nRB ["self", "row"] (defScope (sWk 2)) := ⟨rfl, rfl, rfl, by decide +kernel, rfl, by decide +kernel, by decide +kernel⟩
/-- self with the lengths and the costs -/
structure Slf (K : Fg) (C : Addr) (size : Nat) (ls : List Nat) (M : Mem) (sf : D) (fs : List (Str × D)) (costs : List (List Key × D)) : Prop where
  is : IsI K M C sf fs
  len : fs.lookup ("lengths" : Str) = some (tupN ls)
  cost : fs.lookup ("costs" : Str) = some (D.obj (dTOT K costs))
  val : ∀ x ∈ ls, ∀ y ∈ ls, valD costs [.inl (x : Int), .inl (y : Int)] = some (natD (tlo size ls x y))
def spRB (K : Fg) (C : Addr) : Spec := fun ds M R => ∃ size ls self fs costs row, Ru size ls ∧ row.length = ls.length ∧ Slf K C size ls M self fs costs ∧ ds = [self, rowD row] ∧ R = Out (rowD (nxt size ls row)) M
theorem ok_RB {f C : Addr} {fd : FuncData} (F : Fun K "row_behind" "Walks.row_behind" (sWk 2) f fd) (T : Bl mg) (W : CW K mg C) : FnOk P w K mg base CX0 1 f fd ["self", "row"] (mk K (spRB K C)) := by
  refine fn_ok F scRB (fun ds M R ⟨_, _, _, _, _, _, _, _, _, e, _⟩ => by rw [e]; rfl) (fun cdv A outer s H E hr ds M R ⟨size, ls, self, fs, costs, row, r, hl, I, e1, e2⟩ => ?_)
  subst e1 e2
  have hu := hu_of hr
  have hline : sizeLine = 16777216 := by decide
  have h6 := r.len
  have h0 : ls ≠ [] := r.ne
  -- pairs = list(zip(row, self.lengths))
  refine sv_set (n := 2) (ps_set (i := 2) scRB.nd rfl (by first | exact Or.inl rfl | exact Or.inr rfl) peW) (ev_fv (fv_listZip (pe_listZip (by rfl) T.list (by rfl) T.zip paW) (av_cons (ev_var (pv 1) rfl) (av_cons (ev_fld (ev_var (pv 0) rfl) rfl I.is I.len W.cl W.nLen) av_nil)) ?_)) ?_
  · rw [List.length_map, List.length_map]; omega
  -- the list of pairs
  have ep : ((List.range (min (row.map D.int).length (ls.map natD).length)).map fun i => D.tup [(row.map D.int).getD i .non, (ls.map natD).getD i .non]) = (List.range ls.length).map fun i => D.tup [.int (row.getD i 0), natD (ls.getD i 0)] := by
    rw [List.length_map, List.length_map, hl, Nat.min_self]
    refine List.map_congr_left fun i hi => ?_
    rw [List.mem_range] at hi
    rw [getD_map 0 (by omega), getD_map 0 hi]
  rw [ep]
  have htake : ∀ (i : Nat), i < (List.range ls.length).length → (List.range ls.length).getD i 0 = i := fun i hi => by
    rw [List.length_range] at hi
    rw [List.getD_eq_getElem?_getD, List.getElem?_range hi]
    rfl
  refine sv_retE (ev_cb (pe_callTy call_tuple_of (by rfl) T.tuple (by decide +kernel) paW) (av_cons (ev_fv (fv_lc (.nm 5) (ys := fun j => .int (minI ((List.range ls.length).map fun i => row.getD i 0 + (tlo size ls (ls.getD i 0) (ls.getD j 0) : Int)))) (pe_lc (own := [("later", 5)]) (g := Tg.t _ (.nm 5)) rfl scRB.nd piW (blkOk_by (N := nRB) (sc := defScope (sWk 2)) (by decide +kernel)) (fun _ _ _ _ _ => pg_name (i := 5) scRB.nd rfl (by first | exact Or.inl rfl | exact Or.inr rfl)) (fun s H C cl fp => pts_nil) peB) (by simp [Tg.sl])
    (iv_tupM (f := natD) (as := ls) 0 (ev_fld (ev_var (pv 0) rfl) rfl I.is I.len W.cl W.nLen)) ?_ (fun _ => M) rfl (fun i hi => trivial)
    (fun j hj s H C cl fp => ev_cb (pe_callB (cr_min rfl) (by rfl) T.min (by decide +kernel) paW) (av_cons (ev_fv (FV.eq (ds' := ((List.range ls.length).map fun i => row.getD i 0 + (tlo size ls (ls.getD i 0) (ls.getD j 0) : Int)).map D.int) (M' := M) (fv_lc (.tp [3, 4]) (ys := fun i => .int (row.getD i 0 + (tlo size ls (ls.getD i 0) (ls.getD j 0) : Int)))
      (pe_lc (own := [("cost", 3), ("first", 4)]) (g := Tg.t _ (.tp [3, 4])) rfl scRB.nd piW (blkOk_by (N := nRB) (sc := relS _ (defScope (sWk 2))) (by decide +kernel)) (fun _ _ _ _ _ => pg_tup rfl (pgs_cons (pg_name (i := 3) scRB.nd rfl (by first | exact Or.inl rfl | exact Or.inr rfl)) (pgs_cons (pg_name (i := 4) scRB.nd rfl (by first | exact Or.inl rfl | exact Or.inr rfl)) pgs_nil))) (fun s H C cl fp => pts_nil) peB) (by simp [Tg.sl])
      (IV.cg (n' := ls.length) (ys := fun i => D.tup [.int (row.getD i 0), natD (ls.getD i 0)]) (iv_listM (f := fun i => D.tup [.int (row.getD i 0), natD (ls.getD i 0)]) (as := List.range ls.length) 0 (ev_var (pv 2) rfl)) List.length_range (fun i hi => by rw [htake i hi])) ?_ (fun _ => M) rfl (fun i hi => rfl)
      (fun i hi s2 H2 C2 cl2 fp2 => ev_add (ev_var (pv 3) rfl) (ev_dgetT (d := .int (tlo size ls (ls.getD i 0) (ls.getD j 0) : Int)) (ks := [.inl ((ls.getD i 0 : Nat) : Int), .inl ((ls.getD j 0 : Nat) : Int)]) hu (ev_fld (ev_var (pv 0) rfl) rfl I.is I.cost W.cl W.nCost) (ev_tup (av_cons (ev_var (pv 4) rfl) (av_cons (ev_var (pv 5) rfl) av_nil)) (by show 2 ≤ sizeLine; decide)) (fun _ => .obj) ?_))) ?_ rfl)) av_nil) (rs_min (.lst .dat) ?_)))) av_nil) (rs_tupL .dat)) ?_
  · omega
  · omega
  · exact I.val _ (getD_mem 0 hi) _ (getD_mem 0 hj)
  · rw [List.map_map]; rfl
  · intro e
    have := congrArg List.length e
    rw [List.length_map, List.length_range] at this
    exact h0 (List.length_eq_zero_iff.mp this)
  · refine ⟨?_, rfl⟩
    unfold nxt
    rw [map_range ls (fun y => D.int (minI ((List.range ls.length).map fun i => row.getD i 0 + (tlo size ls (ls.getD i 0) y : Int)))) 0]
    show D.tup _ = D.tup (List.map D.int (List.map _ ls))
    rw [List.map_map]
    rfl

/-! a Walks that stands -/
abbrev wkFs (K : Fg) (size : Nat) (ls : List Nat) (costs : List (List Key × D)) (reg per : Nat) (byt : Int) : List (Str × D) :=
  [("lengths", tupN ls), ("costs", D.obj (dTOT K costs)), ("rows", .lst ((List.range (reg + per + 1)).map fun i => rowD (rowN size ls i))), ("regular_from", natD reg), ("period", natD per), ("bytes", .int byt)]
structure WkOK (size : Nat) (ls : List Nat) (costs : List (List Key × D)) (reg per : Nat) (byt : Int) : Prop where
  r : Ru size ls
  g : Reg size ls reg per byt
  val : ∀ x ∈ ls, ∀ y ∈ ls, valD costs [.inl (x : Int), .inl (y : Int)] = some (natD (tlo size ls x y))
abbrev wkD (K : Fg) (C : Addr) (size : Nat) (ls : List Nat) (costs : List (List Key × D)) (reg per : Nat) (byt : Int) : D := .obj (insOT K C (wkFs K size ls costs reg per byt))
/-! least_end -/
abbrev nLE : List Str := ["self", "files", "rounds", "row", "cost", "line"]
abbrev scLE : FnScope nLE ["self", "files"] (defScope (sWk 3)) := ⟨rfl, rfl, rfl, by decide +kernel, rfl, by decide +kernel, by decide +kernel⟩
def spLE (K : Fg) (C : Addr) : Spec := fun ds M R => ∃ size ls costs reg per byt n, WkOK size ls costs reg per byt ∧ ds = [wkD K C size ls costs reg per byt, natD n] ∧ M = [] ∧ R = Out (.int (leastE size ls n)) []
theorem ok_LE {f C : Addr} {fd : FuncData} (F : Fun K "least_end" "Walks.least_end" (sWk 3) f fd) (T : Bl mg) (W : CW K mg C) : FnOk P w K mg base CX0 1 f fd ["self", "files"] (mk K (spLE K C)) := by
  refine fn_ok F scLE (fun ds M R ⟨_, _, _, _, _, _, _, _, e, _, _⟩ => by rw [e]; rfl) (fun cdv A outer s H E hr ds M R ⟨size, ls, costs, reg, per, byt, n, ⟨r, g, hv⟩, e1, e0, e2⟩ => ?_)
  subst e1 e0 e2
  have hline : sizeLine = 16777216 := by decide
  have h6 := r.len
  have h0 : ls ≠ [] := r.ne
  have hpos := g.pos
  have hlt := g.lt
  generalize hk : (n - reg) / per = k
  have hm : k * per ≤ n - reg := by rw [← hk]; exact Nat.div_mul_le_self _ _
  have hm2 : n - reg < (k + 1) * per := by rw [← hk]; exact Nat.lt_mul_of_div_lt (Nat.lt_succ_self _) hpos
  rw [Nat.add_mul] at hm2
  -- rounds = max(0, files - self.regular_from) // self.period
  refine sv_set (n := 2) (ps_set (i := 2) scLE.nd rfl (by first | exact Or.inl rfl | exact Or.inr rfl) peW) (EV.eq (d' := natD k) (ev_div (ev_cb (pe_callB (call_max2 rfl) (by rfl) T.max (by decide +kernel) paW) (av_cons (ev_int) (av_cons (ev_sub (ev_var (pv 1) rfl) (ev_fld (ev_var (pv 0) rfl) rfl .obj rfl W.cl W.nReg)) av_nil)) rs_max2) (ev_fld (ev_var (pv 0) rfl) rfl .obj rfl W.cl W.nPer) ?_) ?_ rfl) ?_
  · refine ⟨by omega, ?_⟩
    have : ((per : Int).natAbs).log2 < 24 := (Nat.log2_lt (by omega)).mpr (by omega)
    omega
  · show D.int _ = D.int _
    congr 1
    rw [← hk, Int.natCast_ediv]
    congr 1
    omega
  -- row = self.rows[files - rounds * self.period]
  refine sv_set (n := 3) (ps_set (i := 3) scLE.nd rfl (by first | exact Or.inl rfl | exact Or.inr rfl) peW) (ev_ixL (d := rowD (rowN size ls (n - k * per))) (ev_fld (ev_var (pv 0) rfl) rfl .obj rfl W.cl W.nRows) (ev_sub (ev_var (pv 1) rfl) (ev_mul (ev_var (pv 2) rfl) (ev_fld (ev_var (pv 0) rfl) rfl .obj rfl W.cl W.nPer) ?_)) (.lst .dat) ?_) ?_
  · exact .inr ⟨by omega, by omega⟩
  · refine at_nat (j := n - k * per) ?_ ?_
    · rw [List.getElem?_map, List.getElem?_range (by omega)]
      rfl
    · rw [← Int.natCast_mul]; omega
  -- return min([cost + line for cost, line in zip(row, self.lengths)]) + rounds * self.bytes
  have hb1 := minI_bd r (reg + per)
  have hb2 := minI_bd r reg
  have hbyt := g.byt
  refine sv_retE (EV.eq (d' := .int (leastE size ls n)) (ev_add (ev_cb (pe_callB (cr_min rfl) (by rfl) T.min (by decide +kernel) paW) (av_cons (ev_fv (FV.eq (ds' := ((List.range ls.length).map fun i => (rowN size ls (n - k * per)).getD i 0 + (ls.getD i 0 : Int)).map D.int) (M' := []) (fv_lc (.tp [4, 5]) (ys := fun i => .int ((rowN size ls (n - k * per)).getD i 0 + (ls.getD i 0 : Int))) (pe_lc (own := [("cost", 4), ("line", 5)]) (g := Tg.t _ (.tp [4, 5])) rfl scLE.nd piW (blkOk_by (N := nLE) (sc := defScope (sWk 3)) (by decide +kernel)) (fun _ _ _ _ _ => pg_tup rfl (pgs_cons (pg_name (i := 4) scLE.nd rfl (by first | exact Or.inl rfl | exact Or.inr rfl)) (pgs_cons (pg_name (i := 5) scLE.nd rfl (by first | exact Or.inl rfl | exact Or.inr rfl)) pgs_nil))) (fun s H C cl fp => pts_nil) peB) (by simp [Tg.sl])
    (IV.cg (n' := ls.length) (ys := fun i => D.tup [.int ((rowN size ls (n - k * per)).getD i 0), natD (ls.getD i 0)]) (iv_zipT (RZ.pi_zipA (by rfl) T.zip paW) (av_cons (ev_var (pv 3) rfl) (av_cons (ev_fld (ev_var (pv 0) rfl) rfl .obj rfl W.cl W.nLen) av_nil))) ?_ ?_) ?_ (fun _ => []) rfl (fun i hi => rfl) (fun i hi s H C cl fp => ev_add (ev_var (pv 4) rfl) (ev_var (pv 5) rfl))) ?_ rfl)) av_nil) (rs_min (.lst .dat) ?_)) (ev_mul (ev_var (pv 2) rfl) (ev_fld (ev_var (pv 0) rfl) rfl .obj rfl W.cl W.nByt) ?_)) ?_ rfl) ⟨rfl, rfl⟩
  · rw [List.length_map, List.length_map, rowN_len, Nat.min_self]
  · intro i hi
    rw [List.length_map, List.length_map, rowN_len, Nat.min_self] at hi
    rw [getD_map 0 (by rw [rowN_len]; exact hi), getD_map 0 hi]
  · omega
  · rw [List.map_map]; rfl
  · exact range_ne (List.length_pos_iff.mpr h0)
  · exact .inr ⟨by omega, by omega⟩
  · show D.int _ = D.int _
    congr 1
    exact (g.least h0 n k hk.symm).symm
/-! least_bytes -/
abbrev nLB : List Str := ["self", "rotations", "shortest"]
abbrev scLB : FnScope nLB ["self", "rotations"] (defScope (sWk 4)) := ⟨rfl, rfl, rfl, by decide +kernel, rfl, by decide +kernel, by decide +kernel⟩
def spLB (K : Fg) (C : Addr) : Spec := fun ds M R => ∃ size ls costs reg per byt n, WkOK size ls costs reg per byt ∧ ds = [wkD K C size ls costs reg per byt, natD n] ∧ M = [] ∧ R = Out (.int (leastB size ls n)) []
theorem ok_LB {f C fE : Addr} {fd fdE : FuncData} (F : Fun K "least_bytes" "Walks.least_bytes" (sWk 4) f fd) (T : Bl mg) (W : CW K mg C) (FE : Fun K "least_end" "Walks.least_end" (sWk 3) fE fdE) (bE : Binds K fdE ["self", "files"] []) (mE : Meth K C "least_end" fE) : FnOk P w K mg base CX0 2 f fd ["self", "rotations"] (mk K (spLB K C)) := by
  have GE : FnOk P w K mg base CX0 1 fE fdE ["self", "files"] (mk K (spLE K C)) := ok_LE FE T W
  refine fn_ok F scLB (fun ds M R ⟨_, _, _, _, _, _, _, _, e, _, _⟩ => by rw [e]; rfl) (fun cdv A outer s H E hr ds M R ⟨size, ls, costs, reg, per, byt, n, ok, e1, e0, e2⟩ => ?_)
  subst e1 e0 e2
  have h0 : ls ≠ [] := ok.r.ne
  -- shortest = self.lengths[0]
  refine sv_set (n := 2) (ps_set (i := 2) scLB.nd rfl (by first | exact Or.inl rfl | exact Or.inr rfl) peW) (ev_ixT (d := natD (ls.getD 0 0)) (ev_fld (ev_var (pv 0) rfl) rfl .obj rfl W.cl W.nLen) (ev_int) ?_) ?_
  · refine at_nat (j := 0) ?_ rfl
    rw [List.getElem?_map, List.getD_eq_getElem?_getD, List.getElem?_eq_getElem (List.length_pos_iff.mpr h0)]
    rfl
  -- return shortest if rotations == 0 else shortest + self.least_end(rotations - 1)
  refine sv_retE (ev_if (tv_eqI (ev_var (pv 1) rfl) (ev_int)) (fun hc => EV.eq (d' := .int (leastB size ls n)) (ev_var (pv 2) rfl) ?_ rfl) (fun hc => EV.eq (d' := .int (leastB size ls n)) (ev_add (ev_var (pv 2) rfl) (ev_meth0 (d := .int (leastE size ls (n - 1))) (pe_meth peW W.cl mE GE (hr.mono (by decide)) bE .nil pass0 paW) (ev_var (pv 0) rfl) .obj rfl (av_cons (ev_sub (ev_var (pv 1) rfl) (ev_int)) av_nil) ⟨size, ls, costs, reg, per, byt, n - 1, ok, ?_, rfl, rfl⟩)) ?_ rfl)) ⟨by split <;> rfl, rfl⟩
  · have : n = 0 := by simpa using hc
    unfold leastB
    rw [if_pos this]
  · have : ¬ n = 0 := by simpa using hc
    show [_, D.int _] = [_, D.int _]
    congr 3
    omega
  · have : ¬ n = 0 := by simpa using hc
    unfold leastB
    rw [if_neg this]
end
end RL
namespace RL
open PySem L2
section
variable {P : Program} {w : World} {K : Fg} {mg : Str → Option Value} {base : Heap}
/-- an __init__ without defaults, by its body -/
theorem fn_initF {x qual : Str} {st : Stmt} {f C : Addr} {fd : FuncData} {N ps : List Str} {k : Nat} {sp : List D → OT → Prop} (F : Fun K x qual st f fd) (S : FnScope N ps (defScope st)) (hl : ∀ ds t, sp ds t → ds.length + 1 = ps.length)
    (body : ∀ (cdv : Value) (A : Around) (outer : List Env) (s : Shared) (H : Hp) (E : XK), Room k (A.deeper (PyProof.Rows.envOfC qual (defScope st) s.heap.objs.size f cdv)) → ∀ (x : Addr) ds t, sp ds t →
      ∃ R : Mem → Prop, SV (cxOf CX0 P w K mg base N qual (defScope st) f cdv A outer s H E).nox (defBody st) (startR N (.ref x :: ds)) [(x, .ins C [])] { nx := fun _ M' => R M', rt := fun _ _ => False } ∧
        ∀ M' S' H', R M' → Cfg K S' M' H' → ∃ S2, Step M' S' H' [] S2 H' ∧ Cfg K S2 [] H' ∧ t.holds S2 x) : FnOk P w K mg base CX0 (k + 1) f fd ps (mkI K C sp) := by
  refine F.ok S (fun vs H Q E ⟨S, x, ws, ds, t, e, r, _, q, _⟩ => by rw [e, List.length_cons, ← r.length]; exact hl _ _ q) (fun cdv A outer s H vs Q E hr ⟨S, x, ws, ds, t, e, r, c, q, hR⟩ => ?_)
  subst e
  obtain ⟨R, hb, hd⟩ := body cdv A outer s H E hr x ds t q
  refine ⟨_, pssW, hb _ S H _ (startR_env (reps_cons.mpr ⟨_, _, rfl, rep_ref.mpr rfl, r⟩)) c ⟨fun ρ' M' σ' S' H' p s c' e' => ?_, fun _ _ _ _ _ z => z.elim, fun _ _ _ _ _ z => z.elim, fun _ _ _ _ _ z => z.elim⟩⟩
  obtain ⟨S2, s2, c2, ht⟩ := hd M' S' H' p c'
  exact hR S2 H' (s.trans c' s2) c2 ht
theorem turnsL_len (size : Nat) (ls : List Nat) : ∀ xs : List Nat, (turnsL size ls xs).length = xs.length * ls.length
  | [] => by simp [turnsL]
  | a :: xs => by
    show (ls.map (fun y => turnD size ls a y) ++ turnsL size ls xs).length = (xs.length + 1) * ls.length
    rw [List.length_append, List.length_map, turnsL_len size ls xs, Nat.add_mul]
    omega
theorem turnsL_get (size : Nat) (ls : List Nat) : ∀ (xs : List Nat) (i : Nat), i < xs.length * ls.length → (turnsL size ls xs).getD i .non = turnD size ls (xs.getD (i / ls.length) 0) (ls.getD (i % ls.length) 0)
  | [], i, h => by simp at h
  | a :: xs, i, h => by
    rw [List.length_cons, Nat.add_mul, Nat.one_mul] at h
    have hm : 0 < ls.length := by
      rcases Nat.eq_zero_or_pos ls.length with e | e
      · rw [e] at h; simp at h
      · exact e
    show (ls.map (fun y => turnD size ls a y) ++ turnsL size ls xs).getD i .non = _
    by_cases hi : i < ls.length
    · rw [getD_app1 _ _ _ _ (by rw [List.length_map]; exact hi), getD_map 0 hi, Nat.div_eq_of_lt hi, Nat.mod_eq_of_lt hi]
      rfl
    · have e : i = (i - ls.length) + ls.length := by omega
      rw [getD_app2 _ _ _ _ (by rw [List.length_map]; omega), List.length_map, turnsL_get size ls xs _ (by omega)]
      conv => rhs; rw [e, Nat.add_div_right _ hm, Nat.add_mod_right]
      rfl
abbrev ksC (ls : List Nat) (i : Nat) : List Key := [.inl ((ls.getD (i / ls.length) 0 : Nat) : Int), .inl ((ls.getD (i % ls.length) 0 : Nat) : Int)]
abbrev ysC (size : Nat) (ls : List Nat) (i : Nat) : D := natD (tlo size ls (ls.getD (i / ls.length) 0) (ls.getD (i % ls.length) 0))
abbrev costsC (size : Nat) (ls : List Nat) : List (List Key × D) := pairsT (ls.length * ls.length) (ksC ls) (ysC size ls)
theorem costsC_val {size : Nat} {ls : List Nat} : ∀ x ∈ ls, ∀ y ∈ ls, valD (costsC size ls) [.inl (x : Int), .inl (y : Int)] = some (natD (tlo size ls x y)) := fun x hx y hy => by
  obtain ⟨i, hi, ei⟩ := List.mem_iff_getElem.mp hx
  obtain ⟨j, hj, ej⟩ := List.mem_iff_getElem.mp hy
  have gx : ls.getD i 0 = x := by rw [List.getD_eq_getElem?_getD, List.getElem?_eq_getElem hi, ei]; rfl
  have gy : ls.getD j 0 = y := by rw [List.getD_eq_getElem?_getD, List.getElem?_eq_getElem hj, ej]; rfl
  have hm : 0 < ls.length := by omega
  have hd : (i * ls.length + j) / ls.length = i := by rw [Nat.mul_comm, Nat.mul_add_div hm, Nat.div_eq_of_lt hj]; omega
  have hmod : (i * ls.length + j) % ls.length = j := by rw [Nat.mul_comm, Nat.mul_add_mod, Nat.mod_eq_of_lt hj]
  refine pairsT_some ⟨i * ls.length + j, ?_, ?_⟩ fun k hk e => ?_
  · calc i * ls.length + j < i * ls.length + ls.length := by omega
      _ = (i + 1) * ls.length := by rw [Nat.add_mul]; omega
      _ ≤ ls.length * ls.length := Nat.mul_le_mul_right _ hi
  · show ([.inl _, .inl _] : List Key) = _
    rw [hd, hmod, gx, gy]
  · have e1 : ((ls.getD (k / ls.length) 0 : Nat) : Int) = (x : Int) := by
      have := congrArg (fun l : List Key => l[0]?) e
      simpa using this
    have e2 : ((ls.getD (k % ls.length) 0 : Nat) : Int) = (y : Int) := by
      have := congrArg (fun l : List Key => l[1]?) e
      simpa using this
    show natD _ = natD _
    rw [show ls.getD (k / ls.length) 0 = x by omega, show ls.getD (k % ls.length) 0 = y by omega]
/-! Walks.__init__ -/
abbrev nWI : List Str := ["self", "rules", "first", "later", "least", "greatest", "known", "shape"]
abbrev scWI : FnScope nWI ["self", "rules"] (defScope (sWk 0)) := ⟨rfl, rfl, rfl, by decide +kernel, rfl, by decide +kernel, by decide +kernel⟩
def spWI (K : Fg) (C : Addr) : List D → OT → Prop := fun ds t => ∃ size ls reg per, Ru size ls ∧ First size ls reg per ∧ ds = [rulesD size ls] ∧ t = insOT K C (wkFs K size ls (costsC size ls) reg per (minI (rowN size ls (reg + per)) - minI (rowN size ls reg)))
abbrev knC (size : Nat) (ls : List Nat) (i : Nat) : List (List Key × D) := pairsT i (fun j => keysI (shp (rowN size ls j))) natD
abbrev fsW (K : Fg) (size : Nat) (ls : List Nat) (q : Addr) : List (Str × D) := [("lengths", tupN ls), ("costs", D.obj (dTOT K (costsC size ls))), ("rows", .ref q)]
abbrev MW (K : Fg) (C : Addr) (size : Nat) (ls : List Nat) (x q pk : Addr) (i : Nat) : Mem := [(x, .ins C (fsW K size ls q)), (q, .lst ((List.range (i + 1)).map fun j => rowD (rowN size ls j))), (pk, .dT (knC size ls i))]
abbrev rhoWI (size : Nat) (ls : List Nat) (x pk : Addr) (o : Option D) : Rho := [some (.ref x), some (rulesD size ls), none, none, none, none, some (.ref pk), o]
theorem ok_WI {f C fT fS fR : Addr} {fd fdT fdS fdR : FuncData} (F : Fun K "__init__" "Walks.__init__" (sWk 0) f fd) (T : Bl mg) (W : CW K mg C)
    (GT : FnOk P w K mg base CX0 2 fT fdT ["rules"] (mk K spTU)) (kT : PySem.W.keepIn K (.ref fT) = true) (bT : Binds K fdT ["rules"] []) (gT : mg "turns" = some (.ref fT))
    (GS : FnOk P w K mg base CX0 1 fS fdS ["self", "row"] (mk K spSH)) (bS : Binds K fdS ["self", "row"] []) (mS : Meth K C "shape_of" fS)
    (GR : FnOk P w K mg base CX0 1 fR fdR ["self", "row"] (mk K (spRB K C))) (bR : Binds K fdR ["self", "row"] []) (mR : Meth K C "row_behind" fR) :
    FnOk P w K mg base CX0 3 f fd ["self", "rules"] (mkI K C (spWI K C)) := by
  refine fn_initF F scWI (fun ds t ⟨_, _, _, _, _, _, e, _⟩ => by rw [e]; rfl) (fun cdv A outer s H E hr x ds t ⟨size, ls, reg, per, r, fi, e1, e2⟩ => ?_)
  subst e1 e2
  have hu := hu_of hr
  have hline : sizeLine = 16777216 := by decide
  have h6 := r.len
  have h0 : ls ≠ [] := r.ne
  have hpos := fi.pos
  have hlt := fi.lt
  have h36 : ls.length * ls.length ≤ 36 := Nat.mul_le_mul h6 h6
  refine ⟨fun M' => ∃ q pk, M' = [(x, .ins C (fsW K size ls q ++ ([("regular_from", natD reg), ("period", natD per), ("bytes", .int (minI (rowN size ls (reg + per)) - minI (rowN size ls reg)))] : List (Str × D)))), (q, .lst ((List.range (reg + per + 1)).map fun j => rowD (rowN size ls j))), (pk, .dT (knC size ls (reg + per)))], ?_, ?_⟩
  · -- self.lengths = rules[1]
    refine sv_fld (kk := 0) rfl (ev_ixT (d := tupN ls) (ev_var (pv 1) rfl) (ev_int) rfl) (ev_var (pv 0) rfl) rfl W.cl W.nLen (by decide) ?_
    refine SV.to (ρ := startR nWI [.ref x, rulesD size ls]) (M := [(x, .ins C [("lengths", tupN ls)])]) rfl rfl ?_
    -- self.costs = {(first, later): least for first, later, least, greatest in turns(rules)}
    refine sv_fld (kk := 0) (d := D.obj (dTOT K (costsC size ls))) rfl (ev_dcT (.tp [2, 3, 4, 5]) (ks := ksC ls) (ys := ysC size ls) (pe_dcT (own := [("first", 2), ("later", 3), ("least", 4), ("greatest", 5)]) (g := Tg.t _ (.tp [2, 3, 4, 5])) hu rfl scWI.nd piW (blkOk_by (N := nWI) (sc := defScope (sWk 0)) (by decide +kernel)) (fun _ _ _ _ _ => pg_tup rfl (pgs_cons (pg_name (i := 2) scWI.nd rfl (by first | exact Or.inl rfl | exact Or.inr rfl)) (pgs_cons (pg_name (i := 3) scWI.nd rfl (by first | exact Or.inl rfl | exact Or.inr rfl)) (pgs_cons (pg_name (i := 4) scWI.nd rfl (by first | exact Or.inl rfl | exact Or.inr rfl)) (pgs_cons (pg_name (i := 5) scWI.nd rfl (by first | exact Or.inl rfl | exact Or.inr rfl)) pgs_nil))))) peB peB)
      (by simp [Tg.sl]) (IV.cg (n' := ls.length * ls.length) (ys := fun i => turnD size ls (ls.getD (i / ls.length) 0) (ls.getD (i % ls.length) 0)) (iv_tupD (ev_call0 (d := .tup (turnsL size ls ls)) (pe_call GT (hr.mono (by decide)) (by rfl) gT kT bT .nil pass0 paW) (av_cons (ev_var (pv 1) rfl) av_nil) ⟨size, ls, r, rfl, rfl, rfl⟩)) (turnsL_len size ls ls) (fun i hi => turnsL_get size ls ls i (by rw [← turnsL_len size ls ls]; exact hi))) ?_ (fun i hi => rfl)
      (fun i hi => ⟨fun s H C cl fp => ev_tup (av_cons (ev_var (pv 2) rfl) (av_cons (ev_var (pv 3) rfl) av_nil)) (by show 2 ≤ sizeLine; decide), fun s H C cl fp => ev_var (pv 4) rfl⟩)) (ev_var (pv 0) rfl) rfl W.cl W.nCost (by show 1 < 1000; decide) ?_
    · omega
    refine SV.to (ρ := startR nWI [.ref x, rulesD size ls]) (M := [(x, .ins C [("lengths", tupN ls), ("costs", D.obj (dTOT K (costsC size ls)))])]) rfl rfl ?_
    -- self.rows = [tuple([0] * len(self.lengths))]
    refine sv_fldN (n := 0) rfl (fv_lst (av_cons (EV.eq (d' := rowD (rowN size ls 0)) (ev_cb (pe_callTy call_tuple_of (by rfl) T.tuple (by decide +kernel) paW) (av_cons (ev_fv (fv_rep (ev_fv (fv_lst (av_cons (ev_int) av_nil) (by decide))) (ev_cb (pe_callB call_len_seq (by rfl) T.len PySem.boot_len paW) (av_cons (ev_fld (d := tupN ls) (ev_var (pv 0) rfl) rfl (.own (k := 0) rfl) rfl W.cl W.nLen) av_nil) rs_lenT) .dat ?_ ?_ ?_)) av_nil) (rs_tupL .dat)) ?_ rfl) av_nil) (by show 1 ≤ sizeLine; decide)) (fun q M' => ev_var (pv 0) rfl) rfl W.cl W.nRows (by show 2 < 1000; decide) ?_
    · rw [List.length_map]; omega
    · rw [List.length_map]; omega
    · rw [List.length_map]
      show 1 * _ ≤ _
      omega
    · show D.tup _ = D.tup _
      rw [rep_one, List.length_map]
      congr 1
      show List.replicate ls.length (D.int 0) = (ls.map fun _ => (0 : Int)).map D.int
      rw [List.map_map]
      exact (List.map_const' (l := ls) (b := D.int 0)).symm
    intro q hq
    -- known = {}
    refine sv_setDT (n := 6) (ps_set (i := 6) scWI.nd rfl (by first | exact Or.inl rfl | exact Or.inr rfl) peW) pe_dnewT ?_
    intro pk hpk
    refine SV.to (ρ := rhoWI size ls x pk none) (M := MW K C size ls x q pk 0) rfl rfl ?_
    -- while (shape := self.shape_of(self.rows[-1])) not in known:
    refine sv_cons (R := fun ρ' M' => ρ' = rhoWI size ls x pk (some (rowD (shp (rowN size ls (reg + per))))) ∧ M' = MW K C size ls x q pk (reg + per)) (s1_whileW (op := .NotIn) (n := 7) PassesOwn.never (ptw_cmp (op_notInD hu) (pew_named (i := 7) scWI.nd rfl (by first | exact Or.inl rfl | exact Or.inr rfl) (pew_of peW)) peW rfl)
      (fun m ρ' M' => ∃ i o, m = reg + per - i ∧ i ≤ reg + per ∧ ρ' = rhoWI size ls x pk o ∧ M' = MW K C size ls x q pk i) (m0 := reg + per) ⟨0, none, rfl, Nat.zero_le _, rfl, rfl⟩ ?_) ?_
    · rintro m ρ' M' ⟨i, o, rfl, hi, rfl, rfl⟩
      have hlen6 : (rowN size ls i).length ≤ 6 := by rw [rowN_len]; exact h6
      have hne6 : rowN size ls i ≠ [] := by
        intro e
        have := rowN_len size ls i
        rw [e] at this
        exact h0 (List.length_eq_zero_iff.mp this.symm)
      refine ⟨rowD (shp (rowN size ls i)), .ref pk, MW K C size ls x q pk i, MW K C size ls x q pk i, decide (i < reg + per), ?_, ev_var (pv 6) rfl, ?_, ?_, ?_⟩
      · exact ev_meth0 (d := rowD (shp (rowN size ls i))) (pe_meth peW W.cl mS GS (hr.mono (by decide)) bS .nil pass0 paW) (ev_var (pv 0) rfl) (.own (k := 0) rfl) rfl (av_cons (ev_ixL (d := rowD (rowN size ls i)) (ev_fld (ev_var (pv 0) rfl) rfl (.own (k := 0) rfl) rfl W.cl W.nRows) (ev_neg (ev_int)) (.lst (.own (k := 1) rfl)) atI_last) av_nil) ⟨_, rowN size ls i, hne6, hlen6, rfl, rfl, rfl⟩
      · have hv : (!(valD (knC size ls i) (keysI (shp (rowN size ls i)))).isSome) = decide (i < reg + per) := by
          by_cases hlt : i < reg + per
          · rw [pairsT_none fun j hj e => fi.dis j i hj hlt (keysI_inj e)]
            simp [hlt]
          · have ei : i = reg + per := by omega
            rw [pairsT_some (d := natD reg) ⟨reg, by omega, by rw [ei, fi.eq]⟩ fun j hj e => ?_]
            · simp [ei]
            · have e2 := keysI_inj e
              rw [ei, fi.eq] at e2
              by_cases z : j = reg
              · rw [z]
              · rcases Nat.lt_or_gt_of_ne z with y | y
                · exact absurd e2 (fi.dis j reg y (by omega))
                · exact absurd e2.symm (fi.dis reg j y (by omega))
        have := rs_notInT (X := (cxOf CX0 P w K mg base nWI (Str.ofString "Walks.__init__") (defScope (sWk 0)) f cdv A outer s H E).nox) (M := MW K C size ls x q pk i) (ks := keysI (shp (rowN size ls i))) (.own (k := 2) rfl)
        rw [keysI_D, hv] at this
        exact this
      · intro hk
        have hlt : i < reg + per := by simpa using hk
        -- known[shape] = len(self.rows) - 1
        refine sv_dputT (n := 2) (ks := keysI (shp (rowN size ls i))) (d := natD i) hu rfl (EV.eq (d' := natD i) (ev_sub (ev_cb (pe_callB call_len_seq (by rfl) T.len PySem.boot_len paW) (av_cons (ev_fld (ev_var (pv 0) rfl) rfl (.own (k := 0) rfl) rfl W.cl W.nRows) av_nil) (rs_lenL (.lst (.own (k := 1) rfl)))) (ev_int)) ?_ rfl) (ev_var (pv 6) rfl) (EV.eq (d' := .tup ((keysI (shp (rowN size ls i))).map keyD)) (ev_var (pv 7) rfl) (by rw [keysI_D]) rfl) rfl ?_ ?_
        · show D.int _ = D.int _
          congr 1
          rw [List.length_map, List.length_range]
          omega
        · have := pairsT_len (fun j => keysI (shp (rowN size ls j))) natD i
          show (pairsT i _ _).length < _
          omega
        refine SV.to (ρ := rhoWI size ls x pk (some (rowD (shp (rowN size ls i))))) (M := [(x, .ins C (fsW K size ls q)), (q, .lst ((List.range (i + 1)).map fun j => rowD (rowN size ls j))), (pk, .dT (knC size ls (i + 1)))]) rfl ?_ ?_
        · show [_, _, (pk, MO.dT _)] = [_, _, (pk, MO.dT _)]
          rw [show knC size ls (i + 1) = _ from pairsT_succ i _ _]
        -- self.rows.append(self.row_behind(self.rows[-1]))
        refine sv_exprE rfl (ev_append (kk := 1) (pe_bm PySem.F.plainAttrs_list PySem.F.slot_list_append PySem.F.type_list_append mt_append peW paW) (ev_fld (d := .ref q) (ev_var (pv 0) rfl) rfl (.own (k := 0) rfl) rfl W.cl W.nRows) (av_cons (ev_methM (d := rowD (rowN size ls (i + 1))) (pe_meth peW W.cl mR GR (hr.mono (by decide)) bR .nil pass0 paW) (ev_var (pv 0) rfl) (.own (k := 0) rfl) rfl (av_cons (ev_ixL (d := rowD (rowN size ls i)) (ev_fld (ev_var (pv 0) rfl) rfl (.own (k := 0) rfl) rfl W.cl W.nRows) (ev_neg (ev_int)) (.lst (.own (k := 1) rfl)) atI_last) av_nil)
          ⟨size, ls, _, fsW K size ls q, costsC size ls, rowN size ls i, r, rowN_len size ls i, ⟨.own (k := 0) rfl, rfl, rfl, costsC_val⟩, rfl, rfl⟩) av_nil) rfl ⟨_, rfl⟩ ?_) ?_
        · rw [List.length_map, List.length_range]; omega
        · refine sv_nil ⟨reg + per - (i + 1), by omega, i + 1, _, rfl, by omega, rfl, ?_⟩
          show [_, (q, MO.lst _), _] = [_, (q, MO.lst _), _]
          rw [List.range_succ (n := i + 1), List.map_append]
          rfl
      · intro hk
        have hlt : ¬ i < reg + per := by simpa using hk
        have ei : i = reg + per := by omega
        subst ei
        exact ⟨rfl, rfl⟩
    rintro ρ' M' ⟨rfl, rfl⟩
    -- self.regular_from = known[shape]
    refine sv_fld (kk := 0) (d := natD reg) rfl (ev_dgetTM (n := 2) (ks := keysI (shp (rowN size ls (reg + per)))) hu (ev_var (pv 6) rfl) (EV.eq (d' := .tup ((keysI (shp (rowN size ls (reg + per)))).map keyD)) (ev_var (pv 7) rfl) (by rw [keysI_D]) rfl) rfl ?_) (ev_var (pv 0) rfl) rfl W.cl W.nReg (by show 3 < 1000; decide) ?_
    · refine pairsT_some ⟨reg, by omega, by rw [fi.eq]⟩ fun j hj e => ?_
      have e2 := keysI_inj e
      rw [fi.eq] at e2
      by_cases z : j = reg
      · rw [z]
      · rcases Nat.lt_or_gt_of_ne z with y | y
        · exact absurd e2 (fi.dis j reg y (by omega))
        · exact absurd e2.symm (fi.dis reg j y (by omega))
    -- self.period = len(self.rows) - 1 - self.regular_from
    refine sv_fld (kk := 0) (d := natD per) rfl (EV.eq (d' := natD per) (ev_sub (ev_sub (ev_cb (pe_callB call_len_seq (by rfl) T.len PySem.boot_len paW) (av_cons (ev_fld (ev_var (pv 0) rfl) rfl (.own (k := 0) rfl) rfl W.cl W.nRows) av_nil) (rs_lenL (.lst (.own (k := 1) rfl)))) (ev_int)) (ev_fld (d := natD reg) (ev_var (pv 0) rfl) rfl (.own (k := 0) rfl) rfl W.cl W.nReg)) ?_ rfl) (ev_var (pv 0) rfl) rfl W.cl W.nPer (by show 4 < 1000; decide) ?_
    · show D.int _ = D.int _
      congr 1
      rw [List.length_map, List.length_range]
      omega
    -- self.bytes = min(self.rows[-1]) - min(self.rows[self.regular_from])
    have hrow : ∀ n, rowN size ls n ≠ [] := fun n e => by
      have := rowN_len size ls n
      rw [e] at this
      exact h0 (List.length_eq_zero_iff.mp this.symm)
    refine sv_fld (kk := 0) rfl (ev_sub (ev_cb (pe_callB (cr_minT rfl) (by rfl) T.min (by decide +kernel) paW) (av_cons (ev_ixL (d := rowD (rowN size ls (reg + per))) (ev_fld (ev_var (pv 0) rfl) rfl (.own (k := 0) rfl) rfl W.cl W.nRows) (ev_neg (ev_int)) (.lst (.own (k := 1) rfl)) atI_last) av_nil) (rs_minT (hrow _))) (ev_cb (pe_callB (cr_minT rfl) (by rfl) T.min (by decide +kernel) paW) (av_cons (ev_ixL (d := rowD (rowN size ls reg)) (ev_fld (ev_var (pv 0) rfl) rfl (.own (k := 0) rfl) rfl W.cl W.nRows) (ev_fld (d := natD reg) (ev_var (pv 0) rfl) rfl (.own (k := 0) rfl) rfl W.cl W.nReg) (.lst (.own (k := 1) rfl)) ?_) av_nil) (rs_minT (hrow _)))) (ev_var (pv 0) rfl) rfl W.cl W.nByt (by show 5 < 1000; decide) ?_
    · refine at_nat (j := reg) ?_ rfl
      rw [List.getElem?_map, List.getElem?_range (by omega)]
      rfl
    · exact sv_nil ⟨q, pk, rfl⟩
  · rintro M' S' H' ⟨q, pk, rfl⟩ c
    obtain ⟨o1, r1, z1, c1, s1⟩ := cfg_frz (k := 1) c rfl
    obtain ⟨o2, r2, z2, c2, s2⟩ := cfg_frz (k := 0) c1 rfl
    obtain ⟨vs, e1, q1⟩ := r1
    obtain ⟨dx, ws, e2, q2⟩ := r2
    subst e1 e2
    refine ⟨_, step_take 0 (s1.trans c1 s2), cfg_take 0 c2, dx, ws, upd_same, ?_⟩
    have hxq : q ≠ x := by
      have := c.nd
      intro e
      subst e
      simp at this
    obtain ⟨v1, w1, rfl, a1, q2⟩ := reps_cons.mp q2
    obtain ⟨v2, w2, rfl, a2, q2⟩ := reps_cons.mp q2
    obtain ⟨v3, w3, rfl, a3, q2⟩ := reps_cons.mp q2
    refine reps_cons.mpr ⟨v1, _, rfl, a1.mono s2.sub, reps_cons.mpr ⟨v2, _, rfl, a2.mono s2.sub, reps_cons.mpr ⟨v3, w3, rfl, ?_, q2.mono s2.sub⟩⟩⟩
    refine rep_lst.mpr ⟨q, vs, rep_ref.mp a3, ?_, q1.mono (s1.sub.trans s2.sub)⟩
    rw [upd_ne hxq, upd_same]
end
end RL
namespace RL
open PySem L2
/-! Demand -/
abbrev sDm (i : Nat) : Stmt := inClass (top 7) i
structure CD (K : Fg) (mg : Str → Option Value) (C : Addr) : Prop where
  cl : Cls K C
  mgC : mg "Demand" = some (.ref C)
  nR : NoAttr K C "given_rules"
  nF : NoAttr K C "given_forced"
  nH : NoAttr K C "given_holds"
  nW : NoAttr K C "walks"
abbrev kwD : List (Str × V) := [("forced", .int 0), ("holds", .bl false)]
section
variable {P : Program} {w : World} {K : Fg} {mg : Str → Option Value} {base : Heap}
abbrev FunDI (K : Fg) (f : Addr) (fd : FuncData) : Prop := FunD K "__init__" "Demand.__init__" (defArgs (sDm 0)) (defBody (sDm 0)) (defScope (sDm 0)) [] kwD f fd
theorem bd0 {f : Addr} {fd : FuncData} (F : FunDI K f fd) : ∃ ds, Vals [V.int 0, V.bl false] ds ∧ Binds K fd ["self", "rules", "forced", "holds"] ds :=
  F.binds0 2 (by simp) rfl fun D doc pm an cdv ct us ks h1 h2 => match us, ks, h1, h2 with
    | [a, b], [c, d], _, _ => ⟨_, _, _, _, _, _, rfl, rfl, ⟨_, _, _, _, _, _, rfl, rfl, rfl⟩⟩
theorem bd1 {f : Addr} {fd : FuncData} (F : FunDI K f fd) : ∃ mv : List Value, KBn K fd ["self", "rules", "forced", "holds"] 2 ["forced"] (fun us ws => us ++ ws ++ mv) (fun vs zs => vs ++ zs ++ [V.bl false]) :=
  F.kbinds0 2 ["forced"] [("holds", .bl false)] (fun us mv ws => us ++ ws ++ mv) (by simp) (fun q hq => by simp at hq; subst hq; simp [kwD]) (fun a b c => (a.append c).append b) fun D doc pm an cdv ct us mv ws h1 h2 h3 => match us, mv, ws, h1, h2, h3 with
    | [a, b], [c], [d], _, _, _ => ⟨_, _, _, _, _, _, rfl, rfl, rfl⟩
theorem bd2 {f : Addr} {fd : FuncData} (F : FunDI K f fd) : ∃ mv : List Value, KBn K fd ["self", "rules", "forced", "holds"] 2 ["forced", "holds"] (fun us ws => us ++ ws ++ mv) (fun vs zs => vs ++ zs ++ []) :=
  F.kbinds0 2 ["forced", "holds"] [] (fun us mv ws => us ++ ws ++ mv) (by simp) (fun q hq => by simp at hq) (fun a b c => (a.append c).append b) fun D doc pm an cdv ct us mv ws h1 h2 h3 => match us, mv, ws, h1, h2, h3 with
    | [a, b], [], [c, d], _, _, _ => rfl

abbrev bytW (size : Nat) (ls : List Nat) (reg per : Nat) : Int := minI (rowN size ls (reg + per)) - minI (rowN size ls reg)
abbrev wkW (K : Fg) (Ck : Addr) (size : Nat) (ls : List Nat) (reg per : Nat) : D := .obj (insOT K Ck (wkFs K size ls (costsC size ls) reg per (bytW size ls reg per)))
theorem wkW_ok {size : Nat} {ls : List Nat} {reg per : Nat} (r : Ru size ls) (f : First size ls reg per) : WkOK size ls (costsC size ls) reg per (bytW size ls reg per) := ⟨r, f.reg, costsC_val⟩
abbrev dmFs (K : Fg) (Ck : Addr) (size : Nat) (ls : List Nat) (reg per forced : Nat) (holds : Bool) : List (Str × D) := [("given_rules", rulesD size ls), ("given_forced", natD forced), ("given_holds", .bl holds), ("walks", wkW K Ck size ls reg per)]
abbrev dmD (K : Fg) (C Ck : Addr) (size : Nat) (ls : List Nat) (reg per forced : Nat) (holds : Bool) : D := .obj (insOT K C (dmFs K Ck size ls reg per forced holds))
def spDI (K : Fg) (C Ck : Addr) : List D → OT → Prop := fun ds t => ∃ size ls reg per forced holds, Ru size ls ∧ First size ls reg per ∧ ds = [rulesD size ls, natD forced, .bl holds] ∧ t = insOT K C (dmFs K Ck size ls reg per forced holds)
abbrev nDI : List Str := ["self", "rules", "forced", "holds"]
abbrev scDI : FnScope nDI ["self", "rules", "forced", "holds"] (defScope (sDm 0)) := ⟨rfl, rfl, rfl, by decide +kernel, rfl, by decide +kernel, by decide +kernel⟩
theorem ok_DI {f C Ck fW : Addr} {fd fdW : FuncData} (F : FunDI K f fd) (T : Bl mg) (Dm : CD K mg C) (W : CW K mg Ck) (M : Mk K Ck fW) (GW : FnOk P w K mg base CX0 3 fW fdW ["self", "rules"] (mkI K Ck (spWI K Ck))) (bW : Binds K fdW ["self", "rules"] []) :
    FnOk P w K mg base CX0 5 f fd ["self", "rules", "forced", "holds"] (mkI K C (spDI K C Ck)) := by
  refine fn_init F scDI (fun ds t ⟨_, _, _, _, _, _, _, _, e, _⟩ => by rw [e]; rfl) (fun cdv A outer s H E hr x ds t ⟨size, ls, reg, per, forced, holds, r, fi, e1, e2⟩ => ?_)
  subst e1 e2
  refine ⟨fun M' => M' = [(x, .ins C (dmFs K Ck size ls reg per forced holds))], ?_, ?_⟩
  · refine sv_fld (kk := 0) rfl (ev_var (pv 1) rfl) (ev_var (pv 0) rfl) rfl Dm.cl Dm.nR (by show 0 < 1000; decide) ?_
    refine SV.to (ρ := startR nDI [.ref x, rulesD size ls, natD forced, .bl holds]) (M := [(x, .ins C [("given_rules", rulesD size ls)])]) rfl rfl ?_
    refine sv_fld (kk := 0) rfl (ev_var (pv 2) rfl) (ev_var (pv 0) rfl) rfl Dm.cl Dm.nF (by show 1 < 1000; decide) ?_
    refine SV.to (ρ := startR nDI [.ref x, rulesD size ls, natD forced, .bl holds]) (M := [(x, .ins C [("given_rules", rulesD size ls), ("given_forced", natD forced)])]) rfl rfl ?_
    refine sv_fld (kk := 0) rfl (ev_var (pv 3) rfl) (ev_var (pv 0) rfl) rfl Dm.cl Dm.nH (by show 2 < 1000; decide) ?_
    refine SV.to (ρ := startR nDI [.ref x, rulesD size ls, natD forced, .bl holds]) (M := [(x, .ins C [("given_rules", rulesD size ls), ("given_forced", natD forced), ("given_holds", .bl holds)])]) rfl rfl ?_
    refine sv_fld (kk := 0) rfl (ev_make (t := insOT K Ck (wkFs K size ls (costsC size ls) reg per (bytW size ls reg per))) (pe_make M GW hr rfl W.mgC bW .nil pass0 paW) (av_cons (ev_var (pv 1) rfl) av_nil) ⟨size, ls, reg, per, r, fi, rfl, rfl⟩) (ev_var (pv 0) rfl) rfl Dm.cl Dm.nW (by show 3 < 1000; decide) ?_
    exact sv_nil rfl
  · rintro M' S' H' rfl c
    obtain ⟨o2, r2, z2, c2, s2⟩ := cfg_frz (k := 0) c rfl
    obtain ⟨dx, ws, e2, q2⟩ := r2
    subst e2
    exact ⟨_, s2, c2, dx, ws, upd_same, q2.mono s2.sub⟩
/-! least_for -/
def spLF (K : Fg) (C Ck : Addr) : Spec := fun ds M R => ∃ size ls reg per forced holds n, Ru size ls ∧ First size ls reg per ∧ ds = [dmD K C Ck size ls reg per forced holds, natD n] ∧ M = [] ∧ R = Out (.int (leastF size ls holds n)) []
abbrev nLF : List Str := ["self", "rotations"]
abbrev scLF : FnScope nLF ["self", "rotations"] (defScope (sDm 4)) := ⟨rfl, rfl, rfl, by decide +kernel, rfl, by decide +kernel, by decide +kernel⟩
theorem ok_LF {f C Ck fE fB : Addr} {fd fdE fdB : FuncData} (F : Fun K "least_for" "Demand.least_for" (sDm 4) f fd) (Dm : CD K mg C) (W : CW K mg Ck)
    (GE : FnOk P w K mg base CX0 1 fE fdE ["self", "files"] (mk K (spLE K Ck))) (bE : Binds K fdE ["self", "files"] []) (mE : Meth K Ck "least_end" fE)
    (GB : FnOk P w K mg base CX0 2 fB fdB ["self", "rotations"] (mk K (spLB K Ck))) (bB : Binds K fdB ["self", "rotations"] []) (mB : Meth K Ck "least_bytes" fB) :
    FnOk P w K mg base CX0 3 f fd ["self", "rotations"] (mk K (spLF K C Ck)) := by
  refine fn_ok F scLF (fun ds M R ⟨_, _, _, _, _, _, _, _, _, e, _, _⟩ => by rw [e]; rfl) (fun cdv A outer s H E hr ds M R ⟨size, ls, reg, per, forced, holds, n, r, fi, e1, e0, e2⟩ => ?_)
  subst e1 e0 e2
  have ok := wkW_ok r fi
  have hif : (if holds = true then D.int (leastE size ls n) else D.int (leastB size ls n)) = D.int (leastF size ls holds n) := by
    unfold leastF
    split <;> rfl
  refine sv_retE (EV.eq (d' := .int (leastF size ls holds n)) (ev_if (tv_val (ev_fld (ev_var (pv 0) rfl) rfl .obj rfl Dm.cl Dm.nH))
    (fun hc => ev_meth0 (d := .int (leastE size ls n)) (pe_meth peW W.cl mE GE (hr.mono (by decide)) bE .nil pass0 paW) (ev_fld (ev_var (pv 0) rfl) rfl .obj rfl Dm.cl Dm.nW) .obj rfl (av_cons (ev_var (pv 1) rfl) av_nil) ⟨size, ls, _, reg, per, _, n, ok, rfl, rfl, rfl⟩)
    (fun hc => ev_meth0 (d := .int (leastB size ls n)) (pe_meth peW W.cl mB GB (hr.mono (by decide)) bB .nil pass0 paW) (ev_fld (ev_var (pv 0) rfl) rfl .obj rfl Dm.cl Dm.nW) .obj rfl (av_cons (ev_var (pv 1) rfl) av_nil) ⟨size, ls, _, reg, per, _, n, ok, rfl, rfl, rfl⟩)) hif rfl) ⟨rfl, rfl⟩
end
end RL
namespace RL
open PySem L2
section
variable {P : Program} {w : World} {K : Fg} {mg : Str → Option Value} {base : Heap}
/-! Demand.__call__ -/
abbrev nDC : List Str := ["self", "limit", "low", "high", "middle"]
abbrev scDC : FnScope nDC ["self", "limit"] (defScope (sDm 6)) := ⟨rfl, rfl, rfl, by decide +kernel, rfl, by decide +kernel, by decide +kernel⟩
def spDC (K : Fg) (C Ck : Addr) : Spec := fun ds M R => ∃ size ls reg per forced holds L, Ru size ls ∧ First size ls reg per ∧ ds = [dmD K C Ck size ls reg per forced holds, natD L] ∧ M = [] ∧ R = Out (natD (callN size ls forced holds L)) []
abbrev rhoDC (d : D) (L lo hi : Nat) (o : Option D) : Rho := [some d, some (natD L), some (natD lo), some (natD hi), o]
theorem ok_DC {f C Ck fL : Addr} {fd fdL : FuncData} (F : Fun K "__call__" "Demand.__call__" (sDm 6) f fd) (Dm : CD K mg C)
    (GL : FnOk P w K mg base CX0 3 fL fdL ["self", "rotations"] (mk K (spLF K C Ck))) (bL : Binds K fdL ["self", "rotations"] []) (mL : Meth K C "least_for" fL) :
    FnOk P w K mg base CX0 4 f fd ["self", "limit"] (mk K (spDC K C Ck)) := by
  refine fn_ok F scDC (fun ds M R ⟨_, _, _, _, _, _, _, _, _, e, _, _⟩ => by rw [e]; rfl) (fun cdv A outer s H E hr ds M R ⟨size, ls, reg, per, forced, holds, L, r, fi, e1, e0, e2⟩ => ?_)
  subst e1 e0 e2
  have h0 := leastF_zero r holds
  -- low, high = (0, limit)
  refine sv_par (n := 2) (m := 3) (ps_par (i := 2) (j := 3) rfl scDC.nd rfl rfl (by decide) rfl rfl paW (by rfl)) (av_cons (ev_int) (av_cons (ev_var (pv 1) rfl) av_nil)) ?_
  refine SV.to (ρ := rhoDC (dmD K C Ck size ls reg per forced holds) L 0 L none) (M := []) rfl rfl ?_
  -- if limit < self.least_for(0): return 0
  refine sv_ifL (tv_lt (ev_var (pv 1) rfl) (ev_meth0 (d := .int (leastF size ls holds 0)) (pe_meth peW Dm.cl mL GL (hr.mono (by decide)) bL .nil pass0 paW) (ev_var (pv 0) rfl) .obj rfl (av_cons (ev_int) av_nil) ⟨size, ls, reg, per, forced, holds, 0, r, fi, rfl, rfl, rfl⟩)) (fun hc => ?_) (fun hc => ?_)
  · refine sv_retE (ev_int) ⟨?_, rfl⟩
    have hc : (L : Int) < leastF size ls holds 0 := by simpa using hc
    unfold callN
    rw [if_pos (by omega)]
    rfl
  have hc : ¬ (L : Int) < leastF size ls holds 0 := by simpa using hc
  have hL : ls.getD 0 0 ≤ L := by omega
  -- the search
  refine sv_cons (R := fun ρ' M' => M' = [] ∧ ∃ o, ρ' = rhoDC (dmD K C Ck size ls reg per forced holds) L (cnt size ls holds L) (cnt size ls holds L) o) (s1_while PassesOwn.never
    (fun m ρ' M' => M' = [] ∧ ∃ lo hi o, m = hi - lo ∧ lo ≤ cnt size ls holds L ∧ cnt size ls holds L ≤ hi ∧ ρ' = rhoDC (dmD K C Ck size ls reg per forced holds) L lo hi o) (m0 := L) ⟨rfl, 0, L, none, rfl, Nat.zero_le _, topN_le _ _ _, rfl⟩ ?_) ?_
  · rintro m ρ' M' ⟨rfl, lo, hi, o, rfl, h1, h2, rfl⟩
    refine ⟨decide ((lo : Int) < hi), [], tv_lt (ev_var (pv 2) rfl) (ev_var (pv 3) rfl), fun hk => ?_, fun hk => ?_⟩
    · have hlt : (lo : Int) < hi := by simpa using hk
      -- middle = (low + high + 1) // 2
      refine sv_set (n := 4) (ps_set (i := 4) scDC.nd rfl (by first | exact Or.inl rfl | exact Or.inr rfl) peW) (EV.eq (d' := natD ((lo + hi + 1) / 2)) (ev_div (ev_add (ev_add (ev_var (pv 2) rfl) (ev_var (pv 3) rfl)) (ev_int)) (ev_int) ⟨by omega, by decide⟩) ?_ rfl) ?_
      · show D.int _ = D.int _
        congr 1
      generalize hm : (lo + hi + 1) / 2 = mid
      have hiff := cnt_iff r (holds := holds) hL mid
      refine sv_one (s1_if (tv_le (ev_meth0 (d := .int (leastF size ls holds mid)) (pe_meth peW Dm.cl mL GL (hr.mono (by decide)) bL .nil pass0 paW) (ev_var (pv 0) rfl) .obj rfl (av_cons (ev_var (pv 4) rfl) av_nil) ⟨size, ls, reg, per, forced, holds, mid, r, fi, rfl, rfl, rfl⟩) (ev_var (pv 1) rfl)) (fun hc => ?_) (fun hc => ?_))
      · have hc : leastF size ls holds mid ≤ L := by simpa using hc
        refine sv_set (n := 2) (ps_set (i := 2) scDC.nd rfl (by first | exact Or.inl rfl | exact Or.inr rfl) peW) (ev_var (pv 4) rfl) ?_
        exact sv_nil ⟨hi - mid, by omega, rfl, mid, hi, _, rfl, hiff.mp hc, h2, rfl⟩
      · have hc : ¬ leastF size ls holds mid ≤ L := by simpa using hc
        have : ¬ mid ≤ cnt size ls holds L := fun z => hc (hiff.mpr z)
        refine sv_set (n := 3) (ps_set (i := 3) scDC.nd rfl (by first | exact Or.inl rfl | exact Or.inr rfl) peW) (EV.eq (d' := natD (mid - 1)) (ev_sub (ev_var (pv 4) rfl) (ev_int)) (by show D.int _ = D.int _; congr 1; omega) rfl) ?_
        exact sv_nil ⟨mid - 1 - lo, by omega, rfl, lo, mid - 1, _, rfl, h1, by omega, rfl⟩
    · have hlt : ¬ (lo : Int) < hi := by simpa using hk
      have e1 : lo = cnt size ls holds L := by omega
      have e2 : hi = cnt size ls holds L := by omega
      exact ⟨rfl, o, by rw [e1, e2]⟩
  rintro ρ' M' ⟨rfl, o, rfl⟩
  -- return low + self.given_forced
  refine sv_retE (ev_add (ev_var (pv 2) rfl) (ev_fld (ev_var (pv 0) rfl) rfl .obj rfl Dm.cl Dm.nF)) ⟨?_, rfl⟩
  unfold callN
  rw [if_neg (by omega)]
  rfl
theorem raw0 {f : Addr} {fd : FuncData} {ps : List Str} {k : Nat} {sp : Sp} (G : FnOk P w K mg base CX0 k f fd ps sp) (b : Binds K fd ps []) : FnR P w K mg base CX0 k f sp := (G.raw b .nil).imp fun vs H Q E h => by rw [List.append_nil]; exact h
/-! needed -/
abbrev sNe : Stmt := top 8
abbrev FunNe (K : Fg) (f : Addr) (fd : FuncData) : Prop := FunD K "needed" "needed" (defArgs sNe) (defBody sNe) (defScope sNe) [] kwD f fd
theorem bn0 {f : Addr} {fd : FuncData} (F : FunNe K f fd) : ∃ ds, Vals [V.int 0, V.bl false] ds ∧ Binds K fd ["rules", "limit", "forced", "holds"] ds :=
  F.binds0 2 (by simp) rfl fun D doc pm an cdv ct us ks h1 h2 => match us, ks, h1, h2 with
    | [a, b], [c, d], _, _ => ⟨_, _, _, _, _, _, rfl, rfl, ⟨_, _, _, _, _, _, rfl, rfl, rfl⟩⟩
def spNe : Spec := fun ds M R => ∃ size ls forced holds L, Ru size ls ∧ ds = [rulesD size ls, natD L, natD forced, .bl holds] ∧ M = [] ∧ R = Out (natD (callN size ls forced holds L)) []
abbrev nNe : List Str := ["rules", "limit", "forced", "holds"]
abbrev scNe : FnScope nNe nNe (defScope sNe) := ⟨rfl, rfl, rfl, by decide +kernel, rfl, by decide +kernel, by decide +kernel⟩
theorem ok_Ne {f C Ck fI fC : Addr} {fd fdI fdC : FuncData} (F : FunNe K f fd) (Dm : CD K mg C) (M : Mk K C fI) (FI : FunDI K fI fdI) (GI : FnOk P w K mg base CX0 5 fI fdI ["self", "rules", "forced", "holds"] (mkI K C (spDI K C Ck)))
    (GC : FnOk P w K mg base CX0 4 fC fdC ["self", "limit"] (mk K (spDC K C Ck))) (bC : Binds K fdC ["self", "limit"] []) (cC : StX.CallO K C fC) :
    FnOk P w K mg base CX0 7 f fd nNe (mk K spNe) := by
  obtain ⟨mv, b2⟩ := bd2 FI
  refine fn_okD (sp := spNe) (ps := nNe) F scNe (fun ds M R h => by obtain ⟨_, _, _, _, _, _, e, _, _⟩ := h; rw [e]; rfl) (fun cdv A outer s H E hr ds M R h => ?_)
  obtain ⟨size, ls, forced, holds, L, r, e1, e0, e2⟩ := h
  subst e1 e0 e2
  obtain ⟨reg, per, fi⟩ := (ends_of r).first
  refine sv_retE (ev_callO (f := spDC K C Ck) (C := C) (d := natD (callN size ls forced holds L)) (StX.pe_callO peW cC (raw0 GC bC) (hr.mono (by decide)) pass0 paW)
    (ev_makeK (ds3 := [rulesD size ls, natD forced, .bl holds]) (t := insOT K C (dmFs K Ck size ls reg per forced holds)) (pe_makeK M GI hr rfl Dm.mgC b2 pass0 paW pkW) (av_cons (ev_var (pv 0) rfl) av_nil) (kv_cons (ev_var (pv 2) rfl) (kv_cons (ev_var (pv 3) rfl) kv_nil)) rfl rfl ?_ ⟨size, ls, reg, per, forced, holds, r, fi, rfl, rfl⟩)
    (fun _ => .obj) (av_cons (ev_var (pv 1) rfl) av_nil) ⟨size, ls, reg, per, forced, holds, L, r, fi, rfl, rfl, rfl⟩) ⟨rfl, rfl⟩
  intro S vs ws x r1 r2
  refine ⟨vs ++ ws, ?_, r1.append r2⟩
  simp
end
end RL
namespace RL
open PySem L2
section
variable {X : Cx} {M : Mem}
theorem fs_sortedD {q : Addr} {fk : List Nat} {k : Nat} (h : M[k]? = some (q, .dK (kvB fk))) (hl : fk.length < 64) : FSn X.K (fun xs H Q => ∃ (a : Addr) (kvs : List (Key × V)) (ks : List Int), xs = [.ref a] ∧ Rd H a (.dK kvs) ∧ kvs.map (·.1) = ks.map Sum.inl ∧ ks.length < 64 ∧
    ∀ (ys : List Int) (p : Addr), ys.Perm ks → ys.Pairwise (· ≤ ·) → H p = none → Q (.ref p) (upd H p (.lst (ys.map V.int)))) M [.ref q] ((srt (fk.map fun (x : Nat) => (x : Int))).map D.int) := fun S H vs Q c r hR => by
  obtain ⟨v, rfl, r1⟩ := one_of r
  obtain ⟨o, ho, ws, e, q1⟩ := c.at h
  subst e
  rw [rep_ref.mp r1]
  have l := q1.length
  refine ⟨q, _, fk.map fun (x : Nat) => (x : Int), rfl, .inl ho, ?_, by rw [List.length_map]; exact hl, fun ys p hp hs hn => hR p _ hn ?_⟩
  · rw [List.map_fst_zip (by rw [List.length_map] at l ⊢; omega), List.map_map, List.map_map]
    rfl
  · rw [srt_eq hp hs]
    exact Reps.ints.mpr rfl
end
abbrev sBox : Stmt := top 10
abbrev sTake : Stmt := top 11
abbrev sOf : Stmt := top 12
abbrev sBook : Stmt := top 13
section
variable {P : Program} {w : World} {K : Fg} {mg : Str → Option Value} {base : Heap}
abbrev nBox : List Str := ["_law_script", "_law_k", "_law_cell", "_law_own"]
abbrev scBox : FnScope nBox ["_law_script", "_law_k"] (defScope sBox) := ⟨rfl, rfl, rfl, by decide +kernel, rfl, by decide +kernel, by decide +kernel⟩
def spBox (K : Fg) : Spec := fun ds M R => ∃ ns k, k ≤ 10 ∧ ds = [.obj (scrOT K ns), natD k] ∧ M = [] ∧ R = fun d M' => ∃ p, d = .ref p ∧ M' = boxM p (boxOf ns k)
theorem ok_Box {f : Addr} {fd : FuncData} (F : Fun K "_law_box" "_law_box" sBox f fd) (T : Bl mg) : FnOk P w K mg base CX0 1 f fd ["_law_script", "_law_k"] (mk K (spBox K)) := by
  refine fn_ok F scBox (fun ds M R ⟨_, _, _, e, _, _⟩ => by rw [e]; rfl) (fun cdv A outer s H E hr ds M R ⟨ns, k, hk, e1, e0, e2⟩ => ?_)
  subst e1 e0 e2
  -- cell
  refine sv_set (n := 2) (ps_set (i := 2) scBox.nd rfl (by first | exact Or.inl rfl | exact Or.inr rfl) peW) (EV.eq (d' := .int (cellOf ns k)) (ev_if (tv_lt (ev_var (pv 1) rfl) (ev_cb (pe_callB call_len_seq (by rfl) T.len PySem.boot_len paW) (av_cons (ev_var (pv 0) rfl) av_nil) (rs_lenL .scr))) (fun hc => ev_ixL (d := .int (ns.getD k 0)) (ev_var (pv 0) rfl) (ev_var (pv 1) rfl) .scr ?_) (fun hc => ev_add (ev_mul (ev_int) (ev_var (pv 1) rfl) ?_) (ev_int))) ?_ rfl) ?_
  · have hc : k < ns.length := by simpa using hc
    refine at_nat (j := k) ?_ rfl
    rw [List.getElem?_map, List.getD_eq_getElem?_getD, List.getElem?_eq_getElem hc]
    rfl
  · exact .inr ⟨by omega, by omega⟩
  · unfold cellOf
    rw [List.length_map]
    by_cases h : k < ns.length
    · rw [if_pos h, if_pos (by simpa using h)]
    · rw [if_neg h, if_neg (by simpa using h)]
  generalize hcell : cellOf ns k = cell
  have hb : boxOf ns k = ((cell.natAbs % big) * (if 10 ^ 18 ≤ cell.natAbs then 1 else 0), ((cell % 2305843009213693951 * 70003 + 6011 * k * k + 61) % 2305843009213693921).toNat, 0) := by
    unfold boxOf
    rw [hcell]
  -- own
  refine sv_set (n := 3) (ps_set (i := 3) scBox.nd rfl (by first | exact Or.inl rfl | exact Or.inr rfl) peW) (EV.eq (d' := natD ((cell.natAbs % big) * (if 10 ^ 18 ≤ cell.natAbs then 1 else 0))) (ev_mul (ev_mod (ev_cb (pe_callB call_abs (by rfl) T.abs (by decide +kernel) paW) (av_cons (ev_var (pv 2) rfl) av_nil) rs_abs) (ev_pow (ev_pow (ev_int) (ev_int) ?_) (ev_int) ?_) ?_) (ev_cb (pe_callTy call_int1 (by rfl) T.int (by decide +kernel) paW) (av_cons (ev_ge (ev_cb (pe_callB call_abs (by rfl) T.abs (by decide +kernel) paW) (av_cons (ev_var (pv 2) rfl) av_nil) rs_abs) (ev_pow (ev_int) (ev_int) ?_)) av_nil) rs_intB) ?_) ?_ rfl) ?_
  · decide +kernel
  · decide +kernel
  · decide +kernel
  · decide +kernel
  · exact .inr ⟨by split <;> omega, by split <;> omega⟩
  · show D.int _ = D.int _
    rw [big_int, show ((10 : Int) ^ (18 : Int).toNat) = 1000000000000000000 by decide +kernel, Int.natCast_mul, Int.natCast_emod]
    congr 2
    by_cases h : 10 ^ 18 ≤ cell.natAbs
    · rw [if_pos h, if_pos (by rw [decide_eq_true_eq]; omega)]; rfl
    · rw [if_neg h, if_neg (by rw [decide_eq_true_eq]; omega)]; rfl
  -- the list
  refine sv_ret (ev_new (fv_lst (av_cons (ev_var (pv 3) rfl) (av_cons (ev_mod (ev_add (ev_add (ev_mul (ev_mod (ev_var (pv 2) rfl) (ev_int) ?_) (ev_int) ?_) (ev_mul (ev_mul (ev_int) (ev_var (pv 1) rfl) ?_) (ev_var (pv 1) rfl) ?_)) (ev_int)) (ev_int) ?_) (av_cons (ev_int) av_nil))) (by show 3 ≤ sizeLine; decide))) ?_
  · decide
  · exact .inr ⟨by omega, by omega⟩
  · exact .inr ⟨by omega, by omega⟩
  · exact .inr ⟨by omega, by omega⟩
  · decide
  · rintro d M' ⟨p, hp, rfl, rfl⟩
    refine ⟨p, rfl, ?_⟩
    rw [hb]
    show [(p, MO.lst [D.int _, D.int _, D.int _])] = [(p, MO.lst [D.int _, D.int _, D.int _])]
    have b := Int.emod_nonneg ((cell % 2305843009213693951 * 70003 + 6011 * k * k + 61)) (by decide : (2305843009213693921 : Int) ≠ 0)
    congr 5
    exact congrArg D.int (Int.toNat_of_nonneg b).symm

abbrev nTake : List Str := ["_law_box_here", "_law_many", "_law_digit", "_law_mixed"]
abbrev scTake : FnScope nTake ["_law_box_here", "_law_many"] (defScope sTake) := ⟨rfl, rfl, rfl, by decide +kernel, rfl, by decide +kernel, by decide +kernel⟩
def spTake : Spec := fun ds M R => ∃ p b n m, BxOk b n ∧ n ≤ 1000000 ∧ 0 < m ∧ m ≤ 10 ^ 18 ∧ ds = [.ref p, natD m] ∧ M = boxM p b ∧ R = Out (natD (takeV b m)) (boxM p (takeS b m))
theorem ok_Take {f : Addr} {fd : FuncData} (F : Fun K "_law_take" "_law_take" sTake f fd) : FnOk P w K mg base CX0 1 f fd ["_law_box_here", "_law_many"] (mk K spTake) := by
  refine fn_ok F scTake (fun ds M R ⟨_, _, _, _, _, _, _, _, e, _, _⟩ => by rw [e]; rfl) (fun cdv A outer s H E hr ds M R ⟨p, b, n, m, ok, hn, hm, hm2, e1, e0, e2⟩ => ?_)
  subst e1 e0 e2
  obtain ⟨a, s0, c⟩ := b
  have hc : c ≤ n := ok.h3
  have hs : s0 < 2 ^ 61 := ok.h2
  have hdiv : CDivW (a : Int) (m : Int) := ⟨by omega, by
    have : (m : Int).natAbs.log2 < 64 := (Nat.log2_lt (by omega)).mpr (by omega)
    omega⟩
  refine sv_ifL (tv_gt (ev_ixL (d := natD a) (ev_var (pv 0) rfl) (ev_int) (.lst (.own (k := 0) rfl)) rfl) (ev_int)) (fun h => ?_) (fun h => ?_)
  · have h : 0 < a := by simpa using h
    refine sv_set (n := 2) (ps_set (i := 2) scTake.nd rfl (by first | exact Or.inl rfl | exact Or.inr rfl) peW) (EV.eq (d' := natD (a % m)) (ev_mod (ev_ixL (d := natD a) (ev_var (pv 0) rfl) (ev_int) (.lst (.own (k := 0) rfl)) rfl) (ev_var (pv 1) rfl) (by omega)) (by show D.int _ = D.int _; rw [Int.natCast_emod]) rfl) ?_
    refine sv_setL (ps_asg peW (pg_sub peW peW set_list)) (EV.eq (d' := natD (a / m)) (ev_div (ev_ixL (d := natD a) (ev_var (pv 0) rfl) (ev_int) (.lst (.own (k := 0) rfl)) rfl) (ev_var (pv 1) rfl) hdiv) (by show D.int _ = D.int _; rw [Int.natCast_ediv]) rfl) (ev_var (pv 0) rfl) (ev_int) (kk := 0) rfl (n := 0) rfl ?_
    refine sv_retE (ev_var (pv 2) rfl) ⟨?_, ?_⟩
    · show natD (a % m) = natD (takeV (a, s0, c) m)
      unfold takeV
      rw [if_pos h]
    · show [(p, MO.lst _)] = boxM p (takeS (a, s0, c) m)
      unfold takeS
      rw [if_pos h]
      rfl
  have h : ¬ 0 < a := by simpa using h
  refine sv_setL (ps_asg peW (pg_sub peW peW set_list)) (d := natD (c + 1)) (ev_add (ev_ixL (d := natD c) (ev_var (pv 0) rfl) (ev_int) (.lst (.own (k := 0) rfl)) rfl) (ev_int)) (ev_var (pv 0) rfl) (ev_int) (kk := 0) rfl (n := 2) rfl ?_
  refine SV.to (ρ := startR nTake [.ref p, natD m]) (M := boxM p (a, s0, c + 1)) rfl rfl ?_
  generalize hC : c + 1 = C
  have hC2 : C ≤ 1000001 := by omega
  refine sv_set (n := 3) (ps_set (i := 3) scTake.nd rfl (by first | exact Or.inl rfl | exact Or.inr rfl) peW) (EV.eq (d' := natD ((s0 + 65557 * C * C + 19) * 48311 % 2305843009213693921)) (ev_mod (ev_mul (ev_add (ev_add (ev_ixL (d := natD s0) (ev_var (pv 0) rfl) (ev_int) (.lst (.own (k := 0) rfl)) rfl) (ev_mul (ev_mul (ev_int) (ev_ixL (d := natD C) (ev_var (pv 0) rfl) (ev_int) (.lst (.own (k := 0) rfl)) rfl) ?_) (ev_ixL (d := natD C) (ev_var (pv 0) rfl) (ev_int) (.lst (.own (k := 0) rfl)) rfl) ?_)) (ev_int)) (ev_int) ?_) (ev_int) ?_) ?_ rfl) ?_
  · exact .inl ⟨by decide, by decide⟩
  · exact .inr ⟨by omega, by omega⟩
  · exact .inr ⟨by decide, by decide⟩
  · decide
  · show D.int _ = D.int _
    congr 1
  generalize hX : (s0 + 65557 * C * C + 19) * 48311 % 2305843009213693921 = x
  refine sv_set (n := 3) (ps_set (i := 3) scTake.nd rfl (by first | exact Or.inl rfl | exact Or.inr rfl) peW) (EV.eq (d' := natD (x * (x % 1000037 + 99989 * C) % 2305843009213693907)) (ev_mod (ev_mul (ev_var (pv 3) rfl) (ev_add (ev_mod (ev_var (pv 3) rfl) (ev_int) ?_) (ev_mul (ev_int) (ev_ixL (d := natD C) (ev_var (pv 0) rfl) (ev_int) (.lst (.own (k := 0) rfl)) rfl) ?_)) ?_) (ev_int) ?_) ?_ rfl) ?_
  · decide
  · exact .inl ⟨by decide, by decide⟩
  · exact .inr ⟨by omega, by omega⟩
  · decide
  · show D.int _ = D.int _
    congr 1
  have hX2 : x * (x % 1000037 + 99989 * C) % 2305843009213693907 = mixB s0 C := by
    unfold mixB
    rw [hX]
  rw [hX2]
  generalize hY : mixB s0 C = y
  refine sv_retE (EV.eq (d' := natD ((y / 103 + y / 1000003) % m)) (ev_mod (ev_add (ev_div (ev_var (pv 3) rfl) (ev_int) ?_) (ev_div (ev_var (pv 3) rfl) (ev_int) ?_)) (ev_var (pv 1) rfl) (by omega)) ?_ rfl) ⟨?_, ?_⟩
  · exact ⟨by decide, by decide⟩
  · exact ⟨by decide, by decide⟩
  · show D.int _ = D.int _
    congr 1
  · show natD _ = natD (takeV (a, s0, c) m)
    unfold takeV
    rw [if_neg h, hC, hY]
  · show boxM p (a, s0, C) = boxM p (takeS (a, s0, c) m)
    unfold takeS
    rw [if_neg h, hC]
/-! _law_of: of a list of any data -/
abbrev nOf : List Str := ["_law_box_here", "_law_some"]
abbrev scOf : FnScope nOf nOf (defScope sOf) := ⟨rfl, rfl, rfl, by decide +kernel, rfl, by decide +kernel, by decide +kernel⟩
def spOf : Spec := fun ds M R => ∃ p b n xs, BxOk b n ∧ n ≤ 1000000 ∧ 0 < xs.length ∧ xs.length ≤ 10000 ∧ ds = [.ref p, .lst xs] ∧ M = boxM p b ∧ R = Out (xs.getD (takeV b xs.length) .non) (boxM p (takeS b xs.length))
theorem ok_Of {f fT : Addr} {fd fdT : FuncData} (F : Fun K "_law_of" "_law_of" sOf f fd) (T : Bl mg) (GT : FnOk P w K mg base CX0 1 fT fdT ["_law_box_here", "_law_many"] (mk K spTake)) (kT : PySem.W.keepIn K (.ref fT) = true) (bT : Binds K fdT ["_law_box_here", "_law_many"] []) (gT : mg "_law_take" = some (.ref fT)) :
    FnOk P w K mg base CX0 2 f fd nOf (mk K spOf) := by
  refine fn_ok F scOf (fun ds M R ⟨_, _, _, _, _, _, _, _, e, _, _⟩ => by rw [e]; rfl) (fun cdv A outer s H E hr ds M R ⟨p, b, n, xs, ok, hn, h0, h4, e1, e0, e2⟩ => ?_)
  subst e1 e0 e2
  refine sv_retE (ev_ixL (i := (takeV b xs.length : Int)) (d := xs.getD (takeV b xs.length) .non) (ev_var (pv 1) rfl) (ev_call1 (Mf := boxM p b) (Mr := []) (Mf' := boxM p (takeS b xs.length)) (pe_call GT (hr.mono (by decide)) (by rfl) gT kT bT .nil pass0 paW) (av_cons (ev_var (pv 0) rfl) (av_cons (ev_cb (pe_callB call_len_seq (by rfl) T.len PySem.boot_len paW) (av_cons (ev_var (pv 1) rfl) av_nil) (rs_lenL (.lst .dat))) av_nil)) rfl ⟨p, b, n, xs.length, ok, hn, h0, by omega, rfl, rfl, rfl⟩) (.lst .dat) ?_) ⟨rfl, rfl⟩
  refine at_nat (j := takeV b xs.length) ?_ rfl
  have := takeV_lt b h0
  rw [List.getD_eq_getElem?_getD, List.getElem?_eq_getElem this]
  rfl

/-! _law_book -/
abbrev nBook : List Str := ["_law_box_here", "_law_top", "_law_size", "_law_found", "_law_turn", "_law_some"]
abbrev scBook : FnScope nBook ["_law_box_here", "_law_top"] (defScope sBook) := ⟨rfl, rfl, rfl, by decide +kernel, rfl, by decide +kernel, by decide +kernel⟩
def spBook : Spec := fun ds M R => ∃ p b n t, BxOk b n ∧ n + 20 ≤ 1000000 ∧ 0 < t ∧ t ≤ 100 ∧ ds = [.ref p, natD t] ∧ M = boxM p b ∧ R = Out (rulesD (bookSize b t) (bookLs b t)) (boxM p (bookS b t))
abbrev rhoBook (p q : Addr) (t size : Nat) : Rho := [some (.ref p), some (natD t), some (natD size), some (.ref q), none, none]
theorem ok_Book {f fT fO : Addr} {fd fdT fdO : FuncData} (F : Fun K "_law_book" "_law_book" sBook f fd) (T : Bl mg) (GT : FnOk P w K mg base CX0 1 fT fdT ["_law_box_here", "_law_many"] (mk K spTake)) (kT : PySem.W.keepIn K (.ref fT) = true) (bT : Binds K fdT ["_law_box_here", "_law_many"] []) (gT : mg "_law_take" = some (.ref fT))
    (GO : FnOk P w K mg base CX0 2 fO fdO nOf (mk K spOf)) (kO : PySem.W.keepIn K (.ref fO) = true) (bO : Binds K fdO nOf []) (gO : mg "_law_of" = some (.ref fO)) :
    FnOk P w K mg base CX0 3 f fd ["_law_box_here", "_law_top"] (mk K spBook) := by
  refine fn_ok F scBook (fun ds M R ⟨_, _, _, _, _, _, _, _, e, _, _⟩ => by rw [e]; rfl) (fun cdv A outer s H E hr ds M R ⟨p, b, n, t, ok, hn, ht, ht2, e1, e0, e2⟩ => ?_)
  subst e1 e0 e2
  have hu := hu_of hr
  have hline : sizeLine = 16777216 := by decide
  have hv := takeV_lt b ht
  have ok1 := takeS_ok ok t
  have h6 := takeV_lt (takeS b t) (m := 6) (by omega)
  have ok2 := takeS_ok ok1 6
  have hsz : 1 ≤ bookSize b t ∧ bookSize b t ≤ 100 := by unfold bookSize; omega
  refine sv_parP (n := 2) (m := 3) (d1 := natD (bookSize b t)) (ps_par (i := 2) (j := 3) rfl scBook.nd rfl rfl (by decide) rfl rfl paW (by rfl)) (EV.eq (d' := natD (bookSize b t)) (ev_add (ev_int) (ev_call1 (Mf := boxM p b) (Mr := []) (Mf' := boxM p (takeS b t)) (pe_call GT (hr.mono (by decide)) (by rfl) gT kT bT .nil pass0 paW) (av_cons (ev_var (pv 0) rfl) (av_cons (ev_var (pv 1) rfl) av_nil)) rfl ⟨p, b, n, t, ok, by omega, ht, by omega, rfl, rfl, rfl⟩)) rfl rfl) ev_newD ?_
  rintro d2 M2 ⟨q, hq, rfl, rfl⟩
  have hpq : p ≠ q := fun e => hq (by rw [e]; simp)
  generalize hsize : bookSize b t = size at hsz
  -- for _law_turn in range(1 + _law_take(_law_box_here, 6)):
  refine sv_for (.nm 4) (ps_for PassesOwn.never rfl piW (pg_name (i := 4) scBook.nd rfl (by first | exact Or.inl rfl | exact Or.inr rfl)) pssW) (IV.cg (n' := 1 + takeV (takeS b t) 6) (ys := fun i => natD i) (iv_range1 (pi_range1 rfl T.range paW) (av_cons (ev_add (ev_int) (ev_call1 (Mf := boxM p (takeS b t)) (Mr := [(q, .dK [])]) (Mf' := boxM p (takeS (takeS b t) 6)) (pe_call GT (hr.mono (by decide)) (by rfl) gT kT bT .nil pass0 paW) (av_cons (ev_var (pv 0) rfl) (av_cons (ev_int) av_nil)) rfl ⟨p, takeS b t, n + 1, 6, ok1, by omega, by omega, by omega, rfl, rfl, rfl⟩)) av_nil) ?_ ?_) ?_ ?_)
    (fun _ => rhoBook p q t size) (fun i => boxM p (iterB size i (takeS (takeS b t) 6, [])).1 ++ [(q, .dK (kvB (iterB size i (takeS (takeS b t) 6, [])).2))]) ⟨rfl, rfl, rfl, rfl, trivial⟩ rfl (fun i hi => trivial) (fun i hi => ?_) ?_
  · omega
  · omega
  · omega
  · intro i hi
    show D.int _ = D.int _
    congr 1
    omega
  · have it := iterB_ok hsz.1 ok2 i
    show SV _ _ _ (boxM p (iterB size i (takeS (takeS b t) 6, [])).1 ++ [(q, .dK (kvB (iterB size i (takeS (takeS b t) 6, [])).2))]) _
    have e3 : iterB size (i + 1) (takeS (takeS b t) 6, []) = turnB size (iterB size i (takeS (takeS b t) 6, [])) := rfl
    rw [e3]
    generalize iterB size i (takeS (takeS b t) 6, []) = st at it ⊢
    obtain ⟨bb, fk⟩ := st
    obtain ⟨o1, nd, len, pos, bd⟩ := it
    have len : fk.length ≤ i := len
    have o1 : BxOk bb (n + 1 + 1 + 2 * i) := o1
    have o2 := takeS_ok o1 size
    have hv2 := takeV_lt bb (m := size) (by omega)
    have hv3 := takeV_lt (takeS bb size) (m := 9) (by omega)
    -- _law_some
    refine sv_set (n := 5) (ps_set (i := 5) scBook.nd rfl (by first | exact Or.inl rfl | exact Or.inr rfl) peW) (EV.eq (d' := .lst ([1 + takeV bb size, size / 2 + 1, 1, size, max 1 (size / 2), max 1 (size / 3)].map natD)) (ev_fv (fv_lst (av_cons (ev_add (ev_int) (ev_call1 (Mf := boxM p bb) (Mr := [(q, .dK (kvB fk))]) (Mf' := boxM p (takeS bb size)) (pe_call GT (hr.mono (by decide)) (by rfl) gT kT bT .nil pass0 paW) (av_cons (ev_var (pv 0) rfl) (av_cons (ev_var (pv 2) rfl) av_nil)) rfl ⟨p, bb, _, size, o1, by omega, by omega, by omega, rfl, rfl, rfl⟩)) (av_cons (ev_add (ev_div (ev_var (pv 2) rfl) (ev_int) ?_) (ev_int)) (av_cons (ev_int) (av_cons (ev_var (pv 2) rfl) (av_cons (ev_cb (pe_callB (call_max2 rfl) (by rfl) T.max (by decide +kernel) paW) (av_cons (ev_int) (av_cons (ev_div (ev_var (pv 2) rfl) (ev_int) ?_) av_nil)) rs_max2) (av_cons (ev_cb (pe_callB (call_max2 rfl) (by rfl) T.max (by decide +kernel) paW) (av_cons (ev_int) (av_cons (ev_div (ev_var (pv 2) rfl) (ev_int) ?_) av_nil)) rs_max2) av_nil)))))) (by show 6 ≤ sizeLine; decide))) ?_ rfl) ?_
    · exact ⟨by decide, by decide⟩
    · exact ⟨by decide, by decide⟩
    · exact ⟨by decide, by decide⟩
    · show D.lst [D.int _, D.int _, D.int _, D.int _, D.int _, D.int _] = D.lst [D.int _, D.int _, D.int _, D.int _, D.int _, D.int _]
      congr 7 <;> first | rfl | (congr 1; omega) | omega
    -- _law_found[_law_of(..)] = True
    refine sv_dputK (n := 1) (p := q) (kk := kvB fk) (ky := .inl (((nineB size (takeV bb size)).getD (takeV (takeS bb size) 9) 0 : Nat) : Int)) (d := .bl true) hu rfl (ev_bl) (ev_var (pv 3) rfl) (EV.eq (d' := keyD (.inl (((nineB size (takeV bb size)).getD (takeV (takeS bb size) 9) 0 : Nat) : Int))) (ev_call1 (d := ((nineB size (takeV bb size)).map natD).getD (takeV (takeS bb size) 9) .non) (Mf := boxM p (takeS bb size)) (Mr := [(q, .dK (kvB fk))]) (Mf' := boxM p (takeS (takeS bb size) 9)) (pe_call GO (hr.mono (by decide)) (by rfl) gO kO bO .nil pass0 paW)
      (av_cons (ev_var (pv 0) rfl) (av_cons (ev_fv (fv_cat (ev_fv (fv_rep (ev_fv (fv_slice (ev_var (pv 5) rfl) ov_none (ov_some (ev_int)) (.lst .dat))) (ev_int) .dat ?_ ?_ ?_)) (ev_var (pv 5) rfl) .dat .dat ?_)) av_nil)) rfl ⟨p, takeS bb size, _, (nineB size (takeV bb size)).map natD, o2, by omega, by show 0 < 9; omega, by show 9 ≤ 10000; omega, rfl, rfl, rfl⟩) ?_ rfl) rfl ?_ ?_
    · decide
    · decide
    · show 3 ≤ sizeLine; decide
    · show 9 ≤ sizeLine; decide
    · show ((nineB size (takeV bb size)).map natD).getD _ .non = natD _
      rw [getD_map 0 (by show _ < 9; exact hv3)]
    · rw [List.length_map]; omega
    · refine sv_nil ⟨⟨rfl, rfl, rfl, rfl, trivial⟩, ?_⟩
      show [_, (q, MO.dK _)] = [_, (q, MO.dK _)]
      rw [kvB_put]
      rfl
  · -- return (_law_size, tuple(sorted(_law_found)))
    have it := iterB_ok hsz.1 ok2 (1 + takeV (takeS b t) 6)
    have e4 : bookLs b t = sortN (iterB size (1 + takeV (takeS b t) 6) (takeS (takeS b t) 6, [])).2 := by unfold bookLs bookIt; rw [hsize]
    have e5 : bookS b t = (iterB size (1 + takeV (takeS b t) 6) (takeS (takeS b t) 6, [])).1 := by unfold bookS bookIt; rw [hsize]
    rw [e4, e5]
    generalize iterB size (1 + takeV (takeS b t) 6) (takeS (takeS b t) 6, []) = st at it ⊢
    obtain ⟨bb, fk⟩ := st
    obtain ⟨o1, nd, len, pos, bd⟩ := it
    have len : fk.length ≤ 1 + takeV (takeS b t) 6 := len
    refine sv_retE (ev_drop 1 (ev_tup (av_cons (ev_var (pv 2) rfl) (av_cons (EV.eq (d' := tupN (sortN fk)) (ev_cb (pe_callTy call_tuple_of (by rfl) T.tuple (by decide +kernel) paW) (av_cons (ev_fv (fv_cb (pe_callB (call_sortedDI rfl) (by rfl) T.sorted (by decide +kernel) paW) (av_cons (ev_var (pv 3) rfl) av_nil) (fs_sortedD (fk := fk) (k := 1) rfl (by omega)))) av_nil) (rs_tupL .dat)) ?_ rfl) av_nil)) (by show 2 ≤ sizeLine; decide))) ⟨rfl, rfl⟩
    show D.tup _ = D.tup _
    rw [sortN_srt, List.map_map]
    rfl
end
end RL
namespace RL
open PySem L2
abbrev sRight : Stmt := top 14
abbrev sLaw : Stmt := top 15
abbrev nRight : List Str := ["_law_box_here", "_law_turn", "_law_book_here", "_law_often", "_law_plain", "_law_one", "_law_more", "_law_held", "_law_bounds", "_law_again", "_law_row", "_law_bound", "_law_count"]
abbrev scRight : FnScope nRight ["_law_box_here"] (defScope sRight) := ⟨rfl, rfl, rfl, by decide +kernel, rfl, by decide +kernel, by decide +kernel⟩
def spRight : Spec := fun ds M R => ∃ p b, BxOk b 0 ∧ ds = [.ref p] ∧ M = boxM p b ∧ R = fun d M' => d = .bl true
abbrev rhoR (p : Addr) (tn : D) (size : Nat) (ls : List Nat) (oft : Nat) (d4 d5 d6 d7 : D) (o8 o9 o10 o11 o12 : Option D) : Rho := [some (.ref p), some tn, some (rulesD size ls), some (natD oft), some d4, some d5, some d6, some d7, o8, o9, o10, o11, o12]
abbrev rho0 (p : Addr) : Rho := [some (.ref p), none, none, none, none, none, none, none, none, none, none, none, none]
section
variable {P : Program} {w : World} {K : Fg} {mg : Str → Option Value} {base : Heap}
/-- what stands in the module for the law -/
structure Md (P : Program) (w : World) (K : Fg) (mg : Str → Option Value) (base : Heap) (C Ck fI fC fN fT fO fB : Addr) (fdI fdC fdN fdT fdO fdB : FuncData) : Prop where
  T : Bl mg
  Dm : CD K mg C
  M : Mk K C fI
  FI : FunDI K fI fdI
  GI : FnOk P w K mg base CX0 5 fI fdI ["self", "rules", "forced", "holds"] (mkI K C (spDI K C Ck))
  GC : FnOk P w K mg base CX0 4 fC fdC ["self", "limit"] (mk K (spDC K C Ck))
  bC : Binds K fdC ["self", "limit"] []
  cC : StX.CallO K C fC
  FN : FunNe K fN fdN
  GN : FnOk P w K mg base CX0 7 fN fdN nNe (mk K spNe)
  kN : PySem.W.keepIn K (.ref fN) = true
  gN : mg "needed" = some (.ref fN)
  GT : FnOk P w K mg base CX0 1 fT fdT ["_law_box_here", "_law_many"] (mk K spTake)
  kT : PySem.W.keepIn K (.ref fT) = true
  bT : Binds K fdT ["_law_box_here", "_law_many"] []
  gT : mg "_law_take" = some (.ref fT)
  GO : FnOk P w K mg base CX0 2 fO fdO nOf (mk K spOf)
  kO : PySem.W.keepIn K (.ref fO) = true
  bO : Binds K fdO nOf []
  gO : mg "_law_of" = some (.ref fO)
  GB : FnOk P w K mg base CX0 3 fB fdB ["_law_box_here", "_law_top"] (mk K spBook)
  kB : PySem.W.keepIn K (.ref fB) = true
  bB : Binds K fdB ["_law_box_here", "_law_top"] []
  gB : mg "_law_book" = some (.ref fB)
variable {C Ck fI fC fN fT fO fB : Addr} {fdI fdC fdN fdT fdO fdB : FuncData}
theorem ok_Right {f : Addr} {fd : FuncData} (F : Fun K "_law_right" "_law_right" sRight f fd) (m : Md P w K mg base C Ck fI fC fN fT fO fB fdI fdC fdN fdT fdO fdB) : FnOk P w K mg base CX0 9 f fd ["_law_box_here"] (mk K spRight) := by
  obtain ⟨mv1, b1⟩ := bd1 m.FI
  obtain ⟨mv2, b2⟩ := bd2 m.FI
  obtain ⟨dv0, v0, b0⟩ := bd0 m.FI
  obtain ⟨dvN, vN, bN⟩ := bn0 m.FN
  have T := m.T
  refine fn_ok (sp := spRight) F scRight (fun ds M R h => by obtain ⟨_, _, _, e, _, _⟩ := h; rw [e]; rfl) (fun cdv A outer s H E hr ds M R h => ?_)
  obtain ⟨p, b, ok, e1, e0, e2⟩ := h
  subst e1 e0 e2
  have hu := hu64 hr
  have hline : sizeLine = 16777216 := by decide
  -- for _law_turn in range(8):
  refine sv_cons (R := fun ρ' M' => True) (s1_for (.nm 1) (ps_for PassesOwn.never rfl piW (pg_name (i := 1) scRight.nd rfl (by first | exact Or.inl rfl | exact Or.inr rfl)) pssW) (iv_range1 (pi_range1 rfl T.range paW) (av_cons (ev_int) av_nil) (by decide) (by decide))
    (fun i ρ' M' => wk ρ' (rho0 p) ∧ ∃ b, BxOk b (40 * i) ∧ M' = boxM p b) ⟨⟨rfl, trivial⟩, b, ok, rfl⟩ (fun i hi => trivial) ?_ (fun _ _ _ => trivial)) (fun ρ' M' _ => ?_)
  rotate_left
  · exact sv_retE (ev_bl) rfl
  rintro i ρ' M' hi ⟨w0, b, ok, rfl⟩
  have hi : i < 8 := hi
  have w1 : wk (ρ'.set 1 (some (.int (0 + (i : Int))))) ((rho0 p).set 1 (some (.int (0 + (i : Int))))) := by
    match ρ', w0 with
    | [_, _, _, _, _, _, _, _, _, _, _, _, _], ⟨h, _⟩ => exact ⟨h, rfl, trivial⟩
  refine SV.wk ?_ w1
  have hn : 40 * i ≤ 280 := by omega
  generalize hN : 40 * i = n at ok hn
  -- book, often
  have t3 := takeV_lt b (m := 3) (by omega)
  have ht : 0 < [10, 40, 100].getD (takeV b 3) 0 ∧ [10, 40, 100].getD (takeV b 3) 0 ≤ 100 := by
    have : takeV b 3 = 0 ∨ takeV b 3 = 1 ∨ takeV b 3 = 2 := by omega
    rcases this with e | e | e <;> rw [e] <;> decide
  have et : [natD 10, natD 40, natD 100].getD (takeV b 3) .non = natD ([10, 40, 100].getD (takeV b 3) 0) := by
    have : takeV b 3 = 0 ∨ takeV b 3 = 1 ∨ takeV b 3 = 2 := by omega
    rcases this with e | e | e <;> rw [e] <;> rfl
  have ok1 := takeS_ok ok 3
  generalize [10, 40, 100].getD (takeV b 3) 0 = tt at ht et
  have ok2 := bookS_ok ok1 ht.1
  have ru := book_ru ok1 ht.1 ht.2
  have ok3 := takeS_ok ok2 100
  have hoft := takeV_lt (bookS (takeS b 3) tt) (m := 100) (by omega)
  refine sv_par (n := 2) (m := 3) (d2 := natD (takeV (bookS (takeS b 3) tt) 100)) (ps_par (i := 2) (j := 3) rfl scRight.nd rfl rfl (by decide) rfl rfl paW (by rfl)) (av_cons (ev_call1 (Mf := boxM p (takeS b 3)) (Mr := []) (Mf' := boxM p (bookS (takeS b 3) tt)) (pe_call m.GB (hr.mono (by decide)) (by rfl) m.gB m.kB m.bB .nil pass0 paW) (av_cons (ev_var (pv 0) rfl) (av_cons (EV.eq (d' := natD tt) (ev_call1 (Mf := boxM p b) (Mr := []) (Mf' := boxM p (takeS b 3)) (pe_call m.GO (hr.mono (by decide)) (by rfl) m.gO m.kO m.bO .nil pass0 paW) (av_cons (ev_var (pv 0) rfl) (av_cons (ev_fv (fv_lst (av_cons (ev_int) (av_cons (ev_int) (av_cons (ev_int) av_nil))) (by show 3 ≤ sizeLine; decide))) av_nil)) rfl ⟨p, b, n, [natD 10, natD 40, natD 100], ok, by omega, by show 0 < 3; decide, by show 3 ≤ 10000; decide, rfl, rfl, rfl⟩) et rfl) av_nil)) rfl ⟨p, takeS b 3, n + 1, tt, ok1, by omega, ht.1, ht.2, rfl, rfl, rfl⟩)
    (av_cons (ev_call1 (Mf := boxM p (bookS (takeS b 3) tt)) (Mr := []) (Mf' := boxM p (takeS (bookS (takeS b 3) tt) 100)) (pe_call m.GT (hr.mono (by decide)) (by rfl) m.gT m.kT m.bT .nil pass0 paW) (av_cons (ev_var (pv 0) rfl) (av_cons (ev_int) av_nil)) rfl ⟨p, bookS (takeS b 3) tt, n + 1 + 14, 100, ok2, by omega, by omega, by omega, rfl, rfl, rfl⟩) av_nil)) ?_
  generalize takeV (bookS (takeS b 3) tt) 100 = oft at hoft
  generalize takeS (bookS (takeS b 3) tt) 100 = b3 at ok3
  generalize bookSize (takeS b 3) tt = size at ru
  generalize bookLs (takeS b 3) tt = ls at ru
  obtain ⟨reg, per, fi⟩ := (ends_of ru).first
  -- plain, one, more
  refine sv_asg (.tp [4, 5, 6]) (d := .tup [dmD K C Ck size ls reg per 0 false, dmD K C Ck size ls reg per oft false, dmD K C Ck size ls reg per (oft + 1) false]) (ps_asg peW (pg_tup rfl (pgs_cons (pg_name (i := 4) scRight.nd rfl (by first | exact Or.inl rfl | exact Or.inr rfl)) (pgs_cons (pg_name (i := 5) scRight.nd rfl (by first | exact Or.inl rfl | exact Or.inr rfl)) (pgs_cons (pg_name (i := 6) scRight.nd rfl (by first | exact Or.inl rfl | exact Or.inr rfl)) pgs_nil)))))
    (ev_tup (av_cons (ev_make (dds := [natD 0, .bl false]) (t := insOT K C (dmFs K Ck size ls reg per 0 false)) (pe_make m.M m.GI (hr.mono (by decide)) rfl m.Dm.mgC b0 v0 pass0 paW) (av_cons (ev_var (pv 2) rfl) av_nil) ⟨size, ls, reg, per, 0, false, ru, fi, rfl, rfl⟩ ?_)
      (av_cons (ev_makeK (ds3 := [rulesD size ls, natD oft, .bl false]) (t := insOT K C (dmFs K Ck size ls reg per oft false)) (pe_makeK m.M m.GI (hr.mono (by decide)) rfl m.Dm.mgC b1 pass0 paW pkW) (av_cons (ev_var (pv 2) rfl) av_nil) (kv_cons (ev_var (pv 3) rfl) kv_nil) rfl rfl ?_ ⟨size, ls, reg, per, oft, false, ru, fi, rfl, rfl⟩)
      (av_cons (ev_makeK (ds3 := [rulesD size ls, natD (oft + 1), .bl false]) (t := insOT K C (dmFs K Ck size ls reg per (oft + 1) false)) (pe_makeK m.M m.GI (hr.mono (by decide)) rfl m.Dm.mgC b1 pass0 paW pkW) (av_cons (ev_var (pv 2) rfl) av_nil) (kv_cons (ev_add (ev_var (pv 3) rfl) (ev_int)) kv_nil) rfl rfl ?_ ⟨size, ls, reg, per, oft + 1, false, ru, fi, rfl, rfl⟩) av_nil))) (by show 3 ≤ sizeLine; decide)) rfl ?_
  · exact fun S => reps_cons.mpr ⟨_, _, rfl, rep_int.mpr rfl, .one (rep_bl.mpr rfl)⟩
  · exact fun S vs ws x r1 r2 => ⟨vs ++ ws ++ [V.bl false], by simp, (r1.append r2).append (.one (rep_bl.mpr rfl))⟩
  · exact fun S vs ws x r1 r2 => ⟨vs ++ ws ++ [V.bl false], by simp, (r1.append r2).append (.one (rep_bl.mpr rfl))⟩
  -- held
  refine sv_set (n := 7) (d := dmD K C Ck size ls reg per oft true) (ps_set (i := 7) scRight.nd rfl (by first | exact Or.inl rfl | exact Or.inr rfl) peW) (ev_makeK (ds3 := [rulesD size ls, natD oft, .bl true]) (t := insOT K C (dmFs K Ck size ls reg per oft true)) (pe_makeK m.M m.GI (hr.mono (by decide)) rfl m.Dm.mgC b2 pass0 paW pkW) (av_cons (ev_var (pv 2) rfl) av_nil) (kv_cons (ev_var (pv 3) rfl) (kv_cons (ev_bl) kv_nil)) rfl rfl ?_ ⟨size, ls, reg, per, oft, true, ru, fi, rfl, rfl⟩) ?_
  · exact fun S vs ws x r1 r2 => ⟨vs ++ ws, by simp, r1.append r2⟩
  refine SV.to (ρ := rhoR p (.int (0 + (i : Int))) size ls oft (dmD K C Ck size ls reg per 0 false) (dmD K C Ck size ls reg per oft false) (dmD K C Ck size ls reg per (oft + 1) false) (dmD K C Ck size ls reg per oft true) none none none none none) (M := boxM p b3) rfl rfl ?_
  have hl0 : (ls.map natD)[0]? = some (natD (ls.getD 0 0)) := by
    rw [List.getElem?_map, List.getD_eq_getElem?_getD, List.getElem?_eq_getElem (List.length_pos_iff.mpr ru.ne)]
    rfl
  have l0p := first_pos ru
  have ls2 := ru.s2
  have l0s := (ru.bd _ (getD_in ru (List.length_pos_iff.mpr ru.ne))).2
  have e18 : ((10 : Int) ^ (18 : Int).toNat) = ((10 ^ 18 : Nat) : Int) := by decide +kernel
  have ok4 := takeS_ok ok3 (10 ^ 18)
  -- bounds
  refine sv_set (n := 8) (d := .lst ([0, 1, ls.getD 0 0, 2 * ls.getD 0 0, size, size + 1, 10 ^ 18, takeV b3 (10 ^ 18)].map natD)) (ps_set (i := 8) scRight.nd rfl (by first | exact Or.inl rfl | exact Or.inr rfl) peW) (ev_fv (fv_lst (av_cons (ev_int) (av_cons (ev_int) (av_cons (ev_ixT (d := natD (ls.getD 0 0)) (ev_ixT (d := tupN ls) (ev_var (pv 2) rfl) (ev_int) rfl) (ev_int) (at_nat (j := 0) hl0 rfl)) (av_cons (EV.eq (d' := natD (2 * ls.getD 0 0)) (ev_mul (ev_int) (ev_ixT (d := natD (ls.getD 0 0)) (ev_ixT (d := tupN ls) (ev_var (pv 2) rfl) (ev_int) rfl) (ev_int) (at_nat (j := 0) hl0 rfl)) (.inl ⟨by decide, by decide⟩)) (by show D.int _ = D.int _; congr 1) rfl) (av_cons (ev_ixT (d := natD size) (ev_var (pv 2) rfl) (ev_int) rfl) (av_cons (ev_add (ev_ixT (d := natD size) (ev_var (pv 2) rfl) (ev_int) rfl) (ev_int))
    (av_cons (EV.eq (d' := natD (10 ^ 18)) (ev_pow (ev_int) (ev_int) (by decide +kernel)) (congrArg D.int e18) rfl) (av_cons (ev_call1 (d := natD (takeV b3 (10 ^ 18))) (Mf := boxM p b3) (Mr := []) (Mf' := boxM p (takeS b3 (10 ^ 18))) (pe_call m.GT (hr.mono (by decide)) (by rfl) m.gT m.kT m.bT .nil pass0 paW) (av_cons (ev_var (pv 0) rfl) (av_cons (EV.eq (d' := natD (10 ^ 18)) (ev_pow (ev_int) (ev_int) (by decide +kernel)) (congrArg D.int e18) rfl) av_nil)) rfl ⟨p, b3, _, 10 ^ 18, ok3, by omega, by decide, by decide, rfl, rfl, rfl⟩) av_nil)))))))) (by show 8 ≤ sizeLine; decide))) ?_
  generalize takeS b3 (10 ^ 18) = b4 at ok4
  generalize hL1 : [0, 1, ls.getD 0 0, 2 * ls.getD 0 0, size, size + 1, 10 ^ 18, takeV b3 (10 ^ 18)] = L1
  have l8 : L1.length = 8 := by rw [← hL1]; rfl
  clear hL1
  -- sorted
  refine sv_set (n := 8) (d := .lst ((sortN (L1 ++ (List.range 12).map fun j => takeV (tks b4 2000 j) 2000)).map natD)) (ps_set (i := 8) scRight.nd rfl (by first | exact Or.inl rfl | exact Or.inr rfl) peW) (M1 := boxM p (tks b4 2000 12)) (EV.eq (M' := boxM p (tks b4 2000 12)) (ev_fv (fv_cb (pe_callB cr_sortedI (by rfl) T.sorted (by decide +kernel) paW) (av_cons (ev_fv (FV.eq (ds' := ((L1 ++ (List.range 12).map fun j => takeV (tks b4 2000 j) 2000).map fun (x : Nat) => (x : Int)).map D.int) (M' := boxM p (tks b4 2000 12)) (fv_cat (ds2 := (List.range 12).map fun j => natD (takeV (tks b4 2000 j) 2000)) (ev_var (pv 8) rfl) (ev_fv (fv_lc (.nm 9) (n := 12) (xs := fun j => natD j) (ys := fun j => natD (takeV (tks b4 2000 j) 2000)) (pe_lc (own := [("_law_again", 9)]) (g := Tg.t _ (.nm 9)) rfl scRight.nd piW (blkOk_by (N := nRight) (sc := defScope sRight) (by decide +kernel)) (fun _ _ _ _ _ => pg_name (i := 9) scRight.nd rfl (by first | exact Or.inl rfl | exact Or.inr rfl)) (fun s H C cl fp => pts_nil) peB) (by simp [Tg.sl]) (IV.cg (n' := 12) (ys := fun j => natD j) (iv_range1 (pi_range1 (by rfl) T.range paW) (av_cons (ev_int) av_nil) (by decide) (by decide)) rfl (fun j hj => by show D.int _ = D.int _; congr 1; omega)) (by omega) (fun j => boxM p (tks b4 2000 j)) rfl (fun j hj => trivial)
    (fun j hj s H C' cl fp => ev_call1 (d := natD (takeV (tks b4 2000 j) 2000)) (Mf := boxM p (tks b4 2000 j)) (Mr := []) (Mf' := boxM p (tks b4 2000 (j + 1))) (pe_call m.GT (hr.mono (by decide)) (by rfl) m.gT m.kT m.bT .nil pass0 paW) (av_cons (ev_var (pv 0) rfl) (av_cons (ev_int) av_nil)) rfl ⟨p, tks b4 2000 j, _, 2000, tks_ok ok4 2000 j, by omega, by decide, by decide, rfl, rfl, rfl⟩))) .dat .dat ?_) ?_ rfl)) av_nil) (fs_sorted (.lst .dat)))) ?_ rfl) ?_
  · rw [List.length_map, List.length_map, l8, List.length_range]; omega
  · rw [List.map_append, List.map_append, List.map_map, List.map_map, List.map_map]
    rfl
  · show D.lst _ = D.lst _
    rw [sortN_srt, List.map_map]
    rfl
  have ok5 := tks_ok ok4 2000 12
  generalize tks b4 2000 12 = b5 at ok5
  have hlen : (sortN (L1 ++ (List.range 12).map fun j => takeV (tks b4 2000 j) 2000)).length = 20 := by
    rw [(sortN_perm _).length_eq, List.length_append, List.length_map, List.length_range, l8]
  have hsorted := sortN_pw (L1 ++ (List.range 12).map fun j => takeV (tks b4 2000 j) 2000)
  generalize sortN (L1 ++ (List.range 12).map fun j => takeV (tks b4 2000 j) 2000) = bs at hlen hsorted
  -- row
  have callP : ∀ (forced : Nat) (holds : Bool) (L : Nat), spDC K C Ck [dmD K C Ck size ls reg per forced holds, natD L] [] (Out (natD (callN size ls forced holds L)) []) := fun forced holds L => ⟨size, ls, reg, per, forced, holds, L, ru, fi, rfl, rfl, rfl⟩
  have z0 : ∀ forced holds, callN size ls forced holds 0 = 0 := fun forced holds => by unfold callN; rw [if_pos (by omega)]
  have hmono : ((bs.map fun L => callN size ls 0 false L).map fun (x : Nat) => (x : Int)).Pairwise (· ≤ ·) := by
    rw [List.pairwise_map, List.pairwise_map]
    exact hsorted.imp fun h => by have := callN_mono ru (holds := false) (forced := 0) h; omega
  have erow : ((List.range bs.length).map fun j => natD (callN size ls 0 false (bs.getD j 0))) = (bs.map fun L => callN size ls 0 false L).map natD := by
    rw [map_range bs (fun L => natD (callN size ls 0 false L)) 0, List.map_map]
    rfl
  refine sv_setLc (n := 10) (ps_setLc (i := 10) (own := [("_law_bound", 11)]) (g := Tg.t _ (.nm 11)) rfl scRight.nd rfl rfl (by rfl) piW (blkOk_by (N := nRight) (sc := defScope sRight) (by decide +kernel)) (fun _ _ _ _ _ => pg_name (i := 11) scRight.nd rfl (by first | exact Or.inl rfl | exact Or.inr rfl)) (fun s H C cl fp => pts_nil) peB) (fvt_lc (.nm 11) (ys := fun j => natD (callN size ls 0 false (bs.getD j 0))) (by simp [Tg.sl]) (iv_listM (f := natD) (as := bs) 0 (ev_var (pv 8) rfl)) (by omega) (fun _ => boxM p b5) rfl (fun j hj => trivial)
    (fun j hj s H C' cl fp => ev_callO (f := spDC K C Ck) (C := C) (d := natD (callN size ls 0 false (bs.getD j 0))) (StX.pe_callO peW m.cC (raw0 m.GC m.bC) (hr.mono (by decide)) pass0 paW) (ev_var (pv 4) rfl) (fun _ => .obj) (av_cons (ev_var (pv 11) rfl) av_nil) (callP 0 false (bs.getD j 0)))) ?_
  rw [erow]
  have esort : (srt ((bs.map fun L => callN size ls 0 false L).map fun (x : Nat) => (x : Int))).map D.int = (bs.map fun L => callN size ls 0 false L).map natD := by
    rw [← srt_eq (List.Perm.refl _) hmono, List.map_map]
    rfl
  have callE : ∀ {ρ : Rho} {slot : Nat} {forced : Nat} {holds : Bool} {L : Nat}, True := trivial
  -- if row != sorted(row) or ..
  refine sv_ifL (k := false) (tv_w (wv_or (k := false) (tv_ne0 (n := 1) hu (ev_var (pv 10) rfl) (EV.eq (d' := .lst ((bs.map fun L => callN size ls 0 false L).map natD)) (ev_fv (fv_cb (pe_callB cr_sortedI (by rfl) T.sorted (by decide +kernel) paW) (av_cons (ev_var (pv 10) rfl) av_nil) (fs_sorted (ns := (bs.map fun L => callN size ls 0 false L).map fun (x : Nat) => (x : Int)) ?_))) (by rw [esort]) rfl) ?_ (by decide)) (fun hb => wv_or (k := false) (TV.eq (tv_neI (ev_callO (f := spDC K C Ck) (C := C) (d := natD (callN size ls 0 false 0)) (StX.pe_callO peW m.cC (raw0 m.GC m.bC) (hr.mono (by decide)) pass0 paW) (ev_var (pv 4) rfl) (fun _ => .obj) (av_cons (ev_int) av_nil) (callP 0 false 0)) (ev_int)) (by rw [z0]; rfl)) (fun hb => wv_or1 (TV.eq (tv_neI (ev_callO (f := spDC K C Ck) (C := C) (d := natD (callN size ls (oft + 1) false 0)) (StX.pe_callO peW m.cC (raw0 m.GC m.bC) (hr.mono (by decide)) pass0 paW) (ev_var (pv 6) rfl) (fun _ => .obj) (av_cons (ev_int) av_nil) (callP (oft + 1) false 0)) (ev_int)) (by rw [z0]; rfl)))))) (fun hc => nomatch hc) (fun hc => ?_)
  · have e : (bs.map fun L => callN size ls 0 false L).map natD = ((bs.map fun L => callN size ls 0 false L).map fun (x : Nat) => (x : Int)).map D.int := by rw [List.map_map (g := D.int)]; rfl
    rw [e]
    exact .lst .dat
  · have e : (bs.map fun L => callN size ls 0 false L).map natD = ((bs.map fun L => callN size ls 0 false L).map fun (x : Nat) => (x : Int)).map D.int := by rw [List.map_map (g := D.int)]; rfl
    rw [e]
    exact flat_ints 0 _
  -- for bound, count in zip(bounds, row):
  refine sv_for (.tp [11, 12]) (n := 20) (xs := fun j => D.tup [natD (bs.getD j 0), natD (callN size ls 0 false (bs.getD j 0))]) (ps_for PassesOwn.never rfl piW (pg_tup rfl (pgs_cons (pg_name (i := 11) scRight.nd rfl (by first | exact Or.inl rfl | exact Or.inr rfl)) (pgs_cons (pg_name (i := 12) scRight.nd rfl (by first | exact Or.inl rfl | exact Or.inr rfl)) pgs_nil))) pssW) (IV.cg (n' := 20) (ys := fun j => D.tup [natD (bs.getD j 0), natD (callN size ls 0 false (bs.getD j 0))]) (iv_zipL (RZ.pi_zipA (by rfl) T.zip paW) (av_cons (ev_var (pv 8) rfl) (av_cons (ev_var (pv 10) rfl) av_nil))) ?_ ?_)
    (fun _ => rhoR p (.int (0 + (i : Int))) size ls oft (dmD K C Ck size ls reg per 0 false) (dmD K C Ck size ls reg per oft false) (dmD K C Ck size ls reg per (oft + 1) false) (dmD K C Ck size ls reg per oft true) none none none none none) (fun _ => boxM p b5) ⟨rfl, rfl, rfl, rfl, rfl, rfl, rfl, rfl, trivial⟩ rfl (fun i hi => rfl) (fun j hj => ?_) ?_
  · rw [List.length_map, List.length_map, List.length_map, hlen]; rfl
  · intro j hj
    have hj : j < 20 := by simpa [hlen] using hj
    rw [getD_map 0 (by omega), List.map_map, getD_map (f := natD ∘ fun L => callN size ls 0 false L) 0 (by omega)]
    rfl
  · generalize hL : bs.getD j 0 = L
    have hL : True := trivial
    refine sv_one (s1_if (k := decide ((L : Int) < (ls.getD 0 0 : Int))) (tv_lt (ev_var (pv 11) rfl) (ev_ixT (d := natD (ls.getD 0 0)) (ev_ixT (d := tupN ls) (ev_var (pv 2) rfl) (ev_int) rfl) (ev_int) (at_nat (j := 0) hl0 rfl))) (fun hc => ?_) (fun hc => ?_))
    · have hc : L < ls.getD 0 0 := by simpa using hc
      have zz : ∀ forced holds, callN size ls forced holds L = 0 := fun forced holds => by unfold callN; rw [if_pos hc]
      refine sv_ifL (k := false) (tv_ne0 (n := 1) (d := .lst [natD 0, natD 0, natD 0]) hu (EV.eq (d' := .lst [natD 0, natD 0, natD 0]) (ev_fv (fv_lst (av_cons (ev_callO (f := spDC K C Ck) (C := C) (d := natD (callN size ls oft false L)) (StX.pe_callO peW m.cC (raw0 m.GC m.bC) (hr.mono (by decide)) pass0 paW) (ev_var (pv 5) rfl) (fun _ => .obj) (av_cons (ev_var (pv 11) rfl) av_nil) (callP oft false L)) (av_cons (ev_callO (f := spDC K C Ck) (C := C) (d := natD (callN size ls (oft + 1) false L)) (StX.pe_callO peW m.cC (raw0 m.GC m.bC) (hr.mono (by decide)) pass0 paW) (ev_var (pv 6) rfl) (fun _ => .obj) (av_cons (ev_var (pv 11) rfl) av_nil) (callP (oft + 1) false L)) (av_cons (ev_callO (f := spDC K C Ck) (C := C) (d := natD (callN size ls oft true L)) (StX.pe_callO peW m.cC (raw0 m.GC m.bC) (hr.mono (by decide)) pass0 paW) (ev_var (pv 7) rfl) (fun _ => .obj) (av_cons (ev_var (pv 11) rfl) av_nil) (callP oft true L)) av_nil))) (by show 3 ≤ sizeLine; decide))) (by rw [zz, zz, zz]) rfl) (ev_fv (fv_lst (av_cons (ev_int) (av_cons (ev_int) (av_cons (ev_int) av_nil))) (by show 3 ≤ sizeLine; decide))) (flat_ints 0 [0, 0, 0]) (by decide)) (fun hc => nomatch hc) (fun _ => ?_)
      exact sv_nil ⟨⟨rfl, rfl, rfl, rfl, rfl, rfl, rfl, rfl, trivial⟩, rfl⟩
    · have hc : ls.getD 0 0 ≤ L := by simpa using hc
      have zz : ∀ forced holds, callN size ls forced holds L = cnt size ls holds L + forced := fun forced holds => by unfold callN; rw [if_neg (by omega)]
      obtain ⟨c1, c2⟩ := cnt_holds ru hc
      refine sv_ifL (k := false) (tv_ne0 (n := 1) (d := .lst [natD (cnt size ls false L + oft), natD (cnt size ls false L + (oft + 1))]) hu (EV.eq (d' := .lst [natD (cnt size ls false L + oft), natD (cnt size ls false L + (oft + 1))]) (ev_fv (fv_lst (av_cons (ev_callO (f := spDC K C Ck) (C := C) (d := natD (callN size ls oft false L)) (StX.pe_callO peW m.cC (raw0 m.GC m.bC) (hr.mono (by decide)) pass0 paW) (ev_var (pv 5) rfl) (fun _ => .obj) (av_cons (ev_var (pv 11) rfl) av_nil) (callP oft false L)) (av_cons (ev_callO (f := spDC K C Ck) (C := C) (d := natD (callN size ls (oft + 1) false L)) (StX.pe_callO peW m.cC (raw0 m.GC m.bC) (hr.mono (by decide)) pass0 paW) (ev_var (pv 6) rfl) (fun _ => .obj) (av_cons (ev_var (pv 11) rfl) av_nil) (callP (oft + 1) false L)) av_nil)) (by show 2 ≤ sizeLine; decide))) (by rw [zz, zz]) rfl)
        (EV.eq (d' := .lst [natD (cnt size ls false L + oft), natD (cnt size ls false L + (oft + 1))]) (ev_fv (fv_lst (av_cons (ev_add (ev_var (pv 12) rfl) (ev_var (pv 3) rfl)) (av_cons (ev_add (ev_add (ev_var (pv 12) rfl) (ev_var (pv 3) rfl)) (ev_int)) av_nil)) (by show 2 ≤ sizeLine; decide))) ?_ rfl) (flat_ints 0 [((cnt size ls false L + oft : Nat) : Int), ((cnt size ls false L + (oft + 1) : Nat) : Int)]) (by decide)) (fun hc => nomatch hc) (fun _ => ?_)
      · show D.lst [D.int _, D.int _] = D.lst [D.int _, D.int _]
        rw [zz]
        congr 3
      refine sv_ifL (k := false) (tv_w (wv_or (k := false) (TV.eq (tv_not (tv_chain op_le op_le (ev_sub (ev_callO (f := spDC K C Ck) (C := C) (d := natD (callN size ls oft false L)) (StX.pe_callO peW m.cC (raw0 m.GC m.bC) (hr.mono (by decide)) pass0 paW) (ev_var (pv 5) rfl) (fun _ => .obj) (av_cons (ev_var (pv 11) rfl) av_nil) (callP oft false L)) (ev_int)) (ev_callO (f := spDC K C Ck) (C := C) (d := natD (callN size ls oft true L)) (StX.pe_callO peW m.cC (raw0 m.GC m.bC) (hr.mono (by decide)) pass0 paW) (ev_var (pv 7) rfl) (fun _ => .obj) (av_cons (ev_var (pv 11) rfl) av_nil) (callP oft true L)) (rs_int fun _ => rep_bl.mpr rfl) (fun _ => ev_callO (f := spDC K C Ck) (C := C) (d := natD (callN size ls oft false L)) (StX.pe_callO peW m.cC (raw0 m.GC m.bC) (hr.mono (by decide)) pass0 paW) (ev_var (pv 5) rfl) (fun _ => .obj) (av_cons (ev_var (pv 11) rfl) av_nil) (callP oft false L)) (rs_int fun _ => rep_bl.mpr rfl))) ?_)
        (fun hb => wv_or1 (TV.eq (tv_neI (ev_call0 (dds := [natD 0, .bl false]) (d := natD (callN size ls 0 false L)) (pe_call m.GN (hr.mono (by decide)) (by rfl) m.gN m.kN bN vN pass0 paW) (av_cons (ev_var (pv 2) rfl) (av_cons (ev_var (pv 11) rfl) av_nil)) ⟨size, ls, 0, false, L, ru, rfl, rfl, rfl⟩ ?_) (ev_var (pv 12) rfl)) ?_)))) (fun hc => nomatch hc) (fun _ => ?_)
      · rw [zz, zz]
        rw [decide_eq_true (by omega : ((cnt size ls false L + oft : Nat) : Int) - 1 ≤ ((cnt size ls true L + oft : Nat) : Int)), decide_eq_true (by omega : ((cnt size ls true L + oft : Nat) : Int) ≤ ((cnt size ls false L + oft : Nat) : Int))]
        rfl
      · exact fun S => reps_cons.mpr ⟨_, _, rfl, rep_int.mpr rfl, .one (rep_bl.mpr rfl)⟩
      · simp
      · exact sv_nil ⟨⟨rfl, rfl, rfl, rfl, rfl, rfl, rfl, rfl, trivial⟩, rfl⟩
  · refine sv_nil ⟨⟨rfl, trivial⟩, b5, ⟨ok5.h1, ok5.h2, ?_⟩, rfl⟩
    have := ok5.h3
    omega
/-! law -/
abbrev nLaw : List Str := ["_law_script", "_law_k"]
abbrev scLaw : FnScope nLaw ["_law_script"] (defScope sLaw) := ⟨rfl, rfl, rfl, by decide +kernel, rfl, by decide +kernel, by decide +kernel⟩
theorem ok_law {f fR fX : Addr} {fd fdR fdX : FuncData} (F : Fun K "law" "law" sLaw f fd) (T : Bl mg) (GR : FnOk P w K mg base CX0 9 fR fdR ["_law_box_here"] (mk K spRight)) (kR : PySem.W.keepIn K (.ref fR) = true) (bR : Binds K fdR ["_law_box_here"] []) (gR : mg "_law_right" = some (.ref fR))
    (GX : FnOk P w K mg base CX0 1 fX fdX ["_law_script", "_law_k"] (mk K (spBox K))) (kX : PySem.W.keepIn K (.ref fX) = true) (bX : Binds K fdX ["_law_script", "_law_k"] []) (gX : mg "_law_box" = some (.ref fX)) :
    FnOk P w K mg base CX0 20 f fd ["_law_script"] (spLaw K) := by
  refine law_ok ((fn_ok (k := 19) (sp := spLawD K) F scLaw (fun ds M R h => by obtain ⟨_, _, e, _, _⟩ := h; rw [e]; rfl) (fun cdv A outer s H E hr ds M R h => ?_)))
  obtain ⟨ns, hns, e1, e0, e2⟩ := h
  subst e1 e0 e2
  have hline : sizeLine = 16777216 := by decide
  generalize hk : (max 1 (min (ns.length : Int) 3)).toNat = k
  have hk3 : k ≤ 3 := by omega
  have hall : ((List.replicate k true).all id) = true := by rw [List.all_eq_true]; intro x hx; rw [List.eq_of_mem_replicate hx]; rfl
  refine sv_retE (EV.eq (d' := .bl true) (ev_cb (pe_callB (cr_all rfl) (by rfl) T.all (by decide +kernel) paW) (av_cons (ev_fv (FV.eq (ds' := (List.replicate k true).map D.bl) (M' := []) (fv_lc (.nm 1) (n := k) (xs := fun j => natD j) (ys := fun _ => .bl true) (pe_lc (own := [("_law_k", 1)]) (g := Tg.t _ (.nm 1)) rfl scLaw.nd piW (blkOk_by (N := nLaw) (sc := defScope sLaw) (by decide +kernel)) (fun _ _ _ _ _ => pg_name (i := 1) scLaw.nd rfl (by first | exact Or.inl rfl | exact Or.inr rfl)) (fun s H C cl fp => pts_nil) peB) (by simp [Tg.sl])
    (IV.cg (n' := k) (ys := fun j => natD j) (iv_range1 (pi_range1 (by rfl) T.range paW) (av_cons (ev_cb (pe_callB (call_max2 rfl) (by rfl) T.max (by decide +kernel) paW) (av_cons (ev_int) (av_cons (ev_cb (pe_callB (call_min2 rfl) (by rfl) T.min (by decide +kernel) paW) (av_cons (ev_cb (pe_callB call_len_seq (by rfl) T.len PySem.boot_len paW) (av_cons (ev_var (pv 0) rfl) av_nil) (rs_lenL .scr)) (av_cons (ev_int) av_nil)) rs_min2) av_nil)) rs_max2) av_nil) ?_ ?_) ?_ (fun j hj => by show D.int _ = D.int _; congr 1; omega)) (by omega) (fun _ => []) rfl (fun i hi => trivial)
    (fun j hj s H C cl fp => (ev_dropP 0 (ev_callP (R := fun d M' => d = .bl true) (pe_call GR (hr.mono (by decide)) (by rfl) gR kR bR .nil pass0 paW) (ev_call (Mf := []) (Mr := []) (pe_call GX (hr.mono (by decide)) (by rfl) gX kX bX .nil pass0 paW) (av_cons (ev_var (pv 0) rfl) (av_cons (ev_var (pv 1) rfl) av_nil)) rfl (dds := []) (fun _ => reps_nil.mpr rfl) ⟨ns, j, by omega, rfl, rfl, rfl⟩) ?_)).imp ?_)) ?_ rfl)) av_nil) (rs_all (.lst .dat))) (by rw [hall]) rfl) ⟨rfl, rfl⟩
  · rw [List.length_map]; omega
  · rw [List.length_map]; omega
  · rw [List.length_map]; omega
  · rintro d M1 ⟨Mf', ⟨q, rfl, rfl⟩, rfl⟩
    exact ⟨q, boxOf ns j, boxOf_ok ns j, rfl, List.append_nil _, rfl⟩
  · rintro d M' ⟨M0, rfl, rfl⟩
    exact ⟨rfl, List.take_zero⟩
  · rw [List.map_replicate]
    exact List.map_const' .. |>.trans (by rw [List.length_range])
end
end RL
namespace RL
open PySem L2
theorem kwd_of {K : Fg} {D : Addr} {t : Tok} (h1 : PySem.W.nsIn K D "forced" = some (some (.int 0 t))) (h2 : PySem.W.nsIn K D "holds" = some (some (.bool false))) : ∀ q ∈ kwD, ∃ u, PySem.W.nsIn K D q.1 = some (some u) ∧ RelV q.2 u := by
  intro q hq
  rcases List.mem_cons.mp hq with rfl | hq
  · exact ⟨_, h1, ⟨t, rfl⟩⟩
  · rcases List.mem_cons.mp hq with rfl | hq
    · exact ⟨_, h2, rfl⟩
    · cases hq
/-! what the top has written -/
theorem all_mk {l : PySem.W.OpenLaw} {w : World} {K : PySem.W.Frag} {h : Heap} {mg : Str → Option Value} {fa : Addr} (X : K.In h) (G : h.Ns mainGlobals mg) (hfa : mg "law" = some (.ref fa))
    {CWk : Addr}
    {CDm : Addr}
    {fLL : Addr} {odLL anLL : Option Addr} {slLL : Array (Option Value)} {ocLL dcLL pmLL cdLL ctLL : Value}
    {kVLL : Value}
    {fTF : Addr} {odTF anTF : Option Addr} {slTF : Array (Option Value)} {ocTF dcTF pmTF cdTF ctTF : Value}
    {kVTF : Value}
    {fTU : Addr} {odTU anTU : Option Addr} {slTU : Array (Option Value)} {ocTU dcTU pmTU cdTU ctTU : Value}
    {kVTU : Value}
    {fWI : Addr} {odWI anWI : Option Addr} {slWI : Array (Option Value)} {ocWI dcWI pmWI cdWI ctWI : Value}
    {kVWI : Value}
    {fWS : Addr} {odWS anWS : Option Addr} {slWS : Array (Option Value)} {ocWS dcWS pmWS cdWS ctWS : Value}
    {kVWS : Value}
    {fWR : Addr} {odWR anWR : Option Addr} {slWR : Array (Option Value)} {ocWR dcWR pmWR cdWR ctWR : Value}
    {kVWR : Value}
    {fWE : Addr} {odWE anWE : Option Addr} {slWE : Array (Option Value)} {ocWE dcWE pmWE cdWE ctWE : Value}
    {kVWE : Value}
    {fWB : Addr} {odWB anWB : Option Addr} {slWB : Array (Option Value)} {ocWB dcWB pmWB cdWB ctWB : Value}
    {kVWB : Value}
    {fDI : Addr} {odDI anDI : Option Addr} {slDI : Array (Option Value)} {ocDI dcDI pmDI cdDI ctDI : Value}
    {kdDI : Addr} {tkDI : Tok}
    {fDL : Addr} {odDL anDL : Option Addr} {slDL : Array (Option Value)} {ocDL dcDL pmDL cdDL ctDL : Value}
    {kVDL : Value}
    {fDC : Addr} {odDC anDC : Option Addr} {slDC : Array (Option Value)} {ocDC dcDC pmDC cdDC ctDC : Value}
    {kVDC : Value}
    {fNE : Addr} {odNE anNE : Option Addr} {slNE : Array (Option Value)} {ocNE dcNE pmNE cdNE ctNE : Value}
    {kdNE : Addr} {tkNE : Tok}
    {fX : Addr} {odX anX : Option Addr} {slX : Array (Option Value)} {ocX dcX pmX cdX ctX : Value}
    {kVX : Value}
    {fT : Addr} {odT anT : Option Addr} {slT : Array (Option Value)} {ocT dcT pmT cdT ctT : Value}
    {kVT : Value}
    {fO : Addr} {odO anO : Option Addr} {slO : Array (Option Value)} {ocO dcO pmO cdO ctO : Value}
    {kVO : Value}
    {fB : Addr} {odB anB : Option Addr} {slB : Array (Option Value)} {ocB dcB pmB cdB ctB : Value}
    {kVB : Value}
    {fR : Addr} {odR anR : Option Addr} {slR : Array (Option Value)} {ocR dcR pmR cdR ctR : Value}
    {kVR : Value}
    {fL : Addr} {odL anL : Option Addr} {slL : Array (Option Value)} {ocL dcL pmL cdL ctL : Value}
    {kVL : Value}
    (aCWk : PySem.W.nsIn K mainGlobals "Walks" = some (some (.ref CWk)))
    (pgWk : PySem.W.plainGet K CWk Str.empty = true)
    (hdWk : PySem.W.hasDictIn K CWk = true)
    (poWk : PySem.W.plainOver K CWk = true)
    (saWk : PySem.W.findIn K (.ref CWk) "__setattr__" = some (some (.builtin "object.__setattr__")))
    (mkWk : PySem.W.makesIn K CWk = true)
    (kcWk : PySem.W.keepIn K (.ref CWk) = true)
    (nWk_0 : PySem.W.findIn K (.ref CWk) "lengths" = some none)
    (nWk_1 : PySem.W.findIn K (.ref CWk) "costs" = some none)
    (nWk_2 : PySem.W.findIn K (.ref CWk) "rows" = some none)
    (nWk_3 : PySem.W.findIn K (.ref CWk) "regular_from" = some none)
    (nWk_4 : PySem.W.findIn K (.ref CWk) "period" = some none)
    (nWk_5 : PySem.W.findIn K (.ref CWk) "bytes" = some none)
    (aCDm : PySem.W.nsIn K mainGlobals "Demand" = some (some (.ref CDm)))
    (pgDm : PySem.W.plainGet K CDm Str.empty = true)
    (hdDm : PySem.W.hasDictIn K CDm = true)
    (poDm : PySem.W.plainOver K CDm = true)
    (saDm : PySem.W.findIn K (.ref CDm) "__setattr__" = some (some (.builtin "object.__setattr__")))
    (mkDm : PySem.W.makesIn K CDm = true)
    (kcDm : PySem.W.keepIn K (.ref CDm) = true)
    (nDm_0 : PySem.W.findIn K (.ref CDm) "given_rules" = some none)
    (nDm_1 : PySem.W.findIn K (.ref CDm) "given_forced" = some none)
    (nDm_2 : PySem.W.findIn K (.ref CDm) "given_holds" = some none)
    (nDm_3 : PySem.W.findIn K (.ref CDm) "walks" = some none)
    (aLL : PySem.W.nsIn K mainGlobals "last_lines" = some (some (.ref fLL)))
    (lLL : K.lookup fLL = some ⟨ocLL, odLL, .func (PySem.W.fnOf "last_lines" "last_lines" (defArgs sLL) (defBody sLL) (defScope sLL) .none kVLL dcLL pmLL anLL cdLL ctLL), slLL⟩)
    (cLL : PySem.W.codeIn K cdLL "last_lines" = true)
    (kLL : PySem.W.keepIn K (.ref fLL) = true)
    (aTF : PySem.W.nsIn K mainGlobals "totals_for" = some (some (.ref fTF)))
    (lTF : K.lookup fTF = some ⟨ocTF, odTF, .func (PySem.W.fnOf "totals_for" "totals_for" (defArgs sTF) (defBody sTF) (defScope sTF) .none kVTF dcTF pmTF anTF cdTF ctTF), slTF⟩)
    (cTF : PySem.W.codeIn K cdTF "totals_for" = true)
    (kTF : PySem.W.keepIn K (.ref fTF) = true)
    (aTU : PySem.W.nsIn K mainGlobals "turns" = some (some (.ref fTU)))
    (lTU : K.lookup fTU = some ⟨ocTU, odTU, .func (PySem.W.fnOf "turns" "turns" (defArgs sTU) (defBody sTU) (defScope sTU) .none kVTU dcTU pmTU anTU cdTU ctTU), slTU⟩)
    (cTU : PySem.W.codeIn K cdTU "turns" = true)
    (kTU : PySem.W.keepIn K (.ref fTU) = true)
    (aWI : PySem.W.findIn K (.ref CWk) "__init__" = some (some (.ref fWI)))
    (iWI : PySem.W.isFn K (.ref fWI) = true)
    (lWI : K.lookup fWI = some ⟨ocWI, odWI, .func (PySem.W.fnOf "__init__" "Walks.__init__" (defArgs (sWk 0)) (defBody (sWk 0)) (defScope (sWk 0)) .none kVWI dcWI pmWI anWI cdWI ctWI), slWI⟩)
    (cWI : PySem.W.codeIn K cdWI "Walks.__init__" = true)
    (kWI : PySem.W.keepIn K (.ref fWI) = true)
    (aWS : PySem.W.findIn K (.ref CWk) "shape_of" = some (some (.ref fWS)))
    (iWS : PySem.W.isFn K (.ref fWS) = true)
    (lWS : K.lookup fWS = some ⟨ocWS, odWS, .func (PySem.W.fnOf "shape_of" "Walks.shape_of" (defArgs (sWk 1)) (defBody (sWk 1)) (defScope (sWk 1)) .none kVWS dcWS pmWS anWS cdWS ctWS), slWS⟩)
    (cWS : PySem.W.codeIn K cdWS "Walks.shape_of" = true)
    (kWS : PySem.W.keepIn K (.ref fWS) = true)
    (aWR : PySem.W.findIn K (.ref CWk) "row_behind" = some (some (.ref fWR)))
    (iWR : PySem.W.isFn K (.ref fWR) = true)
    (lWR : K.lookup fWR = some ⟨ocWR, odWR, .func (PySem.W.fnOf "row_behind" "Walks.row_behind" (defArgs (sWk 2)) (defBody (sWk 2)) (defScope (sWk 2)) .none kVWR dcWR pmWR anWR cdWR ctWR), slWR⟩)
    (cWR : PySem.W.codeIn K cdWR "Walks.row_behind" = true)
    (kWR : PySem.W.keepIn K (.ref fWR) = true)
    (aWE : PySem.W.findIn K (.ref CWk) "least_end" = some (some (.ref fWE)))
    (iWE : PySem.W.isFn K (.ref fWE) = true)
    (lWE : K.lookup fWE = some ⟨ocWE, odWE, .func (PySem.W.fnOf "least_end" "Walks.least_end" (defArgs (sWk 3)) (defBody (sWk 3)) (defScope (sWk 3)) .none kVWE dcWE pmWE anWE cdWE ctWE), slWE⟩)
    (cWE : PySem.W.codeIn K cdWE "Walks.least_end" = true)
    (kWE : PySem.W.keepIn K (.ref fWE) = true)
    (aWB : PySem.W.findIn K (.ref CWk) "least_bytes" = some (some (.ref fWB)))
    (iWB : PySem.W.isFn K (.ref fWB) = true)
    (lWB : K.lookup fWB = some ⟨ocWB, odWB, .func (PySem.W.fnOf "least_bytes" "Walks.least_bytes" (defArgs (sWk 4)) (defBody (sWk 4)) (defScope (sWk 4)) .none kVWB dcWB pmWB anWB cdWB ctWB), slWB⟩)
    (cWB : PySem.W.codeIn K cdWB "Walks.least_bytes" = true)
    (kWB : PySem.W.keepIn K (.ref fWB) = true)
    (aDI : PySem.W.findIn K (.ref CDm) "__init__" = some (some (.ref fDI)))
    (iDI : PySem.W.isFn K (.ref fDI) = true)
    (lDI : K.lookup fDI = some ⟨ocDI, odDI, .func (PySem.W.fnOf "__init__" "Demand.__init__" (defArgs (sDm 0)) (defBody (sDm 0)) (defScope (sDm 0)) .none (.ref kdDI) dcDI pmDI anDI cdDI ctDI), slDI⟩)
    (cDI : PySem.W.codeIn K cdDI "Demand.__init__" = true)
    (kDI : PySem.W.keepIn K (.ref fDI) = true)
    (xDI : PySem.W.nsIn K kdDI "forced" = some (some (.int 0 tkDI)))
    (yDI : PySem.W.nsIn K kdDI "holds" = some (some (.bool false)))
    (aDL : PySem.W.findIn K (.ref CDm) "least_for" = some (some (.ref fDL)))
    (iDL : PySem.W.isFn K (.ref fDL) = true)
    (lDL : K.lookup fDL = some ⟨ocDL, odDL, .func (PySem.W.fnOf "least_for" "Demand.least_for" (defArgs (sDm 4)) (defBody (sDm 4)) (defScope (sDm 4)) .none kVDL dcDL pmDL anDL cdDL ctDL), slDL⟩)
    (cDL : PySem.W.codeIn K cdDL "Demand.least_for" = true)
    (kDL : PySem.W.keepIn K (.ref fDL) = true)
    (aDC : PySem.W.findIn K (.ref CDm) "__call__" = some (some (.ref fDC)))
    (iDC : PySem.W.isFn K (.ref fDC) = true)
    (lDC : K.lookup fDC = some ⟨ocDC, odDC, .func (PySem.W.fnOf "__call__" "Demand.__call__" (defArgs (sDm 6)) (defBody (sDm 6)) (defScope (sDm 6)) .none kVDC dcDC pmDC anDC cdDC ctDC), slDC⟩)
    (cDC : PySem.W.codeIn K cdDC "Demand.__call__" = true)
    (kDC : PySem.W.keepIn K (.ref fDC) = true)
    (qDC : PySem.W.fnIn K fDC = true)
    (aNE : PySem.W.nsIn K mainGlobals "needed" = some (some (.ref fNE)))
    (lNE : K.lookup fNE = some ⟨ocNE, odNE, .func (PySem.W.fnOf "needed" "needed" (defArgs sNe) (defBody sNe) (defScope sNe) .none (.ref kdNE) dcNE pmNE anNE cdNE ctNE), slNE⟩)
    (cNE : PySem.W.codeIn K cdNE "needed" = true)
    (kNE : PySem.W.keepIn K (.ref fNE) = true)
    (xNE : PySem.W.nsIn K kdNE "forced" = some (some (.int 0 tkNE)))
    (yNE : PySem.W.nsIn K kdNE "holds" = some (some (.bool false)))
    (aX : PySem.W.nsIn K mainGlobals "_law_box" = some (some (.ref fX)))
    (lX : K.lookup fX = some ⟨ocX, odX, .func (PySem.W.fnOf "_law_box" "_law_box" (defArgs sBox) (defBody sBox) (defScope sBox) .none kVX dcX pmX anX cdX ctX), slX⟩)
    (cX : PySem.W.codeIn K cdX "_law_box" = true)
    (kX : PySem.W.keepIn K (.ref fX) = true)
    (aT : PySem.W.nsIn K mainGlobals "_law_take" = some (some (.ref fT)))
    (lT : K.lookup fT = some ⟨ocT, odT, .func (PySem.W.fnOf "_law_take" "_law_take" (defArgs sTake) (defBody sTake) (defScope sTake) .none kVT dcT pmT anT cdT ctT), slT⟩)
    (cT : PySem.W.codeIn K cdT "_law_take" = true)
    (kT : PySem.W.keepIn K (.ref fT) = true)
    (aO : PySem.W.nsIn K mainGlobals "_law_of" = some (some (.ref fO)))
    (lO : K.lookup fO = some ⟨ocO, odO, .func (PySem.W.fnOf "_law_of" "_law_of" (defArgs sOf) (defBody sOf) (defScope sOf) .none kVO dcO pmO anO cdO ctO), slO⟩)
    (cO : PySem.W.codeIn K cdO "_law_of" = true)
    (kO : PySem.W.keepIn K (.ref fO) = true)
    (aB : PySem.W.nsIn K mainGlobals "_law_book" = some (some (.ref fB)))
    (lB : K.lookup fB = some ⟨ocB, odB, .func (PySem.W.fnOf "_law_book" "_law_book" (defArgs sBook) (defBody sBook) (defScope sBook) .none kVB dcB pmB anB cdB ctB), slB⟩)
    (cB : PySem.W.codeIn K cdB "_law_book" = true)
    (kB : PySem.W.keepIn K (.ref fB) = true)
    (aR : PySem.W.nsIn K mainGlobals "_law_right" = some (some (.ref fR)))
    (lR : K.lookup fR = some ⟨ocR, odR, .func (PySem.W.fnOf "_law_right" "_law_right" (defArgs sRight) (defBody sRight) (defScope sRight) .none kVR dcR pmR anR cdR ctR), slR⟩)
    (cR : PySem.W.codeIn K cdR "_law_right" = true)
    (kR : PySem.W.keepIn K (.ref fR) = true)
    (aL : PySem.W.nsIn K mainGlobals "law" = some (some (.ref fL)))
    (lL : K.lookup fL = some ⟨ocL, odL, .func (PySem.W.fnOf "law" "law" (defArgs sLaw) (defBody sLaw) (defScope sLaw) .none kVL dcL pmL anL cdL ctL), slL⟩)
    (cL : PySem.W.codeIn K cdL "law" = true)
    (kL : PySem.W.keepIn K (.ref fL) = true)
    (z_len : PySem.W.nsIn K mainGlobals "len" = some none)
    (z_range : PySem.W.nsIn K mainGlobals "range" = some none)
    (z_tuple : PySem.W.nsIn K mainGlobals "tuple" = some none)
    (z_list : PySem.W.nsIn K mainGlobals "list" = some none)
    (z_zip : PySem.W.nsIn K mainGlobals "zip" = some none)
    (z_min : PySem.W.nsIn K mainGlobals "min" = some none)
    (z_max : PySem.W.nsIn K mainGlobals "max" = some none)
    (z_abs : PySem.W.nsIn K mainGlobals "abs" = some none)
    (z_int : PySem.W.nsIn K mainGlobals "int" = some none)
    (z_all : PySem.W.nsIn K mainGlobals "all" = some none)
    (z_sorted : PySem.W.nsIn K mainGlobals "sorted" = some none) :
    ∃ fd : FuncData, (∀ (s : Shared) (v : Value), BindsTo s fd ⟨[v], []⟩ [("_law_script", v)]) ∧ ∀ base : Heap, K.In base → base.Ns mainGlobals mg → FnOk l.prog w K mg base CX0 20 fa fd ["_law_script"] (spLaw K) := by
  have e := hfa.symm.trans (PySem.W.mg_of X G aL)
  cases e
  have FLL := fun_mk (st := sLL) lLL cLL kLL
  have bLL := FLL.binds (ps := ["rules", "first"]) fun _ _ _ _ _ _ us hl => match us, hl with | [_, _], _ => rfl
  have FTF := fun_mk (st := sTF) lTF cTF kTF
  have bTF := FTF.binds (ps := ["lasts", "later"]) fun _ _ _ _ _ _ us hl => match us, hl with | [_, _], _ => rfl
  have FTU := fun_mk (st := sTU) lTU cTU kTU
  have bTU := FTU.binds (ps := ["rules"]) fun _ _ _ _ _ _ us hl => match us, hl with | [_], _ => rfl
  have FWI := fun_mk (st := (sWk 0)) lWI cWI kWI
  have bWI := FWI.binds (ps := ["self", "rules"]) fun _ _ _ _ _ _ us hl => match us, hl with | [_, _], _ => rfl
  have FWS := fun_mk (st := (sWk 1)) lWS cWS kWS
  have bWS := FWS.binds (ps := ["self", "row"]) fun _ _ _ _ _ _ us hl => match us, hl with | [_, _], _ => rfl
  have FWR := fun_mk (st := (sWk 2)) lWR cWR kWR
  have bWR := FWR.binds (ps := ["self", "row"]) fun _ _ _ _ _ _ us hl => match us, hl with | [_, _], _ => rfl
  have FWE := fun_mk (st := (sWk 3)) lWE cWE kWE
  have bWE := FWE.binds (ps := ["self", "files"]) fun _ _ _ _ _ _ us hl => match us, hl with | [_, _], _ => rfl
  have FWB := fun_mk (st := (sWk 4)) lWB cWB kWB
  have bWB := FWB.binds (ps := ["self", "rotations"]) fun _ _ _ _ _ _ us hl => match us, hl with | [_, _], _ => rfl
  have FDI : FunD K "__init__" "Demand.__init__" (defArgs (sDm 0)) (defBody (sDm 0)) (defScope (sDm 0)) [] kwD fDI _ := ⟨⟨_, _, _, _, _, _, _, _, _, _, rfl, lDI, cDI, .inl ⟨rfl, rfl⟩, .inr ⟨kdDI, rfl, kwd_of xDI yDI⟩⟩, kDI⟩
  have FDL := fun_mk (st := (sDm 4)) lDL cDL kDL
  have bDL := FDL.binds (ps := ["self", "rotations"]) fun _ _ _ _ _ _ us hl => match us, hl with | [_, _], _ => rfl
  have FDC := fun_mk (st := (sDm 6)) lDC cDC kDC
  have bDC := FDC.binds (ps := ["self", "limit"]) fun _ _ _ _ _ _ us hl => match us, hl with | [_, _], _ => rfl
  have FNE : FunD K "needed" "needed" (defArgs sNe) (defBody sNe) (defScope sNe) [] kwD fNE _ := ⟨⟨_, _, _, _, _, _, _, _, _, _, rfl, lNE, cNE, .inl ⟨rfl, rfl⟩, .inr ⟨kdNE, rfl, kwd_of xNE yNE⟩⟩, kNE⟩
  have FX := fun_mk (st := sBox) lX cX kX
  have bX := FX.binds (ps := ["_law_script", "_law_k"]) fun _ _ _ _ _ _ us hl => match us, hl with | [_, _], _ => rfl
  have FT := fun_mk (st := sTake) lT cT kT
  have bT := FT.binds (ps := ["_law_box_here", "_law_many"]) fun _ _ _ _ _ _ us hl => match us, hl with | [_, _], _ => rfl
  have FO := fun_mk (st := sOf) lO cO kO
  have bO := FO.binds (ps := ["_law_box_here", "_law_some"]) fun _ _ _ _ _ _ us hl => match us, hl with | [_, _], _ => rfl
  have FB := fun_mk (st := sBook) lB cB kB
  have bB := FB.binds (ps := ["_law_box_here", "_law_top"]) fun _ _ _ _ _ _ us hl => match us, hl with | [_, _], _ => rfl
  have FR := fun_mk (st := sRight) lR cR kR
  have bR := FR.binds (ps := ["_law_box_here"]) fun _ _ _ _ _ _ us hl => match us, hl with | [_], _ => rfl
  have FL := fun_mk (st := sLaw) lL cL kL
  have T : Bl mg := ⟨PySem.W.mg_none_of X G z_len, PySem.W.mg_none_of X G z_range, PySem.W.mg_none_of X G z_tuple, PySem.W.mg_none_of X G z_list, PySem.W.mg_none_of X G z_zip, PySem.W.mg_none_of X G z_min, PySem.W.mg_none_of X G z_max, PySem.W.mg_none_of X G z_abs, PySem.W.mg_none_of X G z_int, PySem.W.mg_none_of X G z_all, PySem.W.mg_none_of X G z_sorted⟩
  have W : CW K mg CWk := ⟨⟨pgWk, hdWk, poWk, saWk⟩, PySem.W.mg_of X G aCWk, nWk_0, nWk_1, nWk_2, nWk_3, nWk_4, nWk_5⟩
  have Dm : CD K mg CDm := ⟨⟨pgDm, hdDm, poDm, saDm⟩, PySem.W.mg_of X G aCDm, nDm_0, nDm_1, nDm_2, nDm_3⟩
  refine ⟨PySem.W.fnOf "law" "law" (defArgs sLaw) (defBody sLaw) (defScope sLaw) .none kVL dcL pmL anL cdL ctL, fun s v => .of_eq rfl, fun base _ _ => ?_⟩
  have GTU : FnOk l.prog w K mg base CX0 2 fTU _ ["rules"] (mk K spTU) := ok_TU FTU T FLL bLL (PySem.W.mg_of X G aLL) FTF bTF (PySem.W.mg_of X G aTF)
  have MW : Mk K CWk fWI := ⟨mkWk, aWI, iWI, kcWk⟩
  have MD : Mk K CDm fDI := ⟨mkDm, aDI, iDI, kcDm⟩
  have GWE : FnOk l.prog w K mg base CX0 1 fWE _ ["self", "files"] (mk K (spLE K CWk)) := ok_LE FWE T W
  have GWB : FnOk l.prog w K mg base CX0 2 fWB _ ["self", "rotations"] (mk K (spLB K CWk)) := ok_LB FWB T W FWE bWE ⟨aWE, iWE, kWE⟩
  have GWI : FnOk l.prog w K mg base CX0 3 fWI _ ["self", "rules"] (mkI K CWk (spWI K CWk)) := ok_WI FWI T W GTU kTU bTU (PySem.W.mg_of X G aTU) (ok_SH FWS T) bWS ⟨aWS, iWS, kWS⟩ (ok_RB FWR T W) bWR ⟨aWR, iWR, kWR⟩
  have GDI : FnOk l.prog w K mg base CX0 5 fDI _ ["self", "rules", "forced", "holds"] (mkI K CDm (spDI K CDm CWk)) := ok_DI FDI T Dm W MW GWI bWI
  have GDL : FnOk l.prog w K mg base CX0 3 fDL _ ["self", "rotations"] (mk K (spLF K CDm CWk)) := ok_LF FDL Dm W GWE bWE ⟨aWE, iWE, kWE⟩ GWB bWB ⟨aWB, iWB, kWB⟩
  have GDC : FnOk l.prog w K mg base CX0 4 fDC _ ["self", "limit"] (mk K (spDC K CDm CWk)) := ok_DC FDC Dm GDL bDL ⟨aDL, iDL, kDL⟩
  have cC : StX.CallO K CDm fDC := ⟨aDC, iDC, qDC⟩
  have GNE : FnOk l.prog w K mg base CX0 7 fNE _ nNe (mk K spNe) := ok_Ne FNE Dm MD FDI GDI GDC bDC cC
  have GT : FnOk l.prog w K mg base CX0 1 fT _ ["_law_box_here", "_law_many"] (mk K spTake) := ok_Take FT
  have GO : FnOk l.prog w K mg base CX0 2 fO _ nOf (mk K spOf) := ok_Of FO T GT kT bT (PySem.W.mg_of X G aT)
  have GB : FnOk l.prog w K mg base CX0 3 fB _ ["_law_box_here", "_law_top"] (mk K spBook) := ok_Book FB T GT kT bT (PySem.W.mg_of X G aT) GO kO bO (PySem.W.mg_of X G aO)
  have GR : FnOk l.prog w K mg base CX0 9 fR _ ["_law_box_here"] (mk K spRight) := ok_Right FR ⟨T, Dm, MD, FDI, GDI, GDC, bDC, cC, FNE, GNE, kNE, PySem.W.mg_of X G aNE, GT, kT, bT, PySem.W.mg_of X G aT, GO, kO, bO, PySem.W.mg_of X G aO, GB, kB, bB, PySem.W.mg_of X G aB⟩
  exact ok_law FL T GR kR bR (PySem.W.mg_of X G aR) (ok_Box FX T) kX bX (PySem.W.mg_of X G aX)
end RL
open PySem PySem.W PyProof.Rows in
set_option maxRecDepth 100000 in
set_option maxHeartbeats 0 in
theorem PySem.Challenge.cw_rotatedlogs_k22_demands_that_rise_holds : PySem.Challenge.rw_rotatedlogs_k22_demands_that_rise.Holds := by
  w_on; o_law; k_head; (case hw => w_witness2)
  k_fill
  refine L2.walk_of (l := PySem.Challenge.rw_rotatedlogs_k22_demands_that_rise) (n := 63) (k := 20) (x := "_law_script") (CX := fun _ => L2.CX0) (sp := fun w => RL.spLaw _) rfl (by decide) rfl ⟨rfl, by decide, by decide⟩ (fun w h Y => PySem.W.kIn_of Y) ?F (fun _ _ a ns hl _ hS => ⟨a, ns, rfl, hS, hl, fun _ => rfl⟩) fun _ _ _ _ _ z => z
  case F =>
    intro w mg fa h KX G hmg
    refine' RL.all_mk KX G hmg ?aCWk ?pgWk ?hdWk ?poWk ?saWk ?mkWk ?kcWk ?nWk_0 ?nWk_1 ?nWk_2 ?nWk_3 ?nWk_4 ?nWk_5 ?aCDm ?pgDm ?hdDm ?poDm ?saDm ?mkDm ?kcDm ?nDm_0 ?nDm_1 ?nDm_2 ?nDm_3 ?aLL ?lLL ?cLL ?kLL ?aTF ?lTF ?cTF ?kTF ?aTU ?lTU ?cTU ?kTU ?aWI ?iWI ?lWI ?cWI ?kWI ?aWS ?iWS ?lWS ?cWS ?kWS ?aWR ?iWR ?lWR ?cWR ?kWR ?aWE ?iWE ?lWE ?cWE ?kWE ?aWB ?iWB ?lWB ?cWB ?kWB ?aDI ?iDI ?lDI ?cDI ?kDI ?xDI ?yDI ?aDL ?iDL ?lDL ?cDL ?kDL ?aDC ?iDC ?lDC ?cDC ?kDC ?qDC ?aNE ?lNE ?cNE ?kNE ?xNE ?yNE ?aX ?lX ?cX ?kX ?aT ?lT ?cT ?kT ?aO ?lO ?cO ?kO ?aB ?lB ?cB ?kB ?aR ?lR ?cR ?kR ?aL ?lL ?cL ?kL ?z_len ?z_range ?z_tuple ?z_list ?z_zip ?z_min ?z_max ?z_abs ?z_int ?z_all ?z_sorted
    case aCWk => k_is
    case pgWk => k_is
    case hdWk => k_is
    case poWk => k_is
    case saWk => k_is
    case mkWk => k_is
    case kcWk => k_is
    case nWk_0 => k_is
    case nWk_1 => k_is
    case nWk_2 => k_is
    case nWk_3 => k_is
    case nWk_4 => k_is
    case nWk_5 => k_is
    case aCDm => k_is
    case pgDm => k_is
    case hdDm => k_is
    case poDm => k_is
    case saDm => k_is
    case mkDm => k_is
    case kcDm => k_is
    case nDm_0 => k_is
    case nDm_1 => k_is
    case nDm_2 => k_is
    case nDm_3 => k_is
    case aLL => k_is
    case lLL => k_is
    case cLL => k_is
    case kLL => k_is
    case aTF => k_is
    case lTF => k_is
    case cTF => k_is
    case kTF => k_is
    case aTU => k_is
    case lTU => k_is
    case cTU => k_is
    case kTU => k_is
    case aWI => k_is
    case iWI => k_is
    case lWI => k_is
    case cWI => k_is
    case kWI => k_is
    case aWS => k_is
    case iWS => k_is
    case lWS => k_is
    case cWS => k_is
    case kWS => k_is
    case aWR => k_is
    case iWR => k_is
    case lWR => k_is
    case cWR => k_is
    case kWR => k_is
    case aWE => k_is
    case iWE => k_is
    case lWE => k_is
    case cWE => k_is
    case kWE => k_is
    case aWB => k_is
    case iWB => k_is
    case lWB => k_is
    case cWB => k_is
    case kWB => k_is
    case aDI => k_is
    case iDI => k_is
    case lDI => k_is
    case cDI => k_is
    case kDI => k_is
    case xDI => k_is
    case yDI => k_is
    case aDL => k_is
    case iDL => k_is
    case lDL => k_is
    case cDL => k_is
    case kDL => k_is
    case aDC => k_is
    case iDC => k_is
    case lDC => k_is
    case cDC => k_is
    case kDC => k_is
    case qDC => k_is
    case aNE => k_is
    case lNE => k_is
    case cNE => k_is
    case kNE => k_is
    case xNE => k_is
    case yNE => k_is
    case aX => k_is
    case lX => k_is
    case cX => k_is
    case kX => k_is
    case aT => k_is
    case lT => k_is
    case cT => k_is
    case kT => k_is
    case aO => k_is
    case lO => k_is
    case cO => k_is
    case kO => k_is
    case aB => k_is
    case lB => k_is
    case cB => k_is
    case kB => k_is
    case aR => k_is
    case lR => k_is
    case cR => k_is
    case kR => k_is
    case aL => k_is
    case lL => k_is
    case cL => k_is
    case kL => k_is
    case z_len => k_is
    case z_range => k_is
    case z_tuple => k_is
    case z_list => k_is
    case z_zip => k_is
    case z_min => k_is
    case z_max => k_is
    case z_abs => k_is
    case z_int => k_is
    case z_all => k_is
    case z_sorted => k_is
