import PyProof.Rows.All
import Wide.All
import OpenK.AllK
import Wide.FinOn
import KE.KStateDown
import HandS.ForMost
import HandS.Exc
import HandS.ExcInit
import HandS.ExcField
import HandS.ExcIs
import HandS.TryOnly
import HandS.WordsExc
import HandS.Defaults
import HandS.Wide
import HandS.Conv
import HandS.Walk
import HandS.TupAny
import HandS.Text
import HandS.SortInts
import HandS.SetKeys
import HandS.Deep
import HandS.Flow
import HandS.CallSlots
import HandS.IsInst
import HandS.HeadHook1
import HandS.HeadHook2
import KE.KExcSuper
import HandS.FStr
import HandS.SetFor
import HandS.Head0
import HandS.Head1
import HandS.Head2
import HandS.HeadEnd
import HandS.Ends
import HandS.Words
import HandS.Star
import HandS.OwnEq
import HandS.Codes
import PySem.Challenge.RW_depotyear_k06_net_parts_and_refusals
set_option Elab.async false
set_option linter.all false
set_option maxRecDepth 100000
set_option maxHeartbeats 4000000
/-! Y1: typed layer over HandS: data D, the state (persistent heap, owned objects), judgements. -/
namespace Y
open PySem PySem.Spec PyProof.Rows L2

/-! ### data -/
inductive D where
  | non | bl (b : Bool) | int (i : Int) | str (x : Str)
  | tup (ds : List D) | lst (ds : List D) | sqs (ds : List D) | dic (kvs : List (D × D)) | obj (c : String) (fs : List (String × D))

theorem SameT {K : PySem.W.Frag} {H H' : Hp} {a : Addr} {xs : List V} (e : Same H H') (h : SqT K H a xs) : SqT K H' a xs := by
  rcases h with (h | ⟨o, h⟩) | h
  · exact .inl (.inl (e _ _ h))
  · exact .inl (.inr ⟨o, e _ _ h⟩)
  · exact .inr h
theorem SameR {H H' : Hp} {a : Addr} {u : HO} (e : Same H H') (h : Rd H a u) : Rd H' a u := by
  rcases h with h | ⟨o, h⟩
  · exact .inl (e _ _ h)
  · exact .inr ⟨o, e _ _ h⟩

def keyD : Key → D
  | .inl i => .int i
  | .inr x => .str x

mutual
inductive Is (K : PySem.W.Frag) (H : Hp) : V → D → Prop
  | non : Is K H .non .non
  | bl (b : Bool) : Is K H (.bl b) (.bl b)
  | int (i : Int) : Is K H (.int i) (.int i)
  | str (x : Str) : Is K H (.str x) (.str x)
  | lst {a : Addr} {vs : List V} {ds : List D} : vs.length ≤ sizeLine → H a = some (.lst vs) → IsL K H vs ds → Is K H (.ref a) (.lst ds)
  | sqs {a : Addr} {vs : List V} {ds : List D} : vs.length ≤ sizeLine → SqL K H a vs → IsL K H vs ds → Is K H (.ref a) (.sqs ds)
  | tup {a : Addr} {vs : List V} {ds : List D} : vs.length ≤ sizeLine → SqT K H a vs → IsL K H vs ds → Is K H (.ref a) (.tup ds)
  | dk {a : Addr} {kvs : List (Key × V)} {ds : List (D × D)} : Rd H a (.dK kvs) → IsK K H kvs ds → Is K H (.ref a) (.dic ds)
  | dt {a : Addr} {kvs : List (List Key × V)} {ds : List (D × D)} : Rd H a (.dT kvs) → IsT K H kvs ds → Is K H (.ref a) (.dic ds)
  | obj {a dx : Addr} {c : String} {fs : List (Str × V)} {ds : List (String × D)} : H a = some (.ins (He.ga K (Str.ofString c)) dx fs) → IsF K H fs ds → Is K H (.ref a) (.obj c ds)
inductive IsL (K : PySem.W.Frag) (H : Hp) : List V → List D → Prop
  | nil : IsL K H [] []
  | cons {v : V} {vs : List V} {d : D} {ds : List D} : Is K H v d → IsL K H vs ds → IsL K H (v :: vs) (d :: ds)
inductive IsK (K : PySem.W.Frag) (H : Hp) : List (Key × V) → List (D × D) → Prop
  | nil : IsK K H [] []
  | cons {k : Key} {v : V} {vs : List (Key × V)} {d : D} {ds : List (D × D)} : Is K H v d → IsK K H vs ds → IsK K H ((k, v) :: vs) ((keyD k, d) :: ds)
inductive IsT (K : PySem.W.Frag) (H : Hp) : List (List Key × V) → List (D × D) → Prop
  | nil : IsT K H [] []
  | cons {k : List Key} {v : V} {vs : List (List Key × V)} {d : D} {ds : List (D × D)} : Is K H v d → IsT K H vs ds → IsT K H ((k, v) :: vs) ((.tup (k.map keyD), d) :: ds)
inductive IsF (K : PySem.W.Frag) (H : Hp) : List (Str × V) → List (String × D) → Prop
  | nil : IsF K H [] []
  | cons {f : String} {v : V} {vs : List (Str × V)} {d : D} {ds : List (String × D)} : Is K H v d → IsF K H vs ds → IsF K H ((Str.ofString f, v) :: vs) ((f, d) :: ds)
end

section
variable {K : PySem.W.Frag} {H H' : Hp}
mutual
theorem Is.mono (s : Same H H') : ∀ {v : V} {d : D}, Is K H v d → Is K H' v d
  | _, _, .non => .non
  | _, _, .bl b => .bl b
  | _, _, .int i => .int i
  | _, _, .str x => .str x
  | _, _, .lst z h l => .lst z (s _ _ h) (IsL.mono s l)
  | _, _, .sqs z h l => .sqs z (s.seq h) (IsL.mono s l)
  | _, _, .tup z h l => .tup z (SameT s h) (IsL.mono s l)
  | _, _, .dk h l => .dk (SameR s h) (IsK.mono s l)
  | _, _, .dt h l => .dt (SameR s h) (IsT.mono s l)
  | _, _, .obj h l => .obj (s _ _ h) (IsF.mono s l)
theorem IsL.mono (s : Same H H') : ∀ {v : List V} {d : List D}, IsL K H v d → IsL K H' v d
  | _, _, .nil => .nil
  | _, _, .cons h l => .cons (Is.mono s h) (IsL.mono s l)
theorem IsK.mono (s : Same H H') : ∀ {v : List (Key × V)} {d : List (D × D)}, IsK K H v d → IsK K H' v d
  | _, _, .nil => .nil
  | _, _, .cons h l => .cons (Is.mono s h) (IsK.mono s l)
theorem IsT.mono (s : Same H H') : ∀ {v : List (List Key × V)} {d : List (D × D)}, IsT K H v d → IsT K H' v d
  | _, _, .nil => .nil
  | _, _, .cons h l => .cons (Is.mono s h) (IsT.mono s l)
theorem IsF.mono (s : Same H H') : ∀ {v : List (Str × V)} {d : List (String × D)}, IsF K H v d → IsF K H' v d
  | _, _, .nil => .nil
  | _, _, .cons h l => .cons (Is.mono s h) (IsF.mono s l)
end
theorem IsL.length : ∀ {v : List V} {d : List D}, IsL K H v d → v.length = d.length
  | _, _, .nil => rfl
  | _, _, .cons _ l => congrArg (· + 1) l.length
theorem IsL.get : ∀ {v : List V} {d : List D} {i : Nat} {x : D}, IsL K H v d → d[i]? = some x → ∃ u, v[i]? = some u ∧ Is K H u x
  | _, _, _, _, .nil, e => by simp at e
  | _, _, 0, _, .cons h _, e => by
    simp at e
    subst e
    exact ⟨_, rfl, h⟩
  | _, _, i + 1, x, .cons _ l, e => by
    obtain ⟨u, h1, h2⟩ := l.get (i := i) (x := x) (by simpa using e)
    exact ⟨u, by simpa using h1, h2⟩
theorem IsL.getV : ∀ {v : List V} {d : List D} {i : Nat} {u : V}, IsL K H v d → v[i]? = some u → ∃ x, d[i]? = some x ∧ Is K H u x
  | _, _, _, _, .nil, e => by simp at e
  | _, _, 0, _, .cons h _, e => by
    simp at e
    subst e
    exact ⟨_, rfl, h⟩
  | _, _, i + 1, x, .cons _ l, e => by
    obtain ⟨u, h1, h2⟩ := l.getV (i := i) (u := x) (by simpa using e)
    exact ⟨u, by simpa using h1, h2⟩
theorem IsL.append : ∀ {v w : List V} {d e : List D}, IsL K H v d → IsL K H w e → IsL K H (v ++ w) (d ++ e)
  | _, _, _, _, .nil, s => s
  | _, _, _, _, .cons h l, s => .cons h (l.append s)
theorem IsL.ints : ∀ {v : List V} {ns : List Int}, IsL K H v (ns.map D.int) → v = ns.map V.int
  | _, [], .nil => rfl
  | _, n :: ns, .cons (.int _) l => congrArg (V.int n :: ·) (IsL.ints l)
theorem isL_ints : ∀ (ns : List Int), IsL K H (ns.map V.int) (ns.map D.int)
  | [] => .nil
  | n :: ns => .cons (.int n) (isL_ints ns)
theorem IsL.strs : ∀ {v : List V} {ns : List Str}, IsL K H v (ns.map D.str) → v = ns.map V.str
  | _, [], .nil => rfl
  | _, n :: ns, .cons (.str _) l => congrArg (V.str n :: ·) (IsL.strs l)
theorem isL_strs : ∀ (ns : List Str), IsL K H (ns.map V.str) (ns.map D.str)
  | [] => .nil
  | n :: ns => .cons (.str n) (isL_strs ns)
theorem IsL.bls : ∀ {v : List V} {ns : List Bool}, IsL K H v (ns.map D.bl) → v = ns.map V.bl
  | _, [], .nil => rfl
  | _, n :: ns, .cons (.bl _) l => congrArg (V.bl n :: ·) (IsL.bls l)
theorem isL_bls : ∀ (ns : List Bool), IsL K H (ns.map V.bl) (ns.map D.bl)
  | [] => .nil
  | n :: ns => .cons (.bl n) (isL_bls ns)
theorem IsL.set : ∀ {v : List V} {d : List D} {u : V} {x : D}, IsL K H v d → Is K H u x → ∀ i : Nat, IsL K H (v.set i u) (d.set i x)
  | _, _, _, _, .nil, _, _ => .nil
  | _, _, _, _, .cons _ l, r, 0 => .cons r l
  | _, _, _, _, .cons q l, r, i + 1 => .cons q (l.set r i)
theorem IsL.drop : ∀ {v : List V} {d : List D}, IsL K H v d → ∀ i : Nat, IsL K H (v.drop i) (d.drop i)
  | _, _, .nil, i => by simp; exact .nil
  | _, _, .cons q l, 0 => .cons q l
  | _, _, .cons _ l, i + 1 => l.drop i
theorem IsL.take : ∀ {v : List V} {d : List D}, IsL K H v d → ∀ i : Nat, IsL K H (v.take i) (d.take i)
  | _, _, .nil, i => by simp; exact .nil
  | _, _, .cons _ _, 0 => .nil
  | _, _, .cons q l, i + 1 => .cons q (l.take i)
theorem IsL.reverse : ∀ {v : List V} {d : List D}, IsL K H v d → IsL K H v.reverse d.reverse
  | _, _, .nil => .nil
  | _, _, .cons q l => by simp; exact l.reverse.append (.cons q .nil)
end

/-! ### what a slot or a temporary is known to hold; owned objects -/
inductive As where
  | dat (d : D)
  | own (p : Addr)
  | exc (a : Addr) (d : Option Addr) (fs : List (String × D))

def AsOk (K : PySem.W.Frag) (H0 : Hp) : As → V → Prop
  | .dat d, v => Is K H0 v d
  | .own p, v => v = .ref p
  | .exc a d fs, v => v = .ref a ∧ ((fs = [] ∧ d = Option.none) ∨ ∃ dd vs, d = some dd ∧ H0 dd = some (.xd vs) ∧ IsF K H0 vs fs)
theorem AsOk.mono {K : PySem.W.Frag} {H0 H1 : Hp} (s : Same H0 H1) : ∀ {a : As} {v : V}, AsOk K H0 a v → AsOk K H1 a v
  | .dat _, _, h => Is.mono s h
  | .own _, _, h => h
  | .exc _ _ _, _, ⟨e, h⟩ => ⟨e, by
    rcases h with h | ⟨dd, vs, h1, h2, h3⟩
    · exact .inl h
    · exact .inr ⟨dd, vs, h1, s _ _ h2, h3.mono s⟩⟩

abbrev AsL (K : PySem.W.Frag) (H0 : Hp) : List V → List As → Prop := Paired fun v a => AsOk K H0 a v
theorem AsL.mono {K : PySem.W.Frag} {H0 H1 : Hp} (s : Same H0 H1) : ∀ {vs : List V} {as : List As}, AsL K H0 vs as → AsL K H1 vs as
  | _, _, .nil => .nil
  | _, _, .cons h l => .cons (AsOk.mono s h) (AsL.mono s l)
theorem AsL.dat {K : PySem.W.Frag} {H0 : Hp} : ∀ {vs : List V} {ds : List D}, AsL K H0 vs (ds.map As.dat) → IsL K H0 vs ds
  | [], [], .nil => .nil
  | _ :: _, _ :: _, .cons h l => .cons h (AsL.dat l)
theorem AsL.of {K : PySem.W.Frag} {H0 : Hp} : ∀ {vs : List V} {ds : List D}, IsL K H0 vs ds → AsL K H0 vs (ds.map As.dat)
  | _, _, .nil => .nil
  | _, _, .cons h l => .cons h (AsL.of l)
abbrev AsF (K : PySem.W.Frag) (H0 : Hp) : List (Str × V) → List (String × As) → Prop := Paired fun v a => v.1 = Str.ofString a.1 ∧ AsOk K H0 a.2 v.2
theorem AsF.mono {K : PySem.W.Frag} {H0 H1 : Hp} (s : Same H0 H1) : ∀ {vs : List (Str × V)} {as : List (String × As)}, AsF K H0 vs as → AsF K H1 vs as
  | _, _, .nil => .nil
  | _, _, .cons h l => .cons ⟨h.1, AsOk.mono s h.2⟩ (AsF.mono s l)
theorem AsF.dat {K : PySem.W.Frag} {H0 : Hp} : ∀ {vs : List (Str × V)} {ds : List (String × D)}, AsF K H0 vs (ds.map fun q => (q.1, As.dat q.2)) → IsF K H0 vs ds
  | [], [], .nil => .nil
  | (_, _) :: _, (_, _) :: _, .cons h l => by
    obtain ⟨h1, h2⟩ := h
    cases h1
    exact .cons h2 (AsF.dat l)

inductive OD where
  | lst (as : List As)
  | dk (kvs : List (Key × As))
  | dt (kvs : List (List Key × As))
  | ins (c : String) (fs : List (String × As))

def ODOk (K : PySem.W.Frag) (H0 : Hp) : OD → HO → Prop
  | .lst as, ho => ∃ vs, ho = .lst vs ∧ vs.length ≤ sizeLine ∧ AsL K H0 vs as
  | .dk kvs, ho => ∃ vs, ho = .dK vs ∧ Paired (fun v a => v.1 = a.1 ∧ AsOk K H0 a.2 v.2) vs kvs
  | .dt kvs, ho => ∃ vs, ho = .dT vs ∧ Paired (fun v a => v.1 = a.1 ∧ AsOk K H0 a.2 v.2) vs kvs
  | .ins c fs, ho => ∃ dx vs, ho = .ins (He.ga K (Str.ofString c)) dx vs ∧ AsF K H0 vs fs
theorem ODOk.mono {K : PySem.W.Frag} {H0 H1 : Hp} (s : Same H0 H1) {od : OD} {ho : HO} (h : ODOk K H0 od ho) : ODOk K H1 od ho := by
  cases od with
  | lst as => obtain ⟨vs, e, z, l⟩ := h; exact ⟨vs, e, z, l.mono s⟩
  | dk kvs => obtain ⟨vs, e, l⟩ := h; exact ⟨vs, e, L2.Paired.mapP l fun _ _ q => ⟨q.1, q.2.mono s⟩⟩
  | dt kvs => obtain ⟨vs, e, l⟩ := h; exact ⟨vs, e, L2.Paired.mapP l fun _ _ q => ⟨q.1, q.2.mono s⟩⟩
  | ins c fs => obtain ⟨dx, vs, e, l⟩ := h; exact ⟨dx, vs, e, l.mono s⟩
theorem ODOk.mut {K : PySem.W.Frag} {H0 : Hp} {od : OD} {ho : HO} (h : ODOk K H0 od ho) : Mut (some ho) := by
  cases od with
  | lst as => obtain ⟨vs, rfl, z, l⟩ := h; trivial
  | dk kvs => obtain ⟨vs, rfl, l⟩ := h; trivial
  | dt kvs => obtain ⟨vs, rfl, l⟩ := h; trivial
  | ins c fs => obtain ⟨dx, vs, rfl, l⟩ := h; trivial

abbrev OCtx := List (Addr × OD)
abbrev Ctx := List (Option As)

/-- the entry of the body: what was tracked, what the caller holds to be persistent, what is the body's to change -/
structure En where
  He : Hp
  H0c : Hp
  own : List Addr

structure Hs (K : PySem.W.Frag) (G : En) (Ω : OCtx) (H0 H : Hp) : Prop where
  sub : Same H0 H
  base : Same G.H0c H0
  new : ∀ b o, H0 b = some o → G.H0c b = some o ∨ G.He b = none
  keep : ∀ b o, G.He b = some o → b ∉ G.own → H b = some o
  ownT : ∀ b ∈ G.own, H b ≠ none
  own : ∀ p o, (p, o) ∈ Ω → (∃ ho, H p = some ho ∧ ODOk K H0 o ho) ∧ H0 p = none ∧ (p ∈ G.own ∨ G.He p = none)
  nd : (Ω.map (·.1)).Nodup

structure Sl (K : PySem.W.Frag) (Γ : Ctx) (H0 : Hp) (σ : L2.St) : Prop where
  len : σ.length = Γ.length
  at_ : ∀ (i : Nat) a, Γ[i]? = some (some a) → ∃ v, σ[i]? = some (some v) ∧ AsOk K H0 a v
theorem Sl.mono {K : PySem.W.Frag} {Γ : Ctx} {H0 H1 : Hp} {σ : L2.St} (s : Same H0 H1) (h : Sl K Γ H0 σ) : Sl K Γ H1 σ :=
  ⟨h.len, fun i a e => by obtain ⟨v, h1, h2⟩ := h.at_ i a e; exact ⟨v, h1, h2.mono s⟩⟩
theorem Sl.set {K : PySem.W.Frag} {Γ : Ctx} {H0 : Hp} {σ : L2.St} (h : Sl K Γ H0 σ) {i : Nat} {v : V} {a : As} (r : AsOk K H0 a v) : Sl K (Γ.set i (some a)) H0 (σ.set i (some v)) := by
  refine ⟨by simp [h.len], fun j b e => ?_⟩
  by_cases q : i = j
  · subst q
    rw [List.getElem?_set] at e
    by_cases l : i < Γ.length
    · have l2 : i < σ.length := by rw [h.len]; exact l
      simp [l] at e
      subst e
      exact ⟨v, by simp [l2], r⟩
    · simp [l] at e
  · rw [List.getElem?_set_ne q] at e
    obtain ⟨w, h1, h2⟩ := h.at_ j b e
    exact ⟨w, by rw [List.getElem?_set_ne q]; exact h1, h2⟩
theorem Sl.setN {K : PySem.W.Frag} {Γ : Ctx} {H0 : Hp} {σ : L2.St} (h : Sl K Γ H0 σ) {i : Nat} {o : Option V} : Sl K (Γ.set i none) H0 (σ.set i o) := by
  refine ⟨by simp [h.len], fun j b e => ?_⟩
  by_cases q : i = j
  · subst q
    rw [List.getElem?_set] at e
    by_cases l : i < Γ.length <;> simp [l] at e
  · rw [List.getElem?_set_ne q] at e
    obtain ⟨w, h1, h2⟩ := h.at_ j b e
    exact ⟨w, by rw [List.getElem?_set_ne q]; exact h1, h2⟩
/-- forgetting -/
def Le (Γ Δ : Ctx) : Prop := Γ.length = Δ.length ∧ ∀ (i : Nat) a, Δ[i]? = some (some a) → Γ[i]? = some (some a)
theorem Sl.weak {K : PySem.W.Frag} {Γ Δ : Ctx} {H0 : Hp} {σ : L2.St} (h : Sl K Γ H0 σ) (l : Le Γ Δ) : Sl K Δ H0 σ :=
  ⟨h.len.trans l.1, fun i a e => h.at_ i a (l.2 i a e)⟩
theorem Le.refl (Γ : Ctx) : Le Γ Γ := ⟨rfl, fun _ _ e => e⟩
theorem Le.nil : Le [] [] := ⟨rfl, fun _ _ e => e⟩
theorem Le.none {a : Option As} {Γ Δ : Ctx} (h : Le Γ Δ) : Le (a :: Γ) (Option.none :: Δ) := ⟨congrArg (· + 1) h.1, fun i b e => by
  cases i with
  | zero => simp at e
  | succ i => exact h.2 i b e⟩
theorem Le.keep {a : Option As} {Γ Δ : Ctx} (h : Le Γ Δ) : Le (a :: Γ) (a :: Δ) := ⟨congrArg (· + 1) h.1, fun i b e => by
  cases i with
  | zero => exact e
  | succ i => exact h.2 i b e⟩

section
variable {K : PySem.W.Frag} {G : En} {Ω : OCtx} {H0 H : Hp}
theorem Hs.free (h : Hs K G Ω H0 H) {p : Addr} (n : H p = none) : G.He p = none := by
  cases e : G.He p with
  | none => rfl
  | some o =>
    by_cases q : p ∈ G.own
    · exact absurd n (h.ownT p q)
    · rw [h.keep p o e q] at n
      cases n
theorem Hs.free0 (h : Hs K G Ω H0 H) {p : Addr} (n : H p = none) : H0 p = none := by
  cases e : H0 p with
  | none => rfl
  | some o => rw [h.sub p o e] at n; cases n
theorem Hs.notIn (h : Hs K G Ω H0 H) {p : Addr} (n : H p = none) : ∀ o, (p, o) ∉ Ω := fun o m => by
  obtain ⟨⟨ho, e, _⟩, _⟩ := h.own p o m
  rw [e] at n
  cases n
theorem same_upd {H : Hp} {p : Addr} {o : HO} (n : H p = none) : Same H (upd H p o) := fun b u e => by
  rw [upd_ne (ne_of_none e n)]
  exact e
/-- a new persistent object -/
theorem Hs.alloc (h : Hs K G Ω H0 H) {p : Addr} {o : HO} (n : H p = none) : Hs K G Ω (upd H0 p o) (upd H p o) where
  sub := fun b u e => by
    by_cases q : b = p
    · subst q
      rw [upd_same] at e ⊢
      exact e
    · rw [upd_ne q] at e ⊢
      exact h.sub b u e
  base := fun b u e => by
    rw [upd_ne (ne_of_none (h.base b u e) (h.free0 n))]
    exact h.base b u e
  new := fun b u e => by
    by_cases q : b = p
    · subst q
      exact .inr (h.free n)
    · rw [upd_ne q] at e
      exact h.new b u e
  keep := fun b u e m => by
    rw [upd_ne (ne_of_none (h.keep b u e m) n)]
    exact h.keep b u e m
  ownT := fun b m => by
    by_cases q : b = p
    · subst q
      rw [upd_same]
      intro z
      cases z
    · rw [upd_ne q]
      exact h.ownT b m
  own := fun q u m => by
    obtain ⟨⟨ho, e, k⟩, z, f⟩ := h.own q u m
    have ne : q ≠ p := ne_of_none e n
    exact ⟨⟨ho, by rw [upd_ne ne]; exact e, k.mono (same_upd (h.free0 n))⟩, by rw [upd_ne ne]; exact z, f⟩
  nd := h.nd
/-- a new owned object -/
theorem Hs.allocOwn (h : Hs K G Ω H0 H) {p : Addr} {o : HO} {od : OD} (n : H p = none) (k : ODOk K H0 od o) : Hs K G ((p, od) :: Ω) H0 (upd H p o) where
  sub := fun b u e => by
    rw [upd_ne (ne_of_none (h.sub b u e) n)]
    exact h.sub b u e
  base := h.base
  new := h.new
  keep := fun b u e m => by
    rw [upd_ne (ne_of_none (h.keep b u e m) n)]
    exact h.keep b u e m
  ownT := fun b m => by
    by_cases q : b = p
    · subst q
      rw [upd_same]
      intro z
      cases z
    · rw [upd_ne q]
      exact h.ownT b m
  own := fun q u m => by
    rcases List.mem_cons.mp m with e | m
    · cases e
      exact ⟨⟨o, upd_same, k⟩, h.free0 n, .inr (h.free n)⟩
    · obtain ⟨⟨ho, e, k⟩, z, f⟩ := h.own q u m
      exact ⟨⟨ho, by rw [upd_ne (ne_of_none e n)]; exact e, k⟩, z, f⟩
  nd := by
    refine List.nodup_cons.mpr ⟨fun m => ?_, h.nd⟩
    obtain ⟨⟨q, u⟩, m, e⟩ := List.mem_map.mp m
    cases e
    exact h.notIn n u m
theorem set_map_fst {Ω : OCtx} {i : Nat} {p : Addr} {od od' : OD} (e : Ω[i]? = some (p, od)) : (Ω.set i (p, od')).map (·.1) = Ω.map (·.1) := by
  rw [List.map_set]
  refine List.ext_getElem? fun j => ?_
  rw [List.getElem?_set]
  by_cases q : i = j
  · subst q
    rw [List.getElem?_map, e]
    have l : i < Ω.length := (List.getElem?_eq_some_iff.mp e).1
    simp [l]
  · simp [q]
theorem Hs.uniq (h : Hs K G Ω H0 H) {i j : Nat} {p : Addr} {od od' : OD} (e : Ω[i]? = some (p, od)) (e' : Ω[j]? = some (p, od')) : i = j := by
  have a : (Ω.map (·.1))[i]? = some p := by rw [List.getElem?_map, e]; rfl
  have b : (Ω.map (·.1))[j]? = some p := by rw [List.getElem?_map, e']; rfl
  obtain ⟨l1, q1⟩ := List.getElem?_eq_some_iff.mp a
  obtain ⟨l2, q2⟩ := List.getElem?_eq_some_iff.mp b
  exact (List.getElem_inj h.nd).mp (q1.trans q2.symm)
/-- an owned object is changed -/
theorem Hs.write (h : Hs K G Ω H0 H) {i : Nat} {p : Addr} {od od' : OD} {o : HO} (e : Ω[i]? = some (p, od)) (k : ODOk K H0 od' o) : Hs K G (Ω.set i (p, od')) H0 (upd H p o) where
  sub := fun b u q => by
    have z := (h.own p od (List.mem_of_getElem? e)).2.1
    have ne : b ≠ p := fun w => by subst w; rw [z] at q; cases q
    rw [upd_ne ne]
    exact h.sub b u q
  base := h.base
  new := h.new
  keep := fun b u q m => by
    have z := (h.own p od (List.mem_of_getElem? e)).2.2
    have ne : b ≠ p := fun w => by
      subst w
      rcases z with z | z
      · exact m z
      · rw [z] at q; cases q
    rw [upd_ne ne]
    exact h.keep b u q m
  ownT := fun b m => by
    by_cases q : b = p
    · subst q
      rw [upd_same]
      intro z
      cases z
    · rw [upd_ne q]
      exact h.ownT b m
  own := fun q u m => by
    obtain ⟨j, hj⟩ := List.mem_iff_getElem?.mp m
    rw [List.getElem?_set] at hj
    by_cases w : i = j
    · subst w
      have l : i < Ω.length := (List.getElem?_eq_some_iff.mp e).1
      simp [l] at hj
      obtain ⟨rfl, rfl⟩ := hj
      obtain ⟨_, z, f⟩ := h.own _ od (List.mem_of_getElem? e)
      exact ⟨⟨o, upd_same, k⟩, z, f⟩
    · simp [w] at hj
      have ne : q ≠ p := fun z => by
        subst z
        exact w (h.uniq e hj)
      obtain ⟨⟨ho, e1, k1⟩, z, f⟩ := h.own q u (List.mem_of_getElem? hj)
      exact ⟨⟨ho, by rw [upd_ne ne]; exact e1, k1⟩, z, f⟩
  nd := by
    rw [set_map_fst e]
    exact h.nd
theorem Hs.at_ (h : Hs K G Ω H0 H) {i : Nat} {p : Addr} {od : OD} (e : Ω[i]? = some (p, od)) : ∃ ho, H p = some ho ∧ ODOk K H0 od ho := (h.own p od (List.mem_of_getElem? e)).1
theorem erase_sub {Ω : OCtx} {i : Nat} : (Ω.eraseIdx i).Sublist Ω := List.eraseIdx_sublist Ω i
/-- dropping an owned object (nobody will look at it) -/
theorem Hs.drop (h : Hs K G Ω H0 H) (i : Nat) : Hs K G (Ω.eraseIdx i) H0 H :=
  ⟨h.sub, h.base, h.new, h.keep, h.ownT, fun p o m => h.own p o ((erase_sub (i := i)).mem m), (List.Sublist.map _ erase_sub).nodup h.nd⟩
theorem erase_ne (h : Hs K G Ω H0 H) {i : Nat} {p : Addr} {od : OD} (e : Ω[i]? = some (p, od)) {q : Addr} {u : OD} (m : (q, u) ∈ Ω.eraseIdx i) : q ≠ p := fun z => by
  subst z
  obtain ⟨j, hj⟩ := List.mem_iff_getElem?.mp m
  rw [List.getElem?_eraseIdx] at hj
  by_cases w : j < i
  · simp [w] at hj
    have := h.uniq e hj
    omega
  · simp [w] at hj
    have := h.uniq e hj
    omega
/-- an own object of the body becomes persistent -/
theorem Hs.freeze (h : Hs K G Ω H0 H) {i : Nat} {p : Addr} {od : OD} {ho : HO} (e : Ω[i]? = some (p, od)) (he : H p = some ho) (hn : G.He p = none) : Hs K G (Ω.eraseIdx i) (upd H0 p ho) H where
  sub := fun b u q => by
    by_cases w : b = p
    · subst w
      rw [upd_same] at q
      rw [he]
      exact q
    · rw [upd_ne w] at q
      exact h.sub b u q
  base := fun b u q => by
    have z := (h.own p od (List.mem_of_getElem? e)).2.1
    have ne : b ≠ p := fun w => by subst w; have := h.base b u q; rw [z] at this; cases this
    rw [upd_ne ne]
    exact h.base b u q
  new := fun b u q => by
    by_cases w : b = p
    · subst w
      exact .inr hn
    · rw [upd_ne w] at q
      exact h.new b u q
  keep := h.keep
  ownT := h.ownT
  own := fun q u m => by
    have z := (h.own p od (List.mem_of_getElem? e)).2.1
    have ne := erase_ne h e m
    obtain ⟨⟨ho, e1, k1⟩, z1, f⟩ := h.own q u ((erase_sub (i := i)).mem m)
    exact ⟨⟨ho, e1, k1.mono (same_upd z)⟩, by rw [upd_ne ne]; exact z1, f⟩
  nd := (List.Sublist.map _ erase_sub).nodup h.nd
end
/-! ### argument lists without stars -/
def isStar : Expr → Bool
  | .Starred _ _ => true
  | _ => false
theorem star_c {e : Expr} {es : List Expr} {env : Env} (h : isStar e = false) : starEach (e :: es) env = (false, eval e env) :: starEach es env := by
  cases e <;> first | rfl | cases h
theorem plain_of {pos : Pos} {env : Env} : ∀ {es : List Expr}, (es.all fun e => !isStar e) = true → (backTo pos (starEach es env)).any (·.1) = false
  | [], _ => rfl
  | e :: es, h => by
    obtain ⟨h1, h2⟩ := Bool.and_eq_true_iff.mp h
    rw [star_c (by simpa using h1)]
    exact plain_of h2
end Y
namespace Y
open PySem PySem.Spec PyProof.Rows L2

/-! ### the mirror's monad -/
structure Exc where
  cls : String
  fs : List (String × D)
inductive M (α : Type) where
  | ok (a : α)
  | exc (e : Exc)
  | stuck
def M.bind {α β : Type} (m : M α) (k : α → M β) : M β := match m with
  | .ok a => k a
  | .exc e => .exc e
  | .stuck => .stuck
def chk {α : Type} (b : Bool) (m : M α) : M α := match b with
  | true => m
  | false => .stuck
def M.noexc {α : Type} (m : M α) : M α := match m with
  | .ok a => .ok a
  | _ => .stuck
/-- how a mirror ends (no definition that unfolds: it would run the mirror) -/
inductive Run {α : Type} : M α → (α → Prop) → (Exc → Prop) → Prop
  | ok {a : α} {Φ : α → Prop} {Ψ : Exc → Prop} : Φ a → Run (.ok a) Φ Ψ
  | exc {e : Exc} {Φ : α → Prop} {Ψ : Exc → Prop} : Ψ e → Run (.exc e) Φ Ψ
section
variable {α β : Type} {Φ Φ' : α → Prop} {Ψ Ψ' : Exc → Prop}
theorem Run.get {a : α} (h : Run (.ok a) Φ Ψ) : Φ a := by
  cases h with
  | ok h => exact h
theorem Run.getE {e : Exc} (h : Run (.exc e) Φ Ψ) : Ψ e := by
  cases h with
  | exc h => exact h
theorem Run.no (h : Run (.stuck : M α) Φ Ψ) : False := by
  cases h
theorem Run.bind {m : M α} {k : α → M β} {Φ : β → Prop} (h : Run (M.bind m k) Φ Ψ) : Run m (fun a => Run (k a) Φ Ψ) Ψ := by
  cases m with
  | ok a => exact .ok h
  | exc e => exact .exc h.getE
  | stuck => exact h.no.elim
theorem Run.bindOk {m : M α} {g : α → β} {Φ : β → Prop} (h : Run (M.bind m fun y => .ok (g y)) Φ Ψ) : Run m (fun a => Φ (g a)) Ψ := by
  cases m with
  | ok a => exact .ok h.get
  | exc e => exact .exc h.getE
  | stuck => exact h.no.elim
theorem Run.bind' {m : M α} {k : α → M β} {Φ : β → Prop} (h : Run m (fun a => Run (k a) Φ Ψ) Ψ) : Run (M.bind m k) Φ Ψ := by
  cases m with
  | ok a => exact h.get
  | exc e => exact .exc h.getE
  | stuck => exact h.no.elim
theorem Run.mono {m : M α} (h : Run m Φ Ψ) (h1 : ∀ a, Φ a → Φ' a) (h2 : ∀ e, Ψ e → Ψ' e) : Run m Φ' Ψ' := by
  cases h with
  | ok h => exact .ok (h1 _ h)
  | exc h => exact .exc (h2 _ h)
theorem Run.chk {b : Bool} {m : M α} (h : Run (chk b m) Φ Ψ) : b = true ∧ Run m Φ Ψ := by
  cases b with
  | true => exact ⟨rfl, h⟩
  | false => exact h.no.elim
theorem Run.ite {b : Bool} {m n : M α} (h : Run (bif b then m else n) Φ Ψ) : (b = true → Run m Φ Ψ) ∧ (b = false → Run n Φ Ψ) := by
  cases b with
  | true => exact ⟨fun _ => h, fun e => Bool.noConfusion e⟩
  | false => exact ⟨fun e => Bool.noConfusion e, fun _ => h⟩
theorem Run.noexc {m : M α} (h : Run m.noexc Φ Ψ) : Run m Φ (fun _ => False) := by
  cases m with
  | ok a => exact .ok h.get
  | exc e => exact h.no.elim
  | stuck => exact h.no.elim
end

/-! ### exceptions by data -/
def ExcOk (K : PySem.W.Frag) (H0 : Hp) (e : Exc) (cls : Value) (d : Option Addr) : Prop :=
  cls = .ref (He.ga K (Str.ofString e.cls)) ∧ ((e.fs = [] ∧ d = Option.none) ∨ ∃ dd vs, d = some dd ∧ H0 dd = some (.xd vs) ∧ IsF K H0 vs e.fs)
abbrev XJ := Exc → Ctx → OCtx → Prop
def WOf (K : PySem.W.Frag) (G : En) (xj : XJ) : WX := fun cls d σ H => ∃ e Γ Ω H0, ExcOk K H0 e cls d ∧ Hs K G Ω H0 H ∧ Sl K Γ H0 σ ∧ xj e Γ Ω

/-! ### the context of a body -/
structure Wd where
  P : Program
  w : World
  K : PySem.W.Frag
  mg : Str → Option Value
  base : Heap
structure Sco where
  N : List Str
  sc : Scope
  vl : List Nat
  sl : List Nat
  gl : List Str
  lv : Nat
  calm : Bool
structure ScOk (S : Sco) : Prop where
  kind : S.sc.kind = .function
  nd : List.Nodup S.N
  vis : ∀ i x, S.vl.elem i = true → S.N[i]? = some x → Vis S.sc x ∧ (x == ("__debug__" : Str)) = false ∧ (x == ("__classdict__" : Str)) = false
  loc : ∀ i x, S.sl.elem i = true → S.N[i]? = some x → Loc S.sc x
  glo : ∀ (i : Nat) x, S.gl[i]? = some x → S.sc.names.lookup x = some .globalImplicit ∧ (x == ("__debug__" : Str)) = false ∧ x ≠ "__name__"
structure TC (W : Wd) (S : Sco) where
  X : Cx
  G : En
  xj : XJ
  tk : Takes X (WOf W.K G xj)
  hW : (⟨X.prog, X.w, X.K, X.mg, X.base⟩ : Wd) = W
  hN : X.N = S.N
  hsc : X.env.scope = S.sc
  ok : ScOk S
  hf : ∀ i x, S.sl.elem i = true → S.N[i]? = some x → X.fn x = true ∨ X.env.scope.names.lookup x = some .local
  hc : X.calm = S.calm
  room : S.calm = true → Room S.lv X.A
  pso : PassesOwn (model X.prog X.w) X.A X.env X.xe

/-! ### canonical readings -/
/-- kept shut: nothing looks into it by unfolding -/
structure Hd (p : Prop) : Prop where
  run : p
def sem (X : Cx) (e : Expr) : TE := fun σ H Q => Hd (∀ pins s, Inv X pins σ H s → wpAny (model X.prog X.w) X.A (eval e X.env) (EP X pins σ Q) X.xe s)
theorem pe_sem {X : Cx} {e : Expr} : PE X e (sem X e) := ⟨fun pins s _ _ _ I h => h.run pins s I⟩
def semT (X : Cx) (e : Expr) : TT := fun σ H Q => Hd (∀ pins s, Inv X pins σ H s → wpAny (model X.prog X.w) X.A (isTrue e X.env (eval e X.env)) (TP X pins σ Q) X.xe s)
theorem pt_sem {X : Cx} {e : Expr} : PT X e (semT X e) := ⟨fun pins s _ _ _ I h => h.run pins s I⟩
def semW (X : Cx) (e : Expr) : TT := fun σ H Q => Hd (∀ wh pins s, Inv X pins σ H s → wpAny (model X.prog X.w) X.A (isTrue e X.env wh) (TP X pins σ Q) X.xe s)
theorem pw_sem {X : Cx} {e : Expr} : PW X e (semW X e) := ⟨fun wh pins s _ _ _ I h => h.run wh pins s I⟩
def semA (X : Cx) (es : List Expr) : TA := fun σ H Q => Hd (∀ pos pins s, Inv X pins σ H s → wpAny (model X.prog X.w) X.A (spliced (backTo pos (starEach es X.env))) (AP X pins σ Q) X.xe s)
theorem pa_sem {X : Cx} {es : List Expr} : PA X es (semA X es) := ⟨fun pos pins s _ _ _ I h => h.run pos pins s I⟩
def semS (X : Cx) (st : Stmt) : TS := fun D σ H => Hd (∀ pins s, Inv X pins σ H s → wpAny (model X.prog X.w) X.A (exec st X.env) (SP X pins D) X.xe s)
theorem ps_sem {X : Cx} {st : Stmt} : PS X st (semS X st) := ⟨fun pins s _ _ _ I h => h.run pins s I⟩
def semSs (X : Cx) (sts : List Stmt) : TS := fun D σ H => Hd (∀ pins s, Inv X pins σ H s → wpAny (model X.prog X.w) X.A (execs sts X.env) (SP X pins D) X.xe s)
theorem pss_sem {X : Cx} {sts : List Stmt} : PSs X sts (semSs X sts) := ⟨fun pins s _ _ _ I h => h.run pins s I⟩
theorem of_pe {X : Cx} {e : Expr} {t : TE} (h : PE X e t) {σ : L2.St} {H : Hp} {Q : VK} (q : t σ H Q) : sem X e σ H Q := ⟨fun pins s I => h.run pins s σ H Q I q⟩
theorem of_pt {X : Cx} {e : Expr} {t : TT} (h : PT X e t) {σ : L2.St} {H : Hp} {Q : Bool → Hp → Prop} (q : t σ H Q) : semT X e σ H Q := ⟨fun pins s I => h.run pins s σ H Q I q⟩
theorem of_pw {X : Cx} {e : Expr} {t : TT} (h : PW X e t) {σ : L2.St} {H : Hp} {Q : Bool → Hp → Prop} (q : t σ H Q) : semW X e σ H Q := ⟨fun wh pins s I => h.run wh pins s σ H Q I q⟩
theorem of_pa {X : Cx} {es : List Expr} {t : TA} (h : PA X es t) {σ : L2.St} {H : Hp} {Q : List V → Hp → Prop} (q : t σ H Q) : semA X es σ H Q := ⟨fun pos pins s I => h.run pos pins s σ H Q I q⟩
theorem of_ps {X : Cx} {st : Stmt} {t : TS} (h : PS X st t) {σ : L2.St} {H : Hp} {D : Ends} (q : t D σ H) : semS X st D σ H := ⟨fun pins s I => h.run pins s σ H D I q⟩
theorem of_pss {X : Cx} {st : List Stmt} {t : TS} (h : PSs X st t) {σ : L2.St} {H : Hp} {D : Ends} (q : t D σ H) : semSs X st D σ H := ⟨fun pins s I => h.run pins s σ H D I q⟩
theorem sem_mono {X : Cx} {e : Expr} {σ : L2.St} {H : Hp} {Q Q' : VK} (h : sem X e σ H Q) (k : ∀ v H', Q v H' → Q' v H') : sem X e σ H Q' :=
  ⟨fun pins s I => thn (h.run pins s I) fun _ _ ⟨v, H', a, b, c⟩ => ⟨v, H', a, b, k v H' c⟩⟩
theorem semT_mono {X : Cx} {e : Expr} {σ : L2.St} {H : Hp} {Q Q' : Bool → Hp → Prop} (h : semT X e σ H Q) (k : ∀ v H', Q v H' → Q' v H') : semT X e σ H Q' :=
  ⟨fun pins s I => thn (h.run pins s I) fun _ _ ⟨H', a, b⟩ => ⟨H', a, k _ H' b⟩⟩
theorem semW_mono {X : Cx} {e : Expr} {σ : L2.St} {H : Hp} {Q Q' : Bool → Hp → Prop} (h : semW X e σ H Q) (k : ∀ v H', Q v H' → Q' v H') : semW X e σ H Q' :=
  ⟨fun wh pins s I => thn (h.run wh pins s I) fun _ _ ⟨H', a, b⟩ => ⟨H', a, k _ H' b⟩⟩
theorem semA_mono {X : Cx} {e : List Expr} {σ : L2.St} {H : Hp} {Q Q' : List V → Hp → Prop} (h : semA X e σ H Q) (k : ∀ v H', Q v H' → Q' v H') : semA X e σ H Q' :=
  ⟨fun pos pins s I => thn (h.run pos pins s I) fun _ _ ⟨v, H', a, b, c⟩ => ⟨v, H', a, b, k v H' c⟩⟩

/-! ### the judgements -/
abbrev JE := As → OCtx → Prop
def QE (K : PySem.W.Frag) (G : En) (J : JE) (H0 : Hp) : VK := fun v H' => ∃ H0' a Ω', Same H0 H0' ∧ Hs K G Ω' H0' H' ∧ AsOk K H0' a v ∧ J a Ω'
def QT (K : PySem.W.Frag) (G : En) (J : Bool → OCtx → Prop) (H0 : Hp) : Bool → Hp → Prop := fun b H' => ∃ H0' Ω', Same H0 H0' ∧ Hs K G Ω' H0' H' ∧ J b Ω'
def QA (K : PySem.W.Frag) (G : En) (J : List As → OCtx → Prop) (H0 : Hp) : List V → Hp → Prop := fun vs H' => ∃ H0' as Ω', Same H0 H0' ∧ Hs K G Ω' H0' H' ∧ AsL K H0' vs as ∧ J as Ω'
structure Dz where
  nx : Ctx → OCtx → Prop
  rt : As → OCtx → Prop
  bk : Ctx → OCtx → Prop := fun _ _ => False
  ct : Ctx → OCtx → Prop := fun _ _ => False
def Dz.st (K : PySem.W.Frag) (G : En) (Hz : Hp) (J : Ctx → OCtx → Prop) : L2.St → Hp → Prop := fun σ H => ∃ Γ Ω H0, Same Hz H0 ∧ Hs K G Ω H0 H ∧ Sl K Γ H0 σ ∧ J Γ Ω
def Dz.ends (K : PySem.W.Frag) (G : En) (Hz : Hp) (Z : Dz) : Ends where
  nx := Dz.st K G Hz Z.nx
  rt := fun v H => ∃ a Ω H0, Hs K G Ω H0 H ∧ AsOk K H0 a v ∧ Z.rt a Ω
  bk := Dz.st K G Hz Z.bk
  ct := Dz.st K G Hz Z.ct
section
variable {W : Wd} {S : Sco}
def WE (T : TC W S) (Γ : Ctx) (e : Expr) (Ω : OCtx) (J : JE) : Prop := ∀ σ H H0, Hs W.K T.G Ω H0 H → Sl W.K Γ H0 σ → sem T.X e σ H (QE W.K T.G J H0)
def WT (T : TC W S) (Γ : Ctx) (e : Expr) (Ω : OCtx) (J : Bool → OCtx → Prop) : Prop := ∀ σ H H0, Hs W.K T.G Ω H0 H → Sl W.K Γ H0 σ → semT T.X e σ H (QT W.K T.G J H0)
def WW (T : TC W S) (Γ : Ctx) (e : Expr) (Ω : OCtx) (J : Bool → OCtx → Prop) : Prop := ∀ σ H H0, Hs W.K T.G Ω H0 H → Sl W.K Γ H0 σ → semW T.X e σ H (QT W.K T.G J H0)
def WA (T : TC W S) (Γ : Ctx) (es : List Expr) (Ω : OCtx) (J : List As → OCtx → Prop) : Prop := ∀ σ H H0, Hs W.K T.G Ω H0 H → Sl W.K Γ H0 σ → semA T.X es σ H (QA W.K T.G J H0)
def WS (T : TC W S) (Γ : Ctx) (st : Stmt) (Ω : OCtx) (Z : Dz) : Prop := ∀ σ H H0, Hs W.K T.G Ω H0 H → Sl W.K Γ H0 σ → semS T.X st (Z.ends W.K T.G H0) σ H
def WSs (T : TC W S) (Γ : Ctx) (sts : List Stmt) (Ω : OCtx) (Z : Dz) : Prop := ∀ σ H H0, Hs W.K T.G Ω H0 H → Sl W.K Γ H0 σ → semSs T.X sts (Z.ends W.K T.G H0) σ H

variable {T : TC W S} {Γ : Ctx} {Ω : OCtx} {J : JE} {JT : Bool → OCtx → Prop} {JA : List As → OCtx → Prop} {Z : Dz} {a b c e : Expr} {es : List Expr} {pos p : Pos}
theorem WE.imp {J' : JE} (h : WE T Γ e Ω J) (k : ∀ a Ω', J a Ω' → J' a Ω') : WE T Γ e Ω J' := fun σ H H0 hs sl =>
  sem_mono (h σ H H0 hs sl) fun _ _ ⟨H0', a, Ω', z, y, x, j⟩ => ⟨H0', a, Ω', z, y, x, k a Ω' j⟩

/-! ### typed expressions: enc says how a Lean value stands as data -/
def WV {α : Type} (T : TC W S) (Γ : Ctx) (enc : α → D) (e : Expr) (Ω : OCtx) (J : α → OCtx → Prop) : Prop := WE T Γ e Ω fun a Ω' => ∃ x, a = .dat (enc x) ∧ J x Ω'
theorem WV.imp {α : Type} {enc : α → D} {J J' : α → OCtx → Prop} (h : WV T Γ enc e Ω J) (k : ∀ a Ω', J a Ω' → J' a Ω') : WV T Γ enc e Ω J' :=
  WE.imp h fun _ _ ⟨x, e, j⟩ => ⟨x, e, k _ _ j⟩
theorem WV.asE {α : Type} {enc : α → D} (h : WV T Γ enc e Ω fun x Ω' => J (.dat (enc x)) Ω') : WE T Γ e Ω J := WE.imp h fun _ _ ⟨x, e, j⟩ => by rw [e]; exact j
/-- a part with a mirror of its own, its state as before -/
theorem WV.cut {α β : Type} {enc : α → D} {J : α → OCtx → Prop} {m : M α} {k : α → M β} {Φ : β → Prop} {Ψ : Exc → Prop} (hm : Run (M.bind m k) Φ Ψ) (h : ∀ Φ' : α → Prop, Run m Φ' Ψ → WV T Γ enc e Ω fun x Ω' => Ω' = Ω ∧ Φ' x)
    (c : ∀ x, Run (k x) Φ Ψ → J x Ω) : WV T Γ enc e Ω J := WV.imp (h _ (Run.bind hm)) fun x _ ⟨z, q⟩ => by rw [z]; exact c x q
/-- .. its state by s -/
theorem WV.cutS {α σ β : Type} {enc : α → D} {J : α → OCtx → Prop} {ΩS : σ → OCtx} {m : M (α × σ)} {k : α × σ → M β} {Φ : β → Prop} {Ψ : Exc → Prop} (hm : Run (M.bind m k) Φ Ψ)
    (h : ∀ Φ' : α × σ → Prop, Run m Φ' Ψ → WV T Γ enc e Ω fun x Ω' => ∃ s, Ω' = ΩS s ∧ Φ' (x, s)) (c : ∀ x s, Run (k (x, s)) Φ Ψ → J x (ΩS s)) : WV T Γ enc e Ω J :=
  WV.imp (h _ (Run.bind hm)) fun x _ ⟨s, z, q⟩ => by rw [z]; exact c x s q
theorem step {α β : Type} {m : M α} {k : α → M β} {Φ : β → Prop} {Ψ Ψ' : Exc → Prop} {J : α → Prop} (hm : Run (M.bind m k) Φ Ψ) (c : ∀ a, Run (k a) Φ Ψ → J a) (h2 : ∀ e, Ψ e → Ψ' e := by exact fun _ h => h) : Run m J Ψ' :=
  Run.mono (Run.bind hm) c h2

theorem TC.gl (T : TC W S) {i : Nat} {x : Str} (h : S.gl[i]? = some x) : Gl T.X x := by
  show T.X.env.scope.names.lookup x = _
  rw [T.hsc]
  exact (T.ok.glo i x h).1
theorem TC.mg (T : TC W S) : T.X.mg = W.mg := congrArg Wd.mg T.hW
theorem TC.K (T : TC W S) : T.X.K = W.K := congrArg Wd.K T.hW

/-! ### names, constants -/
theorem e_var (i : Nat) {x : Str} {v : As} (hN : S.N[i]? = some x) (hv : S.vl.elem i = true) (hΓ : Γ[i]? = some (some v)) (k : J v Ω) : WE T Γ (.Name x pos) Ω J := fun σ H H0 hs sl => by
  obtain ⟨h1, h2, h3⟩ := T.ok.vis i x hv hN
  obtain ⟨u, q1, q2⟩ := sl.at_ i v hΓ
  exact of_pe (pe_var (i := i) (by rw [T.hN]; exact hN) (by rw [T.hsc]; exact h1) h2 h3) ⟨u, q1, H0, v, Ω, Same.refl _, hs, q2, k⟩
section
variable {α β γ : Type} {enc : α → D}
theorem v_var {J : α → OCtx → Prop} (i : Nat) {x : Str} {v : α} (hΓ : Γ[i]? = some (some (.dat (enc v)))) (k : J v Ω) (hN : S.N[i]? = some x := by rfl) (hv : S.vl.elem i = true := by rfl) : WV T Γ enc (.Name x pos) Ω J :=
  e_var i hN hv hΓ ⟨v, rfl, k⟩
theorem v_int {J : Int → OCtx → Prop} {i : Int} {j : Nat} (k : J i Ω) : WV T Γ D.int (.Constant (.int i) j pos) Ω J := fun σ H H0 hs sl =>
  of_pe pe_int ⟨H0, .dat (.int i), Ω, Same.refl _, hs, Is.int i, i, rfl, k⟩
theorem v_bl {J : Bool → OCtx → Prop} {i : Bool} {j : Nat} (k : J i Ω) : WV T Γ D.bl (.Constant (.bool i) j pos) Ω J := fun σ H H0 hs sl =>
  of_pe pe_bl ⟨H0, .dat (.bl i), Ω, Same.refl _, hs, Is.bl i, i, rfl, k⟩
theorem v_str {J : Str → OCtx → Prop} {i : Str} {j : Nat} (k : J i Ω) : WV T Γ D.str (.Constant (.str i) j pos) Ω J := fun σ H H0 hs sl =>
  of_pe pe_str ⟨H0, .dat (.str i), Ω, Same.refl _, hs, Is.str i, i, rfl, k⟩
def dN : Unit → D := fun _ => .non
theorem v_non {J : Unit → OCtx → Prop} {j : Nat} (k : J () Ω) : WV T Γ dN (.Constant .none j pos) Ω J := fun σ H H0 hs sl =>
  of_pe pe_non ⟨H0, .dat .non, Ω, Same.refl _, hs, Is.non, (), rfl, k⟩
/-- a module's constant -/
theorem v_globI {J : Int → OCtx → Prop} (i : Nat) {x : Str} {n : Int} (hg : S.gl[i]? = some x) (hm : ∃ t, W.mg x = some (.int n t)) (k : J n Ω) : WV T Γ D.int (.Name x pos) Ω J := fun σ H H0 hs sl => by
  obtain ⟨t, hm⟩ := hm
  refine of_pe (pe_glob (v := .int n) (T.gl hg) (by rw [T.mg]; exact hm) ⟨t, rfl⟩ (T.ok.glo i x hg).2.1) ?_
  exact ⟨H0, .dat (.int n), Ω, Same.refl _, hs, Is.int n, n, rfl, k⟩
theorem v_globS {J : Str → OCtx → Prop} (i : Nat) {x : Str} {n : Str} (hg : S.gl[i]? = some x) (hm : ∃ t, W.mg x = some (.str n t)) (k : J n Ω) : WV T Γ D.str (.Name x pos) Ω J := fun σ H H0 hs sl => by
  obtain ⟨t, hm⟩ := hm
  refine of_pe (pe_glob (v := .str n) (T.gl hg) (by rw [T.mg]; exact hm) ⟨t, rfl⟩ (T.ok.glo i x hg).2.1) ?_
  exact ⟨H0, .dat (.str n), Ω, Same.refl _, hs, Is.str n, n, rfl, k⟩

/-! ### operations on flat values -/
theorem QE.same {K : PySem.W.Frag} {G : En} {J : JE} {H0 H1 : Hp} (s : Same H0 H1) {v : V} {H : Hp} (h : QE K G J H1 v H) : QE K G J H0 v H := by
  obtain ⟨H2, a, Ω, z, y, x, w⟩ := h
  exact ⟨H2, a, Ω, s.trans z, y, x, w⟩
theorem QT.same {K : PySem.W.Frag} {G : En} {J : Bool → OCtx → Prop} {H0 H1 : Hp} (s : Same H0 H1) {v : Bool} {H : Hp} (h : QT K G J H1 v H) : QT K G J H0 v H := by
  obtain ⟨H2, Ω, z, y, w⟩ := h
  exact ⟨H2, Ω, s.trans z, y, w⟩
/-- two parts, then something on values -/
theorem two {σ : L2.St} {H H0 : Hp} {Q : VK} {r : R2} {α β : Type} {e1 : α → D} {e2 : β → D} {J : α → β → OCtx → Prop} (hs : Hs W.K T.G Ω H0 H) (sl : Sl W.K Γ H0 σ)
    (h : WV T Γ e1 a Ω fun x Ω1 => WV T Γ e2 b Ω1 fun y Ω2 => J x y Ω2)
    (k : ∀ x y v u H2 H02 Ω2, J x y Ω2 → Same H0 H02 → Hs W.K T.G Ω2 H02 H2 → Is W.K H02 v (e1 x) → Is W.K H02 u (e2 y) → r v u H2 Q) : tOp r (sem T.X a) (sem T.X b) σ H Q := by
  refine sem_mono (h σ H H0 hs sl) fun v H1 ⟨H01, ax, Ω1, s1, hs1, kx, x, ex, h1⟩ => ?_
  subst ex
  refine sem_mono (h1 σ H1 H01 hs1 (sl.mono s1)) fun u H2 ⟨H02, ay, Ω2, s2, hs2, ky, y, ey, h2⟩ => ?_
  subst ey
  exact k x y v u H2 H02 Ω2 h2 (s1.trans s2) hs2 (Is.mono s2 kx) ky
theorem isI {K : PySem.W.Frag} {H : Hp} {v : V} {i : Int} (h : Is K H v (.int i)) : v = .int i := by cases h; rfl
theorem isB {K : PySem.W.Frag} {H : Hp} {v : V} {i : Bool} (h : Is K H v (.bl i)) : v = .bl i := by cases h; rfl
theorem isS {K : PySem.W.Frag} {H : Hp} {v : V} {i : Str} (h : Is K H v (.str i)) : v = .str i := by cases h; rfl
theorem isN {K : PySem.W.Frag} {H : Hp} {v : V} (h : Is K H v .non) : v = .non := by cases h; rfl
theorem QE.mk {K : PySem.W.Frag} {G : En} {α : Type} {enc : α → D} {J : α → OCtx → Prop} {H0 H02 H2 : Hp} {Ω2 : OCtx} {z : α} {v : V} (s : Same H0 H02) (hs : Hs K G Ω2 H02 H2) (r : Is K H02 v (enc z)) (j : J z Ω2) : QE K G (fun a Ω' => ∃ x, a = .dat (enc x) ∧ J x Ω') H0 v H2 :=
  ⟨H02, .dat (enc z), Ω2, s, hs, r, z, rfl, j⟩
theorem v_int2 {op : Operator} {J : Int → OCtx → Prop} {C : Int → Int → Prop} {f : Int → Int → Int} (ho : ∀ X : Cx, OpR X (binaryOp op) (rI C fun i j => .int (f i j)))
    (h : WV T Γ D.int a Ω fun i Ω1 => WV T Γ D.int b Ω1 fun j Ω2 => C i j ∧ J (f i j) Ω2) : WV T Γ D.int (.BinOp a op b pos) Ω J := fun σ H H0 hs sl =>
  of_pe (pe_op (ho T.X) pe_sem pe_sem) (two hs sl h fun i j v u H2 H02 Ω2 ⟨c, q⟩ s hs2 kx ky => by
    cases isI kx
    cases isI ky
    exact ⟨i, j, rfl, rfl, c, .mk s hs2 (.int _) q⟩)
theorem v_int20 {op : Operator} {J : Int → OCtx → Prop} {f : Int → Int → Int} (ho : ∀ X : Cx, OpR X (binaryOp op) (rI0 fun i j => .int (f i j)))
    (h : WV T Γ D.int a Ω fun i Ω1 => WV T Γ D.int b Ω1 fun j Ω2 => J (f i j) Ω2) : WV T Γ D.int (.BinOp a op b pos) Ω J := fun σ H H0 hs sl =>
  of_pe (pe_op (ho T.X) pe_sem pe_sem) (two hs sl h fun i j v u H2 H02 Ω2 q s hs2 kx ky => by
    cases isI kx
    cases isI ky
    exact ⟨i, j, rfl, rfl, .mk s hs2 (.int _) q⟩)
theorem v_add {J : Int → OCtx → Prop} (h : WV T Γ D.int a Ω fun i Ω1 => WV T Γ D.int b Ω1 fun j Ω2 => J (i + j) Ω2) : WV T Γ D.int (.BinOp a .Add b pos) Ω J := v_int20 (fun _ => op_add) h
theorem v_sub {J : Int → OCtx → Prop} (h : WV T Γ D.int a Ω fun i Ω1 => WV T Γ D.int b Ω1 fun j Ω2 => J (i - j) Ω2) : WV T Γ D.int (.BinOp a .Sub b pos) Ω J := v_int20 (fun _ => op_sub) h
instance (i j : Int) : Decidable (CMul i j) := by unfold CMul; exact inferInstance
instance (i j : Int) : Decidable (CMulW i j) := by unfold CMulW; exact inferInstance
instance (i j : Int) : Decidable (CDivW i j) := by unfold CDivW; exact inferInstance
instance (i j : Int) : Decidable (CPow i j) := by unfold CPow; exact inferInstance
/-- i * j, one of them below 2 ^ 64 in size, or both together below a million bits -/
def mulM (i j : Int) : M Int := chk (decide (CMul i j) || decide (CMulW i j)) (.ok (i * j))
theorem op_mulY (X : Cx) : OpR X (binaryOp .Mult) (rI (fun i j => CMul i j ∨ CMulW i j) fun i j => .int (i * j)) := fun pins s σ H x y v u Q I rx ry ⟨i, j, ex, ey, c, q⟩ =>
  c.elim (fun c => op_mul pins s σ H x y v u Q I rx ry ⟨i, j, ex, ey, c, q⟩) (fun c => op_mulW pins s σ H x y v u Q I rx ry ⟨i, j, ex, ey, c, q⟩)
/-- i // j, j positive -/
def divM (i j : Int) : M Int := chk (decide (CDivW i j)) (.ok (i / j))
/-- i % j, j positive -/
def modM (i j : Int) : M Int := chk (decide (0 < j)) (.ok (i % j))
def powM (i j : Int) : M Int := chk (decide (CPow i j)) (.ok (i ^ j.toNat))
theorem chk_ok {α : Type} {b : Bool} {x : α} {Φ : α → Prop} {Ψ : Exc → Prop} (h : Run (chk b (.ok x)) Φ Ψ) : b = true ∧ Φ x := ⟨(Run.chk h).1, (Run.chk h).2.get⟩
theorem v_mul {J : Int → OCtx → Prop} {Ψ : Exc → Prop} (h : WV T Γ D.int a Ω fun i Ω1 => WV T Γ D.int b Ω1 fun j Ω2 => Run (mulM i j) (fun k => J k Ω2) Ψ) : WV T Γ D.int (.BinOp a .Mult b pos) Ω J :=
  v_int2 op_mulY (h.imp fun _ _ q => q.imp fun _ _ q => ⟨(Bool.or_eq_true_iff.mp (chk_ok q).1).imp of_decide_eq_true of_decide_eq_true, (chk_ok q).2⟩)
theorem v_div {J : Int → OCtx → Prop} {Ψ : Exc → Prop} (h : WV T Γ D.int a Ω fun i Ω1 => WV T Γ D.int b Ω1 fun j Ω2 => Run (divM i j) (fun k => J k Ω2) Ψ) : WV T Γ D.int (.BinOp a .FloorDiv b pos) Ω J :=
  v_int2 (fun _ => op_fdivW) (h.imp fun _ _ q => q.imp fun _ _ q => ⟨of_decide_eq_true (chk_ok q).1, (chk_ok q).2⟩)
theorem v_mod {J : Int → OCtx → Prop} {Ψ : Exc → Prop} (h : WV T Γ D.int a Ω fun i Ω1 => WV T Γ D.int b Ω1 fun j Ω2 => Run (modM i j) (fun k => J k Ω2) Ψ) : WV T Γ D.int (.BinOp a .Mod b pos) Ω J :=
  v_int2 (fun _ => op_mod) (h.imp fun _ _ q => q.imp fun _ _ q => ⟨of_decide_eq_true (chk_ok q).1, (chk_ok q).2⟩)
theorem v_pow {J : Int → OCtx → Prop} {Ψ : Exc → Prop} (h : WV T Γ D.int a Ω fun i Ω1 => WV T Γ D.int b Ω1 fun j Ω2 => Run (powM i j) (fun k => J k Ω2) Ψ) : WV T Γ D.int (.BinOp a .Pow b pos) Ω J :=
  v_int2 (fun _ => op_pow) (h.imp fun _ _ q => q.imp fun _ _ q => ⟨of_decide_eq_true (chk_ok q).1, (chk_ok q).2⟩)
theorem v_neg {J : Int → OCtx → Prop} (h : WV T Γ D.int a Ω fun i Ω1 => J (-i) Ω1) : WV T Γ D.int (.UnaryOp .USub a pos) Ω J := fun σ H H0 hs sl => by
  refine of_pe (pe_un un_neg pe_sem) (sem_mono (h σ H H0 hs sl) fun v H1 ⟨H01, ax, Ω1, s1, hs1, kx, i, ex, h1⟩ => ?_)
  subst ex
  cases isI kx
  exact ⟨i, rfl, .mk s1 hs1 (.int _) h1⟩
/-! comparisons -/
def semC (X : Cx) (op : CmpOp) (a b : Expr) : TE := fun σ H Q => Hd (∀ pins s, Inv X pins σ H s →
  wpAny (model X.prog X.w) X.A (eval a X.env) (fun v s₁ => wpAny (model X.prog X.w) X.A (eval b X.env) (fun u s₂ => wpAny (model X.prog X.w) X.A (compareOp op v u) (EP X pins σ Q) X.xe s₂) X.xe s₁) X.xe s)
theorem pc_sem {X : Cx} {op : CmpOp} {a b : Expr} : PC X op a b (semC X op a b) := ⟨fun pins s _ _ _ I h => h.run pins s I⟩
def WC (T : TC W S) (Γ : Ctx) (op : CmpOp) (a b : Expr) (Ω : OCtx) (J : Bool → OCtx → Prop) : Prop := ∀ σ H H0, Hs W.K T.G Ω H0 H → Sl W.K Γ H0 σ → semC T.X op a b σ H (QE W.K T.G (fun a Ω' => ∃ x, a = .dat (.bl x) ∧ J x Ω') H0)
theorem of_op {op : CmpOp} {r : R2} {σ : L2.St} {H : Hp} {Q : VK} (ho : OpR T.X (compareOp op) r) (h : tOp r (sem T.X a) (sem T.X b) σ H Q) : semC T.X op a b σ H Q := .mk fun pins s I =>
  binT (R := fun x y H2 => r x y H2 Q) pe_sem pe_sem I h fun v u s2 x y H2 I2 rx ry q => ho pins s2 σ H2 x y v u Q I2 rx ry q
theorem v_cmp {op : CmpOp} {J : Bool → OCtx → Prop} (h : WC T Γ op a b Ω J) (hm : behindInMarks op b = false := by rfl) : WV T Γ D.bl (.Compare a [op] [b] pos) Ω J := fun σ H H0 hs sl => of_pe (pe_cmp pc_sem hm) (h σ H H0 hs sl)
theorem t_cmp {op : CmpOp} {J : Bool → OCtx → Prop} (h : WC T Γ op a b Ω J) (hm : behindInMarks op b = false := by rfl) : WT T Γ (.Compare a [op] [b] pos) Ω J := fun σ H H0 hs sl => of_pt (pt_cmp pc_sem hm) (.mk fun pins s I =>
  thn ((h σ H H0 hs sl).run pins s I) fun _ _ h1 => thn h1 fun _ _ h2 => thn h2 fun u s' ⟨v, H', I', rv, H0', a, Ω', q1, q2, q3, x, ex, j⟩ => by
    subst ex
    cases isB q3
    exact ⟨.bl x, H', I', rv, x, rfl, H0', Ω', q1, q2, j⟩)
theorem c_int {op : CmpOp} {J : Bool → OCtx → Prop} {f : Int → Int → Bool} (ho : ∀ X : Cx, OpR X (compareOp op) (rI0 fun i j => .bl (f i j)))
    (h : WV T Γ D.int a Ω fun i Ω1 => WV T Γ D.int b Ω1 fun j Ω2 => J (f i j) Ω2) : WC T Γ op a b Ω J := fun σ H H0 hs sl =>
  of_op (ho T.X) (two hs sl h fun i j v u H2 H02 Ω2 q s hs2 kx ky => by
    cases isI kx
    cases isI ky
    exact ⟨i, j, rfl, rfl, .mk s hs2 (.bl _) q⟩)
theorem c_lt {J : Bool → OCtx → Prop} (h : WV T Γ D.int a Ω fun i Ω1 => WV T Γ D.int b Ω1 fun j Ω2 => J (decide (i < j)) Ω2) : WC T Γ .Lt a b Ω J := c_int (fun _ => op_lt) h
theorem c_le {J : Bool → OCtx → Prop} (h : WV T Γ D.int a Ω fun i Ω1 => WV T Γ D.int b Ω1 fun j Ω2 => J (decide (i ≤ j)) Ω2) : WC T Γ .LtE a b Ω J := c_int (fun _ => op_le) h
theorem c_gt {J : Bool → OCtx → Prop} (h : WV T Γ D.int a Ω fun i Ω1 => WV T Γ D.int b Ω1 fun j Ω2 => J (decide (j < i)) Ω2) : WC T Γ .Gt a b Ω J := c_int (fun _ => op_gt) h
theorem c_ge {J : Bool → OCtx → Prop} (h : WV T Γ D.int a Ω fun i Ω1 => WV T Γ D.int b Ω1 fun j Ω2 => J (decide (j ≤ i)) Ω2) : WC T Γ .GtE a b Ω J := c_int (fun _ => op_ge) h
theorem op_eqI (X : Cx) : OpR X (compareOp .Eq) (rI0 fun i j => .bl (decide (i = j))) := fun pins s σ H x y v u Q I rx ry ⟨i, j, ex, ey, q⟩ => by
  subst ex ey
  refine op_eq pins s σ H _ _ v u Q I rx ry ⟨rfl, ?_⟩
  have z : decide (V.int i = V.int j) = decide (i = j) := by simp
  rw [z]
  exact q
theorem op_neI (X : Cx) : OpR X (compareOp .NotEq) (rI0 fun i j => .bl (!decide (i = j))) := fun pins s σ H x y v u Q I rx ry ⟨i, j, ex, ey, q⟩ => by
  subst ex ey
  refine op_ne pins s σ H _ _ v u Q I rx ry ⟨rfl, ?_⟩
  have z : decide (V.int i = V.int j) = decide (i = j) := by simp
  rw [z]
  exact q
theorem c_eqI {J : Bool → OCtx → Prop} (h : WV T Γ D.int a Ω fun i Ω1 => WV T Γ D.int b Ω1 fun j Ω2 => J (decide (i = j)) Ω2) : WC T Γ .Eq a b Ω J := c_int op_eqI h
theorem c_neI {J : Bool → OCtx → Prop} (h : WV T Γ D.int a Ω fun i Ω1 => WV T Γ D.int b Ω1 fun j Ω2 => J (!decide (i = j)) Ω2) : WC T Γ .NotEq a b Ω J := c_int op_neI h
end

/-! ### tests -/
theorem t_val (h : WV T Γ D.bl e Ω JT) (he : ∀ whole, isTrue e T.X.env whole = (do let v ← whole; standAt e.pos; holding [v] (truthy v)) := by intro _; rfl) : WT T Γ e Ω JT := fun σ H H0 hs sl =>
  of_pt (pt_val pe_sem he) (sem_mono (h σ H H0 hs sl) fun v H1 ⟨H01, ax, Ω1, s1, hs1, kx, x, ex, h1⟩ => by
    subst ex
    cases isB kx
    exact ⟨x, rfl, H01, Ω1, s1, hs1, h1⟩)
theorem t_not (h : WT T Γ e Ω fun x Ω' => JT (!x) Ω') : WT T Γ (.UnaryOp .Not e pos) Ω JT := fun σ H H0 hs sl =>
  of_pt (pt_not pt_sem) (semT_mono (h σ H H0 hs sl) fun v H1 q => q)

/-! ### statements -/
theorem semS_mono {X : Cx} {st : Stmt} {D D' : Ends} {σ : L2.St} {H : Hp} (h : semS X st D σ H) (h1 : ∀ σ H, D.nx σ H → D'.nx σ H) (h2 : ∀ v H, D.rt v H → D'.rt v H) (h3 : ∀ σ H, D.bk σ H → D'.bk σ H) (h4 : ∀ σ H, D.ct σ H → D'.ct σ H) : semS X st D' σ H :=
  .mk fun pins s I => thn (h.run pins s I) fun f s' z => by
    cases f with
    | next => obtain ⟨a, b, c, d⟩ := z; exact ⟨a, b, c, h1 _ _ d⟩
    | ret u => obtain ⟨a, b, c, d, e, f⟩ := z; exact ⟨a, b, c, d, e, h2 _ _ f⟩
    | brk => obtain ⟨a, b, c, d⟩ := z; exact ⟨a, b, c, h3 _ _ d⟩
    | cont => obtain ⟨a, b, c, d⟩ := z; exact ⟨a, b, c, h4 _ _ d⟩
theorem semSs_mono {X : Cx} {sts : List Stmt} {D D' : Ends} {σ : L2.St} {H : Hp} (h : semSs X sts D σ H) (h1 : ∀ σ H, D.nx σ H → D'.nx σ H) (h2 : ∀ v H, D.rt v H → D'.rt v H) (h3 : ∀ σ H, D.bk σ H → D'.bk σ H) (h4 : ∀ σ H, D.ct σ H → D'.ct σ H) : semSs X sts D' σ H :=
  .mk fun pins s I => thn (h.run pins s I) fun f s' z => by
    cases f with
    | next => obtain ⟨a, b, c, d⟩ := z; exact ⟨a, b, c, h1 _ _ d⟩
    | ret u => obtain ⟨a, b, c, d, e, f⟩ := z; exact ⟨a, b, c, d, e, h2 _ _ f⟩
    | brk => obtain ⟨a, b, c, d⟩ := z; exact ⟨a, b, c, h3 _ _ d⟩
    | cont => obtain ⟨a, b, c, d⟩ := z; exact ⟨a, b, c, h4 _ _ d⟩
theorem Dz.st_imp {K : PySem.W.Frag} {G : En} {H0 H1 : Hp} {P Q : Ctx → OCtx → Prop} (s : Same H0 H1) (k : ∀ Γ Ω, P Γ Ω → Q Γ Ω) : ∀ σ H, Dz.st K G H1 P σ H → Dz.st K G H0 Q σ H := fun _ _ ⟨a, b, c, d, e, f, g⟩ => ⟨a, b, c, s.trans d, e, f, k _ _ g⟩
theorem semSs_up {K : PySem.W.Frag} {G : En} {X : Cx} {sts : List Stmt} {H0 H1 : Hp} {σ : L2.St} {H : Hp} (s : Same H0 H1) (h : semSs X sts (Z.ends K G H1) σ H) : semSs X sts (Z.ends K G H0) σ H :=
  semSs_mono h (Dz.st_imp s fun _ _ z => z) (fun _ _ z => z) (Dz.st_imp s fun _ _ z => z) (Dz.st_imp s fun _ _ z => z)
theorem s_nil (h : Z.nx Γ Ω) : WSs T Γ [] Ω Z := fun σ H H0 hs sl => of_pss pss_nil ⟨Γ, Ω, H0, Same.refl _, hs, sl, h⟩
theorem s_cons {st : Stmt} {rest : List Stmt} (h : WS T Γ st Ω { Z with nx := fun Γ' Ω' => WSs T Γ' rest Ω' Z }) : WSs T Γ (st :: rest) Ω Z := fun σ H H0 hs sl => by
  refine of_pss (pss_cons ps_sem pss_sem) ?_
  exact semS_mono (h σ H H0 hs sl) (fun σ' H' ⟨Γ', Ω', H0', s', hs', sl', w⟩ => semSs_up s' (w σ' H' H0' hs' sl')) (fun _ _ z => z) (fun _ _ z => z) (fun _ _ z => z)
theorem s_one {st : Stmt} (h : WS T Γ st Ω Z) : WSs T Γ [st] Ω Z := fun σ H H0 hs sl => of_pss (pss_one ps_sem) (h σ H H0 hs sl)
theorem s_ret (h : WE T Γ e Ω Z.rt) : WS T Γ (.Return (some e) pos) Ω Z := fun σ H H0 hs sl =>
  of_ps (ps_ret pe_sem) (sem_mono (h σ H H0 hs sl) fun v H1 ⟨H01, ax, Ω1, s1, hs1, kx, h1⟩ => ⟨ax, Ω1, H01, hs1, kx, h1⟩)
theorem s_retN (h : Z.rt (.dat .non) Ω) : WS T Γ (.Return none pos) Ω Z := fun σ H H0 hs sl =>
  of_ps ps_retN ⟨.dat .non, Ω, H0, hs, Is.non, h⟩
theorem s_ite {A B : List Stmt} (h : WT T Γ c Ω fun x Ω' => (x = true → WSs T Γ A Ω' Z) ∧ (x = false → WSs T Γ B Ω' Z)) : WS T Γ (.If c A B pos) Ω Z := fun σ H H0 hs sl => by
  refine of_ps (ps_if pt_sem pss_sem pss_sem) (semT_mono (h σ H H0 hs sl) fun x H1 ⟨H01, Ω1, s1, hs1, h1, h2⟩ => ?_)
  cases x with
  | true => exact semSs_up s1 (h1 rfl σ H1 H01 hs1 (sl.mono s1))
  | false => exact semSs_up s1 (h2 rfl σ H1 H01 hs1 (sl.mono s1))
theorem s_set (i : Nat) {x : Str} {pos' : Pos} (h : WE T Γ e Ω fun a Ω' => Z.nx (Γ.set i (some a)) Ω') (hN : S.N[i]? = some x := by rfl) (hv : S.sl.elem i = true := by rfl)
    (hs : swapsWith e (some (.Name x pos')) pos.line T.X.env = pure false := by rfl) : WS T Γ (.Assign [.Name x pos'] e pos) Ω Z := fun σ H H0 hs' sl => by
  have hn : T.X.N[i]? = some x := by rw [T.hN]; exact hN
  refine of_ps (ps_set (i := i) (by rw [T.hN]; exact T.ok.nd) hn (by rw [T.hsc]; exact T.ok.loc i x hv hN) pe_sem hs (T.hf i x hv hN)) (sem_mono (h σ H H0 hs' sl) fun v H1 ⟨H01, ax, Ω1, s1, hs1, kx, h1⟩ => ?_)
  exact ⟨_, Ω1, H01, s1, hs1, (sl.mono s1).set kx, h1⟩
theorem s_setV {α : Type} {enc : α → D} (i : Nat) {x : Str} {pos' : Pos} (h : WV T Γ enc e Ω fun a Ω' => Z.nx (Γ.set i (some (.dat (enc a)))) Ω') (hN : S.N[i]? = some x := by rfl) (hv : S.sl.elem i = true := by rfl)
    (hs : swapsWith e (some (.Name x pos')) pos.line T.X.env = pure false := by rfl) : WS T Γ (.Assign [.Name x pos'] e pos) Ω Z := s_set i h.asE hN hv hs
theorem s_expr (h : WE T Γ e Ω fun _ Ω' => Z.nx Γ Ω') (hs : swapsWith e none pos.line T.X.env = pure false := by rfl) : WS T Γ (.Expr e pos) Ω Z := fun σ H H0 hs' sl =>
  of_ps (ps_expr pe_sem hs) (sem_mono (h σ H H0 hs' sl) fun v H1 ⟨H01, ax, Ω1, s1, hs1, kx, h1⟩ => ⟨Γ, Ω1, H01, s1, hs1, sl.mono s1, h1⟩)
end
end Y
namespace Y
open PySem PySem.Spec PyProof.Rows L2

/-! ### promises by mirrors -/
structure Spc (α β : Type) where
  pre : α → List As → OCtx → Prop
  mir : α → M β
  post : α → β → OCtx → As → OCtx → Prop
  xo : OCtx → OCtx := fun Ω => Ω
abbrev enOf (H H0 : Hp) (Ω : OCtx) : En := ⟨H, H0, Ω.map (·.1)⟩
def spOf {α β : Type} (K : PySem.W.Frag) (s : Spc α β) : Sp := fun vs H Q E => ∃ (x : α) (as : List As) (Ω : OCtx) (H0 : Hp), s.pre x as Ω ∧ AsL K H0 vs as ∧ Hs K (enOf H H0 Ω) Ω H0 H ∧
  Run (s.mir x) (fun r => ∀ v H' H0' a Ω', s.post x r Ω a Ω' → Hs K (enOf H H0 Ω) Ω' H0' H' → AsOk K H0' a v → Q v H')
    (fun e => ∀ cls d H' H0', ExcOk K H0' e cls d → Hs K (enOf H H0 Ω) (s.xo Ω) H0' H' → E cls d H')
structure FnY (W : Wd) (k : Nat) (f : Addr) (sp : Sp) : Prop where
  ex : ∃ fd ps ds dvs sp0, FnOk W.P W.w W.K W.mg W.base (L2.CX W.P W.w) k f fd ps sp0 ∧ Binds W.K fd ps ds ∧ Vals dvs ds ∧ ∀ vs H Q E, sp vs H Q E → sp0 (vs ++ dvs) H Q E
  kp : PySem.W.keepIn W.K (.ref f) = true
theorem FnY.mono {W : Wd} {j k : Nat} {f : Addr} {sp : Sp} (F : FnY W j f sp) (h : j ≤ k) : FnY W k f sp := by
  obtain ⟨⟨fd, ps, ds, dvs, sp0, a, b, c, d⟩, kp⟩ := F
  exact ⟨⟨fd, ps, ds, dvs, sp0, a.mono h, b, c, d⟩, kp⟩

section
variable {K : PySem.W.Frag} {G : En} {Ω Ω' : OCtx} {H0 H : Hp}
theorem Hs.sublist (h : Hs K G Ω H0 H) (l : List.Sublist Ω' Ω) : Hs K G Ω' H0 H :=
  ⟨h.sub, h.base, h.new, h.keep, h.ownT, fun p o m => h.own p o (l.mem m), (List.Sublist.map _ l).nodup h.nd⟩
end
section
variable {K : PySem.W.Frag} {G : En} {Ω1 Ωp Ω' ΩN : OCtx} {H01 H1 H0' H' : Hp}
/-- behind a call that was handed the owned objects Ωp -/
theorem Hs.back (h1 : Hs K G Ω1 H01 H1) (hp : ∀ e ∈ Ωp, e ∈ Ω1) (h2 : Hs K (enOf H1 H01 Ωp) Ω' H0' H') (hN : ∀ p o, (p, o) ∈ ΩN → (p, o) ∈ Ω' ∨ ((p, o) ∈ Ω1 ∧ p ∉ Ωp.map (·.1))) (nd : (ΩN.map (·.1)).Nodup) :
    Hs K G ΩN H0' H' where
  sub := h2.sub
  base := h1.base.trans h2.base
  new := fun b o e => by
    rcases h2.new b o e with q | q
    · exact h1.new b o q
    · exact .inr (h1.free q)
  keep := fun b o e m => by
    refine h2.keep b o (h1.keep b o e m) fun z => ?_
    obtain ⟨⟨q, u⟩, m1, e1⟩ := List.mem_map.mp z
    cases e1
    rcases (h1.own q u (hp _ m1)).2.2 with w | w
    · exact m w
    · rw [w] at e
      cases e
  ownT := fun b m => by
    by_cases z : b ∈ Ωp.map (·.1)
    · exact h2.ownT b z
    · have n := h1.ownT b m
      cases e : H1 b with
      | none => exact absurd e n
      | some o =>
        rw [h2.keep b o e z]
        intro w
        cases w
  own := fun p o m => by
    rcases hN p o m with q | ⟨q, z⟩
    · obtain ⟨a, b, c⟩ := h2.own p o q
      refine ⟨a, b, ?_⟩
      rcases c with c | c
      · obtain ⟨⟨q2, u⟩, m1, e1⟩ := List.mem_map.mp c
        cases e1
        exact (h1.own q2 u (hp _ m1)).2.2
      · exact .inr (h1.free c)
    · obtain ⟨⟨ho, e, k⟩, b, c⟩ := h1.own p o q
      refine ⟨⟨ho, h2.keep p ho e z, k.mono h2.base⟩, ?_, c⟩
      cases w : H0' p with
      | none => rfl
      | some o' =>
        rcases h2.new p o' w with y | y
        · have y' : H01 p = some o' := y
          rw [b] at y'
          cases y'
        · have y' : H1 p = none := y
          rw [e] at y'
          cases y'
  nd := nd
theorem Hs.entry (h1 : Hs K G Ω1 H01 H1) (hp : ∀ e ∈ Ωp, e ∈ Ω1) (nd : (Ωp.map (·.1)).Nodup) : Hs K (enOf H1 H01 Ωp) Ωp H01 H1 where
  sub := h1.sub
  base := Same.refl _
  new := fun _ _ e => .inl e
  keep := fun _ _ e _ => e
  ownT := fun b m => by
    obtain ⟨⟨q, u⟩, m1, e1⟩ := List.mem_map.mp m
    cases e1
    obtain ⟨⟨ho, e, _⟩, _⟩ := h1.own q u (hp _ m1)
    rw [e]
    intro z
    cases z
  own := fun p o m => by
    obtain ⟨a, b, _⟩ := h1.own p o (hp _ m)
    exact ⟨a, b, .inl (List.mem_map.mpr ⟨_, m, rfl⟩)⟩
  nd := nd
/-- fresh addresses of a callee stand apart -/
theorem Hs.apart (h1 : Hs K G Ω1 H01 H1) (h2 : Hs K (enOf H1 H01 Ωp) Ω' H0' H') {p : Addr} {o : OD} (m : (p, o) ∈ Ω') (n : p ∉ Ωp.map (·.1)) : p ∉ Ω1.map (·.1) := fun z => by
  obtain ⟨⟨q, u⟩, m1, e1⟩ := List.mem_map.mp z
  cases e1
  rcases (h2.own q o m).2.2 with w | w
  · exact n w
  · obtain ⟨⟨ho, e, _⟩, _⟩ := h1.own q u m1
    have w' : H1 q = none := w
    rw [e] at w'
    cases w'
/-- what a callee leaves (Ω2: new ones, then those that were handed) put into what the caller had (Ω1) -/
structure Back (Ω1 Ωp Ω2 Ωn ΩN : OCtx) : Prop where
  ex : ∃ Ωr Ω1', Ω2 = Ωn ++ Ωr ∧ ΩN = Ωn ++ Ω1' ∧ Ωr.map (·.1) = Ωp.map (·.1) ∧ Ω1'.map (·.1) = Ω1.map (·.1) ∧ ((Ω1.map (·.1)).Nodup → ∀ p o, (p, o) ∈ Ω1' → (p, o) ∈ Ωr ∨ ((p, o) ∈ Ω1 ∧ p ∉ Ωp.map (·.1)))
theorem Back.nil {Ω1 Ωn : OCtx} : Back Ω1 [] Ωn Ωn (Ωn ++ Ω1) := ⟨[], Ω1, (List.append_nil _).symm, rfl, rfl, rfl, fun _ p o m => .inr ⟨m, fun z => nomatch z⟩⟩
theorem set_mem {Ω : OCtx} {i : Nat} {p : Addr} {od od' : OD} (e : Ω[i]? = some (p, od)) (nd : (Ω.map (·.1)).Nodup) {q : Addr} {o : OD} (m : (q, o) ∈ Ω.set i (p, od')) : (q = p ∧ o = od') ∨ ((q, o) ∈ Ω ∧ q ≠ p) := by
  obtain ⟨j, hj⟩ := List.mem_iff_getElem?.mp m
  rw [List.getElem?_set] at hj
  by_cases w : i = j
  · subst w
    have l : i < Ω.length := (List.getElem?_eq_some_iff.mp e).1
    simp [l] at hj
    exact .inl ⟨hj.1.symm, hj.2.symm⟩
  · simp [w] at hj
    refine .inr ⟨List.mem_of_getElem? hj, fun z => ?_⟩
    subst z
    have a : (Ω.map (·.1))[i]? = some q := by rw [List.getElem?_map, e]; rfl
    have b : (Ω.map (·.1))[j]? = some q := by rw [List.getElem?_map, hj]; rfl
    obtain ⟨l1, q1⟩ := List.getElem?_eq_some_iff.mp a
    obtain ⟨l2, q2⟩ := List.getElem?_eq_some_iff.mp b
    exact w ((List.getElem_inj nd).mp (q1.trans q2.symm))
theorem Back.one {Ω1 Ωn : OCtx} {j : Nat} {p : Addr} {od od' : OD} (e : Ω1[j]? = some (p, od)) : Back Ω1 [(p, od)] (Ωn ++ [(p, od')]) Ωn (Ωn ++ Ω1.set j (p, od')) :=
  ⟨[(p, od')], Ω1.set j (p, od'), rfl, rfl, rfl, set_map_fst e, fun nd q o m => by
    rcases set_mem e nd m with ⟨rfl, rfl⟩ | ⟨m, n⟩
    · exact .inl (List.mem_singleton.mpr rfl)
    · exact .inr ⟨m, fun z => n (by simpa using z)⟩⟩
theorem Back.two {Ω1 Ωn : OCtx} {i j : Nat} {p q : Addr} {od od' ud ud' : OD} (e : Ω1[i]? = some (p, od)) (e2 : Ω1[j]? = some (q, ud)) (ij : i ≠ j) : Back Ω1 [(p, od), (q, ud)] (Ωn ++ [(p, od'), (q, ud')]) Ωn (Ωn ++ (Ω1.set i (p, od')).set j (q, ud')) := by
  have e3 : (Ω1.set i (p, od'))[j]? = some (q, ud) := by rw [List.getElem?_set_ne ij]; exact e2
  refine ⟨[(p, od'), (q, ud')], (Ω1.set i (p, od')).set j (q, ud'), rfl, rfl, rfl, (set_map_fst e3).trans (set_map_fst e), fun nd r o m => ?_⟩
  rcases set_mem e3 (by rw [set_map_fst e]; exact nd) m with ⟨rfl, rfl⟩ | ⟨m, n⟩
  · exact .inl (by simp)
  · rcases set_mem e nd m with ⟨rfl, rfl⟩ | ⟨m, n2⟩
    · exact .inl (by simp)
    · exact .inr ⟨m, fun z => by
        have : r = p ∨ r = q := by simpa using z
        rcases this with z | z
        · exact n2 z
        · exact n z⟩
theorem Hs.backN {Ω2 Ωn : OCtx} (h1 : Hs K G Ω1 H01 H1) (hp : ∀ e ∈ Ωp, e ∈ Ω1) (h2 : Hs K (enOf H1 H01 Ωp) Ω2 H0' H') (b : Back Ω1 Ωp Ω2 Ωn ΩN) : Hs K G ΩN H0' H' ∧ ∀ q ∈ Ωn.map (·.1), G.He q = none := by
  obtain ⟨Ωr, Ω1', rfl, rfl, e1, e2, hm⟩ := b.ex
  have nd2 := h2.nd
  rw [List.map_append] at nd2
  have nn : ∀ q ∈ Ωn.map (·.1), q ∉ Ωp.map (·.1) := fun q m z => by
    rw [← e1] at z
    exact (List.nodup_append.mp nd2).2.2 q m q z rfl
  refine ⟨h1.back hp h2 (fun p o m => ?_) ?_, fun q m => ?_⟩
  · rcases List.mem_append.mp m with q | q
    · exact .inl (List.mem_append_left _ q)
    · rcases hm h1.nd p o q with q | q
      · exact .inl (List.mem_append_right _ q)
      · exact .inr q
  · rw [List.map_append, e2]
    refine List.nodup_append.mpr ⟨(List.nodup_append.mp nd2).1, h1.nd, fun a ha b hb e => ?_⟩
    subst e
    obtain ⟨⟨q, u⟩, m1, e1'⟩ := List.mem_map.mp ha
    cases e1'
    exact h1.apart h2 (List.mem_append_left _ m1) (nn _ ha) hb
  · obtain ⟨⟨q', u⟩, m1, e1'⟩ := List.mem_map.mp m
    cases e1'
    rcases (h2.own q' u (List.mem_append_left _ m1)).2.2 with w | w
    · exact absurd w (nn _ m)
    · exact h1.free w
end

/-! ### the body -/
def startC (N : List Str) (as : List As) : Ctx := as.map some ++ List.replicate (N.length - as.length) none
def TopT {W : Wd} {S : Sco} (T : TC W S) : Prop := T.X.stack = T.X.env :: T.X.outer ∧ T.X.env.frame = some T.X.env.locals
def BodyOk {α β : Type} (W : Wd) (S : Sco) (sts : List Stmt) (s : Spc α β) : Prop := ∀ (T : TC W S), TopT T → ∀ x as Ω Φ Ψ, s.pre x as Ω → Run (s.mir x) Φ Ψ → (∀ e Γ Ω', Ψ e → List.Sublist (s.xo Ω) Ω' → T.xj e Γ Ω') →
  WSs T (startC S.N as) sts Ω { nx := fun _ Ω' => ∃ r Ω'', List.Sublist Ω'' Ω' ∧ s.post x r Ω (.dat .non) Ω'' ∧ Φ r, rt := fun a Ω' => ∃ r Ω'', List.Sublist Ω'' Ω' ∧ s.post x r Ω a Ω'' ∧ Φ r }
theorem AsL.length {K : PySem.W.Frag} {H0 : Hp} {vs : List V} {as : List As} (h : AsL K H0 vs as) : vs.length = as.length := Paired.length h
theorem AsL.get {K : PySem.W.Frag} {H0 : Hp} : ∀ {vs : List V} {as : List As} {i : Nat} {a : As}, AsL K H0 vs as → as[i]? = some a → ∃ v, vs[i]? = some v ∧ AsOk K H0 a v
  | _, _, _, _, .nil, e => by simp at e
  | _, _, 0, _, .cons h _, e => by
    simp at e
    subst e
    exact ⟨_, rfl, h⟩
  | _, _, i + 1, x, .cons _ l, e => by
    obtain ⟨u, h1, h2⟩ := AsL.get (i := i) (a := x) l (by simpa using e)
    exact ⟨u, by simpa using h1, h2⟩
theorem sl_start {K : PySem.W.Frag} {H0 : Hp} {N : List Str} {vs : List V} {as : List As} (h : AsL K H0 vs as) : Sl K (startC N as) H0 (L2.start N vs) where
  len := by simp [startC, L2.start, h.length]
  at_ := fun i a e => by
    unfold startC at e
    by_cases l : i < as.length
    · rw [List.getElem?_append_left (by simpa using l), List.getElem?_map] at e
      cases q : as[i]? with
      | none => rw [q] at e; simp at e
      | some b =>
        rw [q] at e
        simp at e
        subst e
        obtain ⟨v, h1, h2⟩ := h.get q
        refine ⟨v, ?_, h2⟩
        unfold L2.start
        rw [List.getElem?_append_left (by simpa [h.length] using l), List.getElem?_map, h1]
        rfl
    · rw [List.getElem?_append_right (by simpa using l), List.getElem?_replicate] at e
      split at e <;> simp at e
theorem FnY.of {α β : Type} {W : Wd} {k : Nat} {x qual : Str} {params : Arguments} {body : List Stmt} {scope : Scope} {f : Addr} {fd : FuncData} {N ps : List Str} {s : Spc α β} {vl sl : List Nat} {gl : List Str}
    (F : FunD W.K x qual params body scope [] [] f fd) (S : FnScope N ps scope) (ok : ScOk ⟨N, scope, vl, sl, gl, k, true⟩)
    (hlen : ∀ x as Ω, s.pre x as Ω → as.length = ps.length)
    (hb : ∀ (kV doc pm : Value) (an : Option Addr) (cdv ct : Value) (us : List Value), us.length = ps.length → bindArgs (PySem.W.fnOf x qual params body scope .none kV doc pm an cdv ct) ⟨us, []⟩ = pure (ps.zip us))
    (B : BodyOk W ⟨N, scope, vl, sl, gl, k, true⟩ body s) : FnY W (k + 1) f (spOf W.K s) := by
  refine ⟨⟨fd, ps, [], [], spOf W.K s, ?_, F.bindsN hb, .nil, fun vs H Q E h => by rw [List.append_nil]; exact h⟩, F.kp⟩
  refine F.ok S (fun vs H Q E h => ?_) (fun cdv A outer s0 H vs Q E hr h => ?_)
  · obtain ⟨x, as, Ω, H0, hp, ha, _⟩ := h
    exact ha.length.trans (hlen x as Ω hp)
  · obtain ⟨x, as, Ω, H0, hp, ha, hs, hm⟩ := h
    refine ⟨_, pss_sem, ?_⟩
    let X := cxOf (L2.CX W.P W.w) W.P W.w W.K W.mg W.base N qual scope f cdv A outer s0 H E
    let G := enOf H H0 Ω
    let Ψ : Exc → Prop := fun e => ∀ cls d H' H0', ExcOk W.K H0' e cls d → Hs W.K G (s.xo Ω) H0' H' → E cls d H'
    let xj : XJ := fun e _ Ω' => List.Sublist (s.xo Ω) Ω' ∧ Ψ e
    let T : TC W ⟨N, scope, vl, sl, gl, k, true⟩ := {
      X := X, G := G, xj := xj
      tk := (takes_of (X := X) rfl rfl rfl rfl).imp fun c d σ H' ⟨e, Γ, Ω', H0', a1, a2, _, a4, a5⟩ => by
        exact a5 c d H' H0' a1 (a2.sublist a4)
      hW := rfl, hN := rfl, hsc := rfl, ok := ok, hf := fun _ _ _ _ => .inl rfl, hc := rfl, room := fun _ => hr, pso := passes_of rfl }
    have q := B T ⟨rfl, rfl⟩ x as Ω _ _ hp hm (fun e Γ Ω' z l => ⟨l, z⟩) (L2.start N vs) H H0 hs (sl_start ha)
    refine .mk fun pins s1 I => ?_
    refine thn ((q).run pins s1 I) fun fl s2 z => ?_
    cases fl with
    | next =>
      obtain ⟨σ', H', I', Γ', Ω', H0', _, hs', sl', r, Ω'', p0, p1, p2⟩ := z
      exact ⟨σ', H', I', p2 .non H' H0' _ Ω'' p1 (hs'.sublist p0) Is.non⟩
    | ret u =>
      obtain ⟨v, σ', H', I', rv, a, Ω', H0', hs', ka, r, Ω'', p0, p1, p2⟩ := z
      exact ⟨v, σ', H', I', rv, p2 v H' H0' a Ω'' p1 (hs'.sublist p0) ka⟩
    | brk =>
      obtain ⟨σ', H', I', Γ', Ω', H0', _, hs', sl', r⟩ := z
      exact r.elim
    | cont =>
      obtain ⟨σ', H', I', Γ', Ω', H0', _, hs', sl', r⟩ := z
      exact r.elim

section
variable {W : Wd} {S : Sco} {T : TC W S} {Γ : Ctx} {Ω : OCtx} {J : JE} {JA : List As → OCtx → Prop} {e : Expr} {es : List Expr} {pos p : Pos}
/-! ### argument lists -/
theorem a_nil (k : JA [] Ω) : WA T Γ [] Ω JA := fun σ H H0 hs sl => of_pa pa_nil ⟨H0, [], Ω, Same.refl _, hs, .nil, k⟩
theorem a_cons (h : WE T Γ e Ω fun a Ω1 => WA T Γ es Ω1 fun as Ω2 => JA (a :: as) Ω2)
    (hn : starEach (e :: es) T.X.env = (false, eval e T.X.env) :: starEach es T.X.env := by exact star_c rfl) : WA T Γ (e :: es) Ω JA := fun σ H H0 hs sl => by
  refine of_pa (pa_cons pe_sem pa_sem hn) (sem_mono (h σ H H0 hs sl) fun v H1 ⟨H01, a, Ω1, s1, hs1, ka, h1⟩ => ?_)
  refine semA_mono (h1 σ H1 H01 hs1 (sl.mono s1)) fun vs H2 ⟨H02, as, Ω2, s2, hs2, kas, h2⟩ => ?_
  exact ⟨H02, a :: as, Ω2, s1.trans s2, hs2, .cons (ka.mono s2) kas, h2⟩
theorem a_v {α : Type} {enc : α → D} (h : WV T Γ enc e Ω fun a Ω1 => WA T Γ es Ω1 fun as Ω2 => JA (.dat (enc a) :: as) Ω2)
    (hn : starEach (e :: es) T.X.env = (false, eval e T.X.env) :: starEach es T.X.env := by exact star_c rfl) : WA T Γ (e :: es) Ω JA := a_cons h.asE hn

/-! ### calls -/
/-- what a call comes to, by the promise -/
theorem call_go {α β : Type} {s : Spc α β} {σ : L2.St} {Ω1 Ωp Ωx : OCtx} {H01 H1 : Hp} {vs : List V} {as : List As} {Q : VK} {x0 : α} (hs1 : Hs W.K T.G Ω1 H01 H1) (sl : Sl W.K Γ H01 σ) (ka : AsL W.K H01 vs as)
    (hp : s.pre x0 as Ωp) (hin : ∀ e ∈ Ωp, e ∈ Ω1) (nd : (Ωp.map (·.1)).Nodup) (hx : ∀ p o, (p, o) ∈ Ωx → (p, o) ∈ s.xo Ωp ∨ ((p, o) ∈ Ω1 ∧ p ∉ Ωp.map (·.1))) (ndx : (Ωx.map (·.1)).Nodup)
    (hm : Run (s.mir x0) (fun r => ∀ a Ω' v H' H0', s.post x0 r Ωp a Ω' → Hs W.K (enOf H1 H01 Ωp) Ω' H0' H' → AsOk W.K H0' a v → Q v H') (fun e => T.xj e Γ Ωx)) :
    spOf W.K s vs H1 Q (L2.WE (WOf W.K T.G T.xj) σ) := by
  refine ⟨x0, as, Ωp, H01, hp, ka, hs1.entry hin nd, hm.mono (fun r q v H' H0' a Ω' z1 z2 z3 => q a Ω' v H' H0' z1 z2 z3) fun e q cls d H' H0' z1 z2 => ?_⟩
  exact ⟨e, Γ, Ωx, H0', z1, hs1.back hin z2 hx ndx, sl.mono z2.base, q⟩
theorem keep_all {K : PySem.W.Frag} {G : En} {Ω1 Ωp : OCtx} {H01 H1 : Hp} (hs1 : Hs K G Ω1 H01 H1) (hin : ∀ e ∈ Ωp, e ∈ Ω1) : ∀ p o, (p, o) ∈ Ω1 → (p, o) ∈ Ωp ∨ ((p, o) ∈ Ω1 ∧ p ∉ Ωp.map (·.1)) := fun p o m => by
  by_cases w : p ∈ Ωp.map (·.1)
  · obtain ⟨⟨q1, u⟩, m1, e1⟩ := List.mem_map.mp w
    cases e1
    obtain ⟨i, hi⟩ := List.mem_iff_getElem?.mp (hin _ m1)
    obtain ⟨j, hj⟩ := List.mem_iff_getElem?.mp m
    have ij := hs1.uniq hi hj
    subst ij
    rw [hi] at hj
    cases hj
    exact .inl m1
  · exact .inr ⟨m, w⟩
/-- what a caller has to show at the call, the arguments known -/
def CallK {α β : Type} (T : TC W S) (Γ : Ctx) (s : Spc α β) (as : List As) (Ω1 : OCtx) (J : JE) : Prop := ∃ x0 Ωp, s.pre x0 as Ωp ∧ (∀ e ∈ Ωp, e ∈ Ω1) ∧ (Ωp.map (·.1)).Nodup ∧ s.xo Ωp = Ωp ∧
  Run (s.mir x0) (fun r => ∀ a Ω2, s.post x0 r Ωp a Ω2 → ∃ Ωn ΩN, Back Ω1 Ωp Ω2 Ωn ΩN ∧ ((∀ q ∈ Ωn.map (·.1), T.G.He q = none) → J a ΩN)) (fun e => T.xj e Γ Ω1)
theorem CallK.go {α β : Type} {s : Spc α β} {σ : L2.St} {Ω1 : OCtx} {H01 H1 H0 : Hp} {vs : List V} {as : List As} (h : CallK T Γ s as Ω1 J) (s1 : Same H0 H01) (hs1 : Hs W.K T.G Ω1 H01 H1) (sl : Sl W.K Γ H01 σ) (ka : AsL W.K H01 vs as) :
    spOf W.K s vs H1 (QE W.K T.G J H0) (L2.WE (WOf W.K T.G T.xj) σ) := by
  obtain ⟨x0, Ωp, hp, hin, nd, hxo, hm⟩ := h
  refine call_go hs1 sl ka hp hin nd (by rw [hxo]; exact keep_all hs1 hin) hs1.nd (hm.mono (fun r q a Ω2 v H' H0' z1 z2 z3 => ?_) fun _ z => z)
  obtain ⟨Ωn, ΩN, b, j⟩ := q a Ω2 z1
  obtain ⟨h1, h2⟩ := hs1.backN hin z2 b
  exact ⟨H0', a, ΩN, s1.trans z2.base, h1, z3, j h2⟩
theorem CallK.none {α β : Type} {s : Spc α β} {as : List As} {Ω1 : OCtx} (x0 : α) (hp : s.pre x0 as []) (hm : Run (s.mir x0) (fun r => ∀ a Ωn, s.post x0 r [] a Ωn → (∀ q ∈ Ωn.map (·.1), T.G.He q = Option.none) → J a (Ωn ++ Ω1)) (fun e => T.xj e Γ Ω1)) (hxo : s.xo [] = [] := by rfl) : CallK T Γ s as Ω1 J :=
  ⟨x0, ([] : OCtx), hp, (fun e m => absurd m List.not_mem_nil), List.nodup_nil, hxo, hm.mono (fun r q a Ωn z => ⟨Ωn, Ωn ++ Ω1, Back.nil, q a Ωn z⟩) fun _ z => z⟩
theorem CallK.one {α β : Type} {s : Spc α β} {as : List As} {Ω1 : OCtx} (x0 : α) (j : Nat) {p : Addr} {od : OD} (ej : Ω1[j]? = some (p, od)) (hp : s.pre x0 as [(p, od)])
    (hm : Run (s.mir x0) (fun r => ∀ a Ω2, s.post x0 r [(p, od)] a Ω2 → ∃ Ωn od', Ω2 = Ωn ++ [(p, od')] ∧ ((∀ q ∈ Ωn.map (·.1), T.G.He q = Option.none) → J a (Ωn ++ Ω1.set j (p, od')))) (fun e => T.xj e Γ Ω1)) (hxo : s.xo [(p, od)] = [(p, od)] := by rfl) : CallK T Γ s as Ω1 J :=
  ⟨x0, [(p, od)], hp, fun _ m => by cases List.mem_singleton.mp m; exact List.mem_of_getElem? ej, by simp, hxo, hm.mono (fun r q a Ω2 z => by
    obtain ⟨Ωn, od', e1, j1⟩ := q a Ω2 z
    subst e1
    exact ⟨Ωn, _, Back.one ej, j1⟩) fun _ z => z⟩
/-- f(..) -/
theorem e_call {α β : Type} {s : Spc α β} {k i : Nat} {f : Addr} {x : Str} (F : FnY W k f (spOf W.K s)) (hm : W.mg x = some (.ref f)) (hg : S.gl[i]? = some x)
    (h : WA T Γ (e :: es) Ω fun as Ω1 => CallK T Γ s as Ω1 J)
    (hk : k ≤ S.lv := by decide) (hc : S.calm = true := by rfl)
    (he : starEach (e :: es) T.X.env = (false, eval e T.X.env) :: starEach es T.X.env := by exact star_c rfl) (hpl : (backTo pos (starEach es T.X.env)).any (·.1) = false := by exact plain_of rfl) : WE T Γ (.Call (.Name x p) (e :: es) [] pos) Ω J := fun σ H H0 hs sl => by
  obtain ⟨⟨fd, ps, ds, dvs, sp0, f1, f2, f3, f4⟩, kp⟩ := F
  have hW := T.hW
  have g := T.gl hg
  have tk := T.tk
  have hr : Room k T.X.A := (T.room hc).mono hk
  have core : ∀ (W' : Wd) (eW : (⟨T.X.prog, T.X.w, T.X.K, T.X.mg, T.X.base⟩ : Wd) = W') , FnOk W'.P W'.w W'.K W'.mg W'.base (L2.CX W'.P W'.w) k f fd ps sp0 → Binds W'.K fd ps ds → W'.mg x = some (.ref f) → PySem.W.keepIn W'.K (.ref f) = true →
      PE T.X (.Call (.Name x p) (e :: es) [] pos) (tCallSD sp0 dvs (L2.WE (WOf W.K T.G T.xj)) (semA T.X (e :: es))) := fun W' eW a b c d => by
    subst eW
    exact pe_callSD a hr g c d b f3 (fun σ => passAt tk σ) pa_sem (T.ok.glo i x hg).2.1 he hpl
  refine of_pe (core W hW f1 f2 hm kp) (semA_mono (h σ H H0 hs sl) fun vs H1 ⟨H01, as, Ω1, s1, hs1, ka, ck⟩ => ?_)
  exact f4 _ _ _ _ (ck.go s1 hs1 (sl.mono s1) ka)
/-! methods -/
def tMethSD (C : Addr) (m : Str) (sp : Sp) (dvs : List V) (E : L2.St → XK) (ta : TE) (t : TA) : TE := fun σ H Q => ta σ H fun x H1 => ∃ a dx fs, x = .ref a ∧ H1 a = some (.ins C dx fs) ∧ fs.lookup m = none ∧
  t σ H1 fun vs H2 => sp (x :: (vs ++ dvs)) H2 Q (E σ)
theorem pe_methSD {X : Cx} {CX : CXT} {k : Nat} {f C : Addr} {fd : FuncData} {ps : List Str} {sp : Sp} {dvs : List V} {ds : List Value} {E : L2.St → XK} {o : Expr} {m : Str} {apos : Pos} {ta : TE} {t : TA} {pl : Sem Bool} (he : PE X o ta) (c : Cls X.K C) (hm : Meth X.K C m f) (F : FnOk X.prog X.w X.K X.mg X.base CX k f fd ps sp) (hr : Room k X.A) (hb : Binds X.K fd ps ds) (hd : Vals dvs ds) (hx : ∀ σ, PassesAt CX X σ (E σ)) (ha : PA X (e :: es) t)
    (hst : starEach (e :: es) X.env = (false, eval e X.env) :: starEach es X.env := by rfl) (hpl : (backTo pos (starEach es X.env)).any (·.1) = false := by rfl)
    (ht : eval (.Call (.Attribute o m apos) (e :: es) [] pos) X.env = (do
      let ov ← eval o X.env
      standAt apos.atName
      let (f, first) ← holding [ov] (getMethod ov m pl)
      callWith pos f first (backTo pos (starEach (e :: es) X.env)) (backToKw pos (keywordEach [] X.env))) := by rfl) :
    PE X (.Call (.Attribute o m apos) (e :: es) [] pos) (tMethSD C m sp dvs E ta t) := by
  refine ⟨fun pins s σ H Q I h => ?_⟩
  refine PySem.W.methodCall_KW (pl := pl) (thn (he.run pins s σ H _ I h) fun u s1 ⟨x, H1, I1, rx, a, dx, fs, ex, ea, l, q⟩ => ?_) ht
  subst ex
  obtain rfl : u = Value.ref a := rx
  refine getmeth_ok I1 ea c hm l ?_
  refine PySem.W.callWith_K (first := [.ref a]) (h₀ := X.base) I.ok.mod.kin hm.kp (thn (ha.run pos pins s1 σ H1 _ I1 q) fun us s2 ⟨vs, H2, I2, r, q2⟩ => ⟨I2.kIn, ?_⟩) hst hpl
  exact run_fnSD (us := .ref a :: us) (vs := .ref a :: vs) F hr hb hd (hx σ) I2 (.cons rfl r) q2
theorem pe_methSD0 {X : Cx} {CX : CXT} {k : Nat} {f C : Addr} {fd : FuncData} {ps : List Str} {sp : Sp} {dvs : List V} {ds : List Value} {E : L2.St → XK} {o : Expr} {m : Str} {apos : Pos} {ta : TE} {pl : Sem Bool} (he : PE X o ta) (c : Cls X.K C) (hm : Meth X.K C m f) (F : FnOk X.prog X.w X.K X.mg X.base CX k f fd ps sp) (hr : Room k X.A) (hb : Binds X.K fd ps ds) (hd : Vals dvs ds) (hx : ∀ σ, PassesAt CX X σ (E σ))
    (ht : eval (.Call (.Attribute o m apos) [] [] pos) X.env = (do
      let ov ← eval o X.env
      standAt apos.atName
      let (f, first) ← holding [ov] (getMethod ov m pl)
      callWith pos f first (backTo pos (starEach [] X.env)) (backToKw pos (keywordEach [] X.env))) := by rfl) :
    PE X (.Call (.Attribute o m apos) [] [] pos) (tMethSD C m sp dvs E ta tNil) := by
  refine ⟨fun pins s σ H Q I h => ?_⟩
  refine PySem.W.methodCall_KW (pl := pl) (thn (he.run pins s σ H _ I h) fun u s1 ⟨x, H1, I1, rx, a, dx, fs, ex, ea, l, q⟩ => ?_) ht
  subst ex
  obtain rfl : u = Value.ref a := rx
  refine getmeth_ok I1 ea c hm l ?_
  exact PySem.W.callWith_K0 (first := [.ref a]) I1.kIn hm.kp (run_fnSD (us := [.ref a]) (vs := [.ref a]) F hr hb hd (hx σ) I1 (.cons rfl .nil) q)
/-- an instance of c, none of whose fields is called m -/
def InsAs (c : String) (m : Str) (Ω : OCtx) (a : As) : Prop := (∃ ds : List (String × D), a = .dat (.obj c ds) ∧ (ds.map (·.1)).all (fun f => !(Str.ofString f == m)) = true) ∨ ∃ (p : Addr) (i : Nat) (fs : List (String × As)), a = .own p ∧ Ω[i]? = some (p, .ins c fs) ∧ (fs.map (·.1)).all (fun f => !(Str.ofString f == m)) = true
theorem lookF {K : PySem.W.Frag} {H : Hp} {m : Str} : ∀ {fs : List (Str × V)} {ds : List (String × D)}, IsF K H fs ds → (ds.map (·.1)).all (fun f => !(Str.ofString f == m)) = true → fs.lookup m = none
  | _, _, .nil, _ => rfl
  | _, _, .cons (f := f) h l, q => by
    rw [List.map_cons, List.all_cons, Bool.and_eq_true] at q
    rw [List.lookup_cons]
    have e : (m == Str.ofString f) = false := by
      have := q.1
      rw [Bool.not_eq_true'] at this
      rw [beq_eq_false_iff_ne] at this ⊢
      exact fun z => this z.symm
    rw [e]
    exact lookF l q.2
theorem lookAF {K : PySem.W.Frag} {H : Hp} {m : Str} : ∀ {fs : List (Str × V)} {ds : List (String × As)}, AsF K H fs ds → (ds.map (·.1)).all (fun f => !(Str.ofString f == m)) = true → fs.lookup m = none
  | _, _, .nil, _ => rfl
  | (f, v) :: fs, (g, a) :: ds, .cons h l, q => by
    rw [List.map_cons, List.all_cons, Bool.and_eq_true] at q
    rw [List.lookup_cons]
    have e : (m == f) = false := by
      have := q.1
      rw [Bool.not_eq_true'] at this
      rw [beq_eq_false_iff_ne] at this ⊢
      have hf : f = Str.ofString g := h.1
      exact fun z => this (by rw [z, hf])
    rw [e]
    exact lookAF l q.2
theorem InsAs.get {K : PySem.W.Frag} {G : En} {Ω : OCtx} {H0 H : Hp} {c : String} {m : Str} {a : As} {v : V} (h : InsAs c m Ω a) (hs : Hs K G Ω H0 H) (k : AsOk K H0 a v) : ∃ p dx fs, v = .ref p ∧ H p = some (.ins (He.ga K (Str.ofString c)) dx fs) ∧ fs.lookup m = none := by
  rcases h with ⟨ds, rfl, q⟩ | ⟨p, i, fs, rfl, e, q⟩
  · cases k with
    | obj h l => exact ⟨_, _, _, rfl, hs.sub _ _ h, lookF l q⟩
  · obtain ⟨ho, h1, h2⟩ := hs.at_ e
    obtain ⟨dx, vs, rfl, l⟩ := h2
    exact ⟨p, dx, vs, k, h1, lookAF l q⟩
theorem e_meth {α β : Type} {s : Spc α β} {k : Nat} {f : Addr} {m : Str} {c : String} {o : Expr} {apos : Pos} (pl : Sem Bool) (F : FnY W k f (spOf W.K s)) (hC : Cls W.K (He.ga W.K (Str.ofString c))) (hM : Meth W.K (He.ga W.K (Str.ofString c)) m f)
    (h : WE T Γ o Ω fun a0 Ω0 => InsAs c m Ω0 a0 ∧ WA T Γ (e :: es) Ω0 fun as Ω1 => CallK T Γ s (a0 :: as) Ω1 J)
    (hk : k ≤ S.lv := by decide) (hc : S.calm = true := by rfl)
    (hst : starEach (e :: es) T.X.env = (false, eval e T.X.env) :: starEach es T.X.env := by exact star_c rfl) (hpl : (backTo pos (starEach es T.X.env)).any (·.1) = false := by exact plain_of rfl)
    (ht : eval (.Call (.Attribute o m apos) (e :: es) [] pos) T.X.env = (do
      let ov ← eval o T.X.env
      standAt apos.atName
      let (f, first) ← holding [ov] (getMethod ov m pl)
      callWith pos f first (backTo pos (starEach (e :: es) T.X.env)) (backToKw pos (keywordEach [] T.X.env))) := by rfl) : WE T Γ (.Call (.Attribute o m apos) (e :: es) [] pos) Ω J := fun σ H H0 hs sl => by
  obtain ⟨⟨fd, ps, ds, dvs, sp0, f1, f2, f3, f4⟩, kp⟩ := F
  have hW := T.hW
  have tk := T.tk
  have hr : Room k T.X.A := (T.room hc).mono hk
  have core : ∀ (W' : Wd) (eW : (⟨T.X.prog, T.X.w, T.X.K, T.X.mg, T.X.base⟩ : Wd) = W') , FnOk W'.P W'.w W'.K W'.mg W'.base (L2.CX W'.P W'.w) k f fd ps sp0 → Binds W'.K fd ps ds → Cls W'.K (He.ga W.K (Str.ofString c)) → Meth W'.K (He.ga W.K (Str.ofString c)) m f →
      PE T.X (.Call (.Attribute o m apos) (e :: es) [] pos) (tMethSD (He.ga W.K (Str.ofString c)) m sp0 dvs (L2.WE (WOf W.K T.G T.xj)) (sem T.X o) (semA T.X (e :: es))) := fun W' eW a b hc' hm' => by
    subst eW
    exact pe_methSD (pl := pl) pe_sem hc' hm' a hr b f3 (fun σ => passAt tk σ) pa_sem hst hpl ht
  refine of_pe (core W hW f1 f2 hC hM) (sem_mono (h σ H H0 hs sl) fun v H1 ⟨H01, a0, Ω0, s1, hs1, k0, ia, h1⟩ => ?_)
  obtain ⟨p, dx, fs, rfl, e1, e2⟩ := ia.get hs1 k0
  refine ⟨p, dx, fs, rfl, e1, e2, semA_mono (h1 σ H1 H01 hs1 (sl.mono s1)) fun vs H2 ⟨H02, as, Ω1, s2, hs2, ka, ck⟩ => ?_⟩
  have q := ck.go (s1.trans s2) hs2 ((sl.mono s1).mono s2) (.cons (k0.mono s2) ka)
  rw [← List.cons_append]
  exact f4 _ _ _ _ q
theorem e_meth0 {α β : Type} {s : Spc α β} {k : Nat} {f : Addr} {m : Str} {c : String} {o : Expr} {apos : Pos} (pl : Sem Bool) (F : FnY W k f (spOf W.K s)) (hC : Cls W.K (He.ga W.K (Str.ofString c))) (hM : Meth W.K (He.ga W.K (Str.ofString c)) m f)
    (h : WE T Γ o Ω fun a0 Ω0 => InsAs c m Ω0 a0 ∧ CallK T Γ s [a0] Ω0 J)
    (hk : k ≤ S.lv := by decide) (hc : S.calm = true := by rfl)
    (ht : eval (.Call (.Attribute o m apos) [] [] pos) T.X.env = (do
      let ov ← eval o T.X.env
      standAt apos.atName
      let (f, first) ← holding [ov] (getMethod ov m pl)
      callWith pos f first (backTo pos (starEach [] T.X.env)) (backToKw pos (keywordEach [] T.X.env))) := by rfl) : WE T Γ (.Call (.Attribute o m apos) [] [] pos) Ω J := fun σ H H0 hs sl => by
  obtain ⟨⟨fd, ps, ds, dvs, sp0, f1, f2, f3, f4⟩, kp⟩ := F
  have hW := T.hW
  have tk := T.tk
  have hr : Room k T.X.A := (T.room hc).mono hk
  have core : ∀ (W' : Wd) (eW : (⟨T.X.prog, T.X.w, T.X.K, T.X.mg, T.X.base⟩ : Wd) = W') , FnOk W'.P W'.w W'.K W'.mg W'.base (L2.CX W'.P W'.w) k f fd ps sp0 → Binds W'.K fd ps ds → Cls W'.K (He.ga W.K (Str.ofString c)) → Meth W'.K (He.ga W.K (Str.ofString c)) m f →
      PE T.X (.Call (.Attribute o m apos) [] [] pos) (tMethSD (He.ga W.K (Str.ofString c)) m sp0 dvs (L2.WE (WOf W.K T.G T.xj)) (sem T.X o) tNil) := fun W' eW a b hc' hm' => by
    subst eW
    exact pe_methSD0 (pl := pl) pe_sem hc' hm' a hr b f3 (fun σ => passAt tk σ) ht
  refine of_pe (core W hW f1 f2 hC hM) (sem_mono (h σ H H0 hs sl) fun v H1 ⟨H01, a0, Ω0, s1, hs1, k0, ia, ck⟩ => ?_)
  obtain ⟨p, dx, fs, rfl, e1, e2⟩ := ia.get hs1 k0
  refine ⟨p, dx, fs, rfl, e1, e2, ?_⟩
  have q := ck.go s1 hs1 (sl.mono s1) (.cons k0 .nil)
  exact f4 [V.ref p] _ _ _ q
end
end Y
namespace Y
open PySem PySem.Spec PyProof.Rows L2

/-! ### typed data -/
def dL {α : Type} (e : α → D) : List α → D := fun xs => .lst (xs.map e)
def dU {α : Type} (e : α → D) : List α → D := fun xs => .tup (xs.map e)
def dS : List Int → D := fun xs => .sqs (xs.map D.int)
def oL {α : Type} (e : α → D) : List α → OD := fun xs => .lst (xs.map fun x => .dat (e x))
def dO {α : Type} (e : α → D) : Option α → D
  | none => .non
  | some x => e x
def dT2 {α β : Type} (e : α → D) (f : β → D) : α × β → D := fun p => .tup [e p.1, f p.2]
def dT3 {α β γ : Type} (e : α → D) (f : β → D) (g : γ → D) : α × β × γ → D := fun p => .tup [e p.1, f p.2.1, g p.2.2]
def dT4 {α β γ δ : Type} (e : α → D) (f : β → D) (g : γ → D) (h : δ → D) : α × β × γ × δ → D := fun p => .tup [e p.1, f p.2.1, g p.2.2.1, h p.2.2.2]
def dT5 {α β γ δ ε : Type} (e : α → D) (f : β → D) (g : γ → D) (h : δ → D) (k : ε → D) : α × β × γ × δ × ε → D := fun p => .tup [e p.1, f p.2.1, g p.2.2.1, h p.2.2.2.1, k p.2.2.2.2]
/-- a list-like thing: a list that stands, or an owned one -/
def SqLst {α : Type} (e : α → D) (xs : List α) (Ω : OCtx) (a : As) : Prop := (a = .dat (.lst (xs.map e)) ∨ a = .dat (.sqs (xs.map e))) ∨ ∃ (p : Addr) (i : Nat), a = .own p ∧ Ω[i]? = some (p, oL e xs)
def SqAny {α : Type} (e : α → D) (xs : List α) (Ω : OCtx) (a : As) : Prop := SqLst e xs Ω a ∨ a = .dat (.tup (xs.map e))
theorem asL_oL {K : PySem.W.Frag} {H0 : Hp} {α : Type} {e : α → D} {xs : List α} {ho : HO} (h : ODOk K H0 (oL e xs) ho) : ∃ vs, ho = .lst vs ∧ vs.length ≤ sizeLine ∧ IsL K H0 vs (xs.map e) := by
  obtain ⟨vs, e1, z, l⟩ := h
  refine ⟨vs, e1, z, AsL.dat ?_⟩
  rw [List.map_map]
  exact l
theorem oL_ok {K : PySem.W.Frag} {H0 : Hp} {α : Type} {e : α → D} {xs : List α} {vs : List V} (z : vs.length ≤ sizeLine) (l : IsL K H0 vs (xs.map e)) : ODOk K H0 (oL e xs) (.lst vs) := by
  refine ⟨vs, rfl, z, ?_⟩
  have q := AsL.of l
  rw [List.map_map] at q
  exact q
section
variable {K : PySem.W.Frag} {G : En} {Ω : OCtx} {H0 H : Hp} {α : Type} {e : α → D} {xs : List α} {a : As} {v : V}
theorem SqLst.get (h : SqLst e xs Ω a) (hs : Hs K G Ω H0 H) (k : AsOk K H0 a v) : ∃ p vs, v = .ref p ∧ vs.length ≤ sizeLine ∧ SqL K H p vs ∧ IsL K H0 vs (xs.map e) := by
  rcases h with (rfl | rfl) | ⟨p, i, rfl, q⟩
  · cases k with
    | lst z h l => exact ⟨_, _, rfl, z, SqL.of (hs.sub _ _ h), l⟩
  · cases k with
    | sqs z h l => exact ⟨_, _, rfl, z, Same.seq hs.sub h, l⟩
  · obtain ⟨ho, h1, h2⟩ := hs.at_ q
    obtain ⟨vs, rfl, z, l⟩ := asL_oL h2
    exact ⟨p, vs, k, z, SqL.of h1, l⟩
theorem SqAny.get (h : SqAny e xs Ω a) (hs : Hs K G Ω H0 H) (k : AsOk K H0 a v) : ∃ p vs, v = .ref p ∧ vs.length ≤ sizeLine ∧ (SqL K H p vs ∨ SqT K H p vs) ∧ IsL K H0 vs (xs.map e) := by
  rcases h with h | rfl
  · obtain ⟨p, vs, a, z, b, c⟩ := SqLst.get h hs k
    exact ⟨p, vs, a, z, .inl b, c⟩
  · cases k with
    | tup z h l => exact ⟨_, _, rfl, z, .inr (SameT hs.sub h), l⟩
end

section
variable {W : Wd} {S : Sco} {T : TC W S} {Γ : Ctx} {Ω : OCtx} {J : JE} {e a b c : Expr} {es : List Expr} {pos p p2 : Pos} {α β γ : Type} {enc : α → D} {enb : β → D}
/-- evaluates to a sequence -/
def WQ (T : TC W S) (Γ : Ctx) (enc : α → D) (e : Expr) (Ω : OCtx) (J : List α → OCtx → Prop) : Prop := WE T Γ e Ω fun a Ω' => ∃ xs, SqAny enc xs Ω' a ∧ J xs Ω'
def WL (T : TC W S) (Γ : Ctx) (enc : α → D) (e : Expr) (Ω : OCtx) (J : List α → OCtx → Prop) : Prop := WE T Γ e Ω fun a Ω' => ∃ xs, SqLst enc xs Ω' a ∧ J xs Ω'
def WU (T : TC W S) (Γ : Ctx) (enc : α → D) (e : Expr) (Ω : OCtx) (J : List α → OCtx → Prop) : Prop := WV T Γ (dU enc) e Ω J
theorem q_l {J : List α → OCtx → Prop} (h : WL T Γ enc e Ω J) : WQ T Γ enc e Ω J := WE.imp h fun _ _ ⟨xs, e, j⟩ => ⟨xs, .inl e, j⟩
theorem q_u {J : List α → OCtx → Prop} (h : WV T Γ (dU enc) e Ω J) : WQ T Γ enc e Ω J := WE.imp h fun _ _ ⟨xs, e, j⟩ => ⟨xs, .inr e, j⟩
theorem l_v {J : List α → OCtx → Prop} (h : WV T Γ (dL enc) e Ω J) : WL T Γ enc e Ω J := WE.imp h fun _ _ ⟨xs, e, j⟩ => ⟨xs, .inl (.inl e), j⟩
theorem l_s {J : List Int → OCtx → Prop} (h : WV T Γ dS e Ω J) : WL T Γ D.int e Ω J := WE.imp h fun _ _ ⟨xs, e, j⟩ => ⟨xs, .inl (.inr e), j⟩
theorem q_v {J : List α → OCtx → Prop} (h : WV T Γ (dL enc) e Ω J) : WQ T Γ enc e Ω J := q_l (l_v h)
theorem q_s {J : List Int → OCtx → Prop} (h : WV T Γ dS e Ω J) : WQ T Γ D.int e Ω J := q_l (l_s h)
/-- a name that holds an owned list -/
theorem l_own {J : List α → OCtx → Prop} (i j : Nat) {x : Str} {q : Addr} {xs : List α} (hΓ : Γ[i]? = some (some (.own q))) (hΩ : Ω[j]? = some (q, oL enc xs)) (k : J xs Ω) (hN : S.N[i]? = some x := by rfl) (hv : S.vl.elem i = true := by rfl) :
    WL T Γ enc (.Name x pos) Ω J := e_var i hN hv hΓ ⟨xs, .inr ⟨q, j, rfl, hΩ⟩, k⟩
theorem q_own {J : List α → OCtx → Prop} (i j : Nat) {x : Str} {q : Addr} {xs : List α} (hΓ : Γ[i]? = some (some (.own q))) (hΩ : Ω[j]? = some (q, oL enc xs)) (k : J xs Ω) (hN : S.N[i]? = some x := by rfl) (hv : S.vl.elem i = true := by rfl) :
    WQ T Γ enc (.Name x pos) Ω J := q_l (l_own i j hΓ hΩ k hN hv)

/-! ### a built-in of one argument -/
theorem TC.free (T : TC W S) {x : Str} (h : W.mg x = none) : T.X.mg x = none := by rw [T.mg]; exact h
theorem one_b {id : String} {x : Str} {r : List V → Hp → VK → Prop} {i : Nat} {JJ : As → OCtx → Prop} (hc : CallR T.X (.builtin id) r) (hg : S.gl[i]? = some x) (hm : W.mg x = none) (hv : bootBuiltins x = some (.builtin id))
    (h : WE T Γ e Ω JJ) (k : ∀ σ a Ω1 v H1 H01 H0, Same H0 H01 → Hs W.K T.G Ω1 H01 H1 → Sl W.K Γ H01 σ → AsOk W.K H01 a v → JJ a Ω1 → r [v] H1 (QE W.K T.G J H0))
    (he : starEach (e :: []) T.X.env = (false, eval e T.X.env) :: starEach [] T.X.env := by rfl) (hpl : (backTo pos (starEach [] T.X.env)).any (·.1) = false := by rfl) : WE T Γ (.Call (.Name x p) [e] [] pos) Ω J := fun σ H H0 hs sl => by
  refine of_pe (pe_callB hc (T.gl hg) (T.free hm) hv (pa_cons pe_sem pa_nil he) (T.ok.glo i x hg).2.2 (T.ok.glo i x hg).2.1 he hpl) ?_
  refine sem_mono (h σ H H0 hs sl) fun v H1 ⟨H01, a, Ω1, s1, hs1, ka, j⟩ => ?_
  exact k σ a Ω1 v H1 H01 H0 s1 hs1 (sl.mono s1) ka j
theorem one_t {id : String} {x : Str} {r : List V → Hp → VK → Prop} {i : Nat} {JJ : As → OCtx → Prop} (hc : CallR T.X (.type id) r) (hg : S.gl[i]? = some x) (hm : W.mg x = none) (hv : bootBuiltins x = some (.type id))
    (h : WE T Γ e Ω JJ) (k : ∀ σ a Ω1 v H1 H01 H0, Same H0 H01 → Hs W.K T.G Ω1 H01 H1 → Sl W.K Γ H01 σ → AsOk W.K H01 a v → JJ a Ω1 → r [v] H1 (QE W.K T.G J H0))
    (he : starEach (e :: []) T.X.env = (false, eval e T.X.env) :: starEach [] T.X.env := by rfl) (hpl : (backTo pos (starEach [] T.X.env)).any (·.1) = false := by rfl) : WE T Γ (.Call (.Name x p) [e] [] pos) Ω J := fun σ H H0 hs sl => by
  refine of_pe (pe_callTy hc (T.gl hg) (T.free hm) hv (pa_cons pe_sem pa_nil he) (T.ok.glo i x hg).2.2 (T.ok.glo i x hg).2.1 he hpl) ?_
  refine sem_mono (h σ H H0 hs sl) fun v H1 ⟨H01, a, Ω1, s1, hs1, ka, j⟩ => ?_
  exact k σ a Ω1 v H1 H01 H0 s1 hs1 (sl.mono s1) ka j
theorem boot_abs' : bootBuiltins "abs" = some (.builtin "abs") := by decide +kernel
theorem v_len {J : Int → OCtx → Prop} (i : Nat) (hm : W.mg "len" = none) (h : WQ T Γ enc e Ω fun xs Ω1 => J (xs.length : Nat) Ω1) (hg : S.gl[i]? = some ("len" : Str) := by rfl)
    (he : starEach (e :: []) T.X.env = (false, eval e T.X.env) :: starEach [] T.X.env := by rfl) : WV T Γ D.int (.Call (.Name "len" p) [e] [] pos) Ω J :=
  one_b call_len_seq hg hm PySem.boot_len h (fun σ a Ω1 v H1 H01 H0 s1 hs1 sl ka ⟨xs, sq, j⟩ => by
    obtain ⟨q, vs, rfl, lz, c, l⟩ := SqAny.get sq hs1 ka
    have hl : vs.length = xs.length := by rw [l.length, List.length_map]
    refine ⟨q, vs, rfl, ?_, .mk s1 hs1 (.int _) (by rw [hl]; exact j)⟩
    rw [T.K]
    exact c) he
theorem v_lenS {J : Int → OCtx → Prop} (i : Nat) (hm : W.mg "len" = none) {Ψ : Exc → Prop} (h : WV T Γ D.str e Ω fun x Ω1 => Run (chk (decide (x.length ≤ sizeLine)) (.ok (x.length : Int))) (fun n => J n Ω1) Ψ) (hg : S.gl[i]? = some ("len" : Str) := by rfl)
    (he : starEach (e :: []) T.X.env = (false, eval e T.X.env) :: starEach [] T.X.env := by rfl) : WV T Γ D.int (.Call (.Name "len" p) [e] [] pos) Ω J :=
  one_b call_len_str hg hm PySem.boot_len h (fun σ a Ω1 v H1 H01 H0 s1 hs1 sl ka ⟨x, ex, j⟩ => by
    subst ex
    cases isS ka
    obtain ⟨h1, h2⟩ := chk_ok j
    exact ⟨x, rfl, of_decide_eq_true h1, .mk s1 hs1 (.int _) h2⟩) he
theorem v_abs {J : Int → OCtx → Prop} (i : Nat) (hm : W.mg "abs" = none) (h : WV T Γ D.int e Ω fun x Ω1 => J (if x < 0 then -x else x) Ω1) (hg : S.gl[i]? = some ("abs" : Str) := by rfl)
    (he : starEach (e :: []) T.X.env = (false, eval e T.X.env) :: starEach [] T.X.env := by rfl) : WV T Γ D.int (.Call (.Name "abs" p) [e] [] pos) Ω J :=
  one_b call_abs hg hm boot_abs' h (fun σ a Ω1 v H1 H01 H0 s1 hs1 sl ka ⟨x, ex, j⟩ => by
    subst ex
    cases isI ka
    exact ⟨x, rfl, .mk s1 hs1 (.int _) j⟩) he
theorem boot_int' : bootBuiltins "int" = some (.type "int") := by decide +kernel
theorem v_intI {J : Int → OCtx → Prop} (i : Nat) (hm : W.mg "int" = none) (h : WV T Γ D.int e Ω fun x Ω1 => J x Ω1) (hg : S.gl[i]? = some ("int" : Str) := by rfl)
    (he : starEach (e :: []) T.X.env = (false, eval e T.X.env) :: starEach [] T.X.env := by rfl) : WV T Γ D.int (.Call (.Name "int" p) [e] [] pos) Ω J :=
  one_t call_int1 hg hm boot_int' h (fun σ a Ω1 v H1 H01 H0 s1 hs1 sl ka ⟨x, ex, j⟩ => by
    subst ex
    cases isI ka
    exact .inl ⟨x, rfl, .mk s1 hs1 (.int _) j⟩) he
theorem v_intB {J : Int → OCtx → Prop} (i : Nat) (hm : W.mg "int" = none) (h : WV T Γ D.bl e Ω fun x Ω1 => J (if x then 1 else 0) Ω1) (hg : S.gl[i]? = some ("int" : Str) := by rfl)
    (he : starEach (e :: []) T.X.env = (false, eval e T.X.env) :: starEach [] T.X.env := by rfl) : WV T Γ D.int (.Call (.Name "int" p) [e] [] pos) Ω J :=
  one_t call_int1 hg hm boot_int' h (fun σ a Ω1 v H1 H01 H0 s1 hs1 sl ka ⟨x, ex, j⟩ => by
    subst ex
    cases isB ka
    exact .inr ⟨x, rfl, .mk s1 hs1 (.int _) j⟩) he

/-! ### displays -/
theorem AsL.dats {K : PySem.W.Frag} {H0 : Hp} {vs : List V} {ds : List D} {as : List As} (h : AsL K H0 vs as) (e : as = ds.map As.dat) : IsL K H0 vs ds := by subst e; exact AsL.dat h
theorem QE.new {K : PySem.W.Frag} {G : En} {Ω : OCtx} {H0 H01 H1 : Hp} {J : JE} {q : Addr} {o : HO} {d : D} (s : Same H0 H01) (hs : Hs K G Ω H01 H1) (n : H1 q = none) (r : Is K (upd H01 q o) (.ref q) d) (j : J (.dat d) Ω) : QE K G J H0 (.ref q) (upd H1 q o) :=
  ⟨upd H01 q o, .dat d, Ω, s.trans (same_upd (hs.free0 n)), hs.alloc n, r, j⟩
theorem QE.newO {K : PySem.W.Frag} {G : En} {Ω : OCtx} {H0 H01 H1 : Hp} {J : JE} {q : Addr} {o : HO} {od : OD} (s : Same H0 H01) (hs : Hs K G Ω H01 H1) (n : H1 q = none) (r : ODOk K H01 od o) (j : J (.own q) ((q, od) :: Ω)) : QE K G J H0 (.ref q) (upd H1 q o) :=
  ⟨H01, .own q, (q, od) :: Ω, s, hs.allocOwn n r, rfl, j⟩
theorem is_lst {K : PySem.W.Frag} {H : Hp} {q : Addr} {vs : List V} {ds : List D} (n : H q = none) (z : vs.length ≤ sizeLine) (l : IsL K H vs ds) : Is K (upd H q (.lst vs)) (.ref q) (.lst ds) := .lst z upd_same (l.mono (same_upd n))
theorem is_tup {K : PySem.W.Frag} {H : Hp} {q : Addr} {vs : List V} {ds : List D} (n : H q = none) (z : vs.length ≤ sizeLine) (l : IsL K H vs ds) : Is K (upd H q (.tup vs)) (.ref q) (.tup ds) := .tup z (SqT.of upd_same) (l.mono (same_upd n))
/-- [a, b, ..] that stands -/
theorem v_lst {J : β → OCtx → Prop} (h : WA T Γ es Ω fun as Ω1 => ∃ (y : β) (ds : List D), as = ds.map As.dat ∧ enb y = .lst ds ∧ ds.length ≤ sizeLine ∧ J y Ω1) : WV T Γ enb (.List es pos) Ω J := fun σ H H0 hs sl => by
  refine of_pe (pe_lst pa_sem) (semA_mono (h σ H H0 hs sl) fun vs H1 ⟨H01, as, Ω1, s1, hs1, ka, y, ds, e1, e2, hl, j⟩ => ?_)
  have l := ka.dats e1
  have lz : vs.length ≤ sizeLine := by rw [l.length]; exact hl
  refine ⟨lz, fun q n => .new s1 hs1 n (is_lst (hs1.free0 n) lz l) ⟨y, by rw [e2], j⟩⟩
/-- [a, b, ..], owned -/
theorem e_lstO (xs : List α) (h : WA T Γ es Ω fun as Ω1 => as = xs.map (fun x => As.dat (enc x)) ∧ xs.length ≤ sizeLine ∧ ∀ q, T.G.He q = none → J (.own q) ((q, oL enc xs) :: Ω1)) : WE T Γ (.List es pos) Ω J := fun σ H H0 hs sl => by
  refine of_pe (pe_lst pa_sem) (semA_mono (h σ H H0 hs sl) fun vs H1 ⟨H01, as, Ω1, s1, hs1, ka, e1, hl, j⟩ => ?_)
  have l : IsL W.K H01 vs (xs.map enc) := ka.dats (by rw [e1, List.map_map]; rfl)
  have lz : vs.length ≤ sizeLine := by rw [l.length, List.length_map]; exact hl
  refine ⟨lz, fun q n => .newO s1 hs1 n (oL_ok lz l) (j q (hs1.free n))⟩
/-- (a, b, ..) -/
theorem v_tup {J : β → OCtx → Prop} {k : Nat} (h : WA T Γ es Ω fun as Ω1 => ∃ (y : β) (ds : List D), as = ds.map As.dat ∧ enb y = .tup ds ∧ ds.length ≤ sizeLine ∧ J y Ω1) : WV T Γ enb (.Tuple es k pos) Ω J := fun σ H H0 hs sl => by
  refine of_pe (pe_tup pa_sem) (semA_mono (h σ H H0 hs sl) fun vs H1 ⟨H01, as, Ω1, s1, hs1, ka, y, ds, e1, e2, hl, j⟩ => ?_)
  have l := ka.dats e1
  have lz : vs.length ≤ sizeLine := by rw [l.length]; exact hl
  refine ⟨lz, fun q n => .new s1 hs1 n (is_tup (hs1.free0 n) lz l) ⟨y, by rw [e2], j⟩⟩

/-! ### xs[i] -/
def idxM (xs : List α) (i : Int) : M α := match atI xs i with
  | some x => .ok x
  | none => .stuck
theorem idx_run {xs : List α} {i : Int} {Φ : α → Prop} {Ψ : Exc → Prop} (h : Run (idxM xs i) Φ Ψ) : ∃ x, atI xs i = some x ∧ Φ x := by
  unfold idxM at h
  cases q : atI xs i with
  | none => rw [q] at h; exact h.no.elim
  | some x => rw [q] at h; exact ⟨x, rfl, h.get⟩
theorem isL_at {K : PySem.W.Frag} {H : Hp} {vs : List V} {xs : List α} {i : Int} {x : α} (l : IsL K H vs (xs.map enc)) (h : atI xs i = some x) : ∃ u, atI vs i = some u ∧ Is K H u (enc x) := by
  have hl : vs.length = xs.length := by rw [l.length, List.length_map]
  unfold atI at h ⊢
  rw [hl]
  cases q : ixN xs.length i with
  | none => rw [q] at h; cases h
  | some j =>
    rw [q] at h
    have h' : xs[j]? = some x := h
    exact l.get (by rw [List.getElem?_map, h']; rfl)
theorem v_ix {J : α → OCtx → Prop} {Ψ : Exc → Prop} (h : WQ T Γ enc a Ω fun xs Ω1 => WV T Γ D.int b Ω1 fun i Ω2 => (Ω2 = Ω1 ∧ Run (idxM xs i) (fun x => J x Ω2) Ψ)) (hs : PlainIx b := by exact fun _ _ => rfl) : WV T Γ enc (.Subscript a b pos) Ω J := fun σ H H0 hs0 sl => by
  refine of_pe (pe_ix ix_seq pe_sem pe_sem hs) ?_
  refine sem_mono (h σ H H0 hs0 sl) fun v H1 ⟨H01, ax, Ω1, s1, hs1, kx, xs, sq, h1⟩ => ?_
  refine sem_mono (h1 σ H1 H01 hs1 (sl.mono s1)) fun u H2 ⟨H02, ay, Ω2, s2, hs2, ky, i, ei, eΩ, h2⟩ => ?_
  subst ei eΩ
  cases isI ky
  obtain ⟨x, hx, j⟩ := idx_run h2
  obtain ⟨q, vs, rfl, lz, c, l⟩ := SqAny.get sq hs2 (kx.mono s2)
  obtain ⟨w, hw, r⟩ := isL_at l hx
  have fin : QE W.K T.G (fun a Ω' => ∃ x, a = .dat (enc x) ∧ J x Ω') H0 w H2 := .mk (s1.trans s2) hs2 r j
  rcases c with c | c
  · exact .inl ⟨q, vs, i, w, rfl, rfl, by rw [T.K]; exact c, hw, fin⟩
  · exact .inr (.inl ⟨q, vs, i, w, rfl, rfl, by rw [T.K]; exact c, hw, fin⟩)
/-- t[k] of a tuple whose parts are known one by one -/
theorem v_tix {J : β → OCtx → Prop} {i : Int} {j : Nat} {pos' : Pos} (f : α → β) (ht : ∀ x, ∃ ds, enc x = .tup ds ∧ atI ds i = some (enb (f x))) (h : WV T Γ enc a Ω fun x Ω1 => J (f x) Ω1) : WV T Γ enb (.Subscript a (.Constant (.int i) j pos') pos) Ω J := fun σ H H0 hs0 sl => by
  refine of_pe (pe_ix ix_tup pe_sem pe_int (fun _ _ => rfl)) ?_
  refine sem_mono (h σ H H0 hs0 sl) fun v H1 ⟨H01, ax, Ω1, s1, hs1, kx, x, ex, h1⟩ => ?_
  subst ex
  obtain ⟨ds, e1, e2⟩ := ht x
  have kx' : Is W.K H01 v (.tup ds) := by rw [← e1]; exact kx
  cases kx' with
  | @tup q vs _ lz hq l =>
    have l2 : IsL W.K H01 vs (ds.map id) := by rw [List.map_id]; exact l
    obtain ⟨w, hw, r⟩ := isL_at (enc := id) l2 e2
    exact ⟨q, vs, i, w, rfl, rfl, by rw [T.K]; exact SameT hs1.sub hq, hw, QE.mk (enc := enb) s1 hs1 r h1⟩

/-! ### owned lists changed -/
def setM (xs : List α) (i : Int) (x : α) : M (List α) := match ixN xs.length i with
  | some j => .ok (xs.set j x)
  | none => .stuck
/-- xs[i] = e, xs a name that holds an owned list -/
theorem s_setItem {Z : Dz} {Ψ : Exc → Prop} (i j : Nat) {x : Str} {q : Addr} {px : Pos} (hΓ : Γ[i]? = some (some (.own q)))
    (h : WV T Γ enc e Ω fun y Ω1 => WV T Γ D.int b Ω1 fun n Ω2 => ∃ xs : List α, Ω2[j]? = some (q, oL enc xs) ∧ Run (setM xs n y) (fun ys => Z.nx Γ (Ω2.set j (q, oL enc ys))) Ψ)
    (hN : S.N[i]? = some x := by rfl) (hv : S.vl.elem i = true := by rfl)
    (ha : ∀ v, assign (.Subscript (.Name x px) b p2) T.X.env v = (do
      let ov ← holding [v] (eval (.Name x px) T.X.env)
      let iv ← holding [v, ov] (eval b T.X.env)
      standAt p2
      holding [v, ov, iv] (setItem ov iv v)
      release [v, ov, iv] []) := by intro _; rfl)
    (hsw : swapsWithSole [.Subscript (.Name x px) b p2] e pos.line T.X.env = pure false := by rfl) : WS T Γ (.Assign [.Subscript (.Name x px) b p2] e pos) Ω Z := fun σ H H0 hs sl => by
  obtain ⟨h1, h2, h3⟩ := T.ok.vis i x hv hN
  have pn : PE T.X (.Name x px) (tVar i) := pe_var (i := i) (by rw [T.hN]; exact hN) (by rw [T.hsc]; exact h1) h2 h3
  refine of_ps (ps_asg pe_sem (pg_sub pn pe_sem set_list ha) hsw) ?_
  refine sem_mono (h σ H H0 hs sl) fun v H1 ⟨H01, ax, Ω1, s1, hs1, kx, y, ey, hb⟩ => ?_
  subst ey
  obtain ⟨w, q1, q2⟩ := (sl.mono s1).at_ i _ hΓ
  refine ⟨w, q1, ?_⟩
  refine sem_mono (hb σ H1 H01 hs1 (sl.mono s1)) fun u H2 ⟨H02, ay, Ω2, s2, hs2, ky, n, en, xs, eΩ, hr⟩ => ?_
  subst en
  cases isI ky
  unfold setM at hr
  cases hj : ixN xs.length n with
  | none => rw [hj] at hr; exact hr.no.elim
  | some k =>
    rw [hj] at hr
    obtain ⟨ho, z1, z2⟩ := hs2.at_ eΩ
    obtain ⟨vs, rfl, lz, l⟩ := asL_oL z2
    have hl : vs.length = xs.length := by rw [l.length, List.length_map]
    have q2' : w = .ref q := q2
    refine ⟨q, vs, n, k, q2', rfl, z1, by rw [hl]; exact hj, Γ, _, H02, s1.trans s2, hs2.write eΩ (oL_ok (xs := xs.set k y) (by rw [List.length_set]; exact lz) ?_), (sl.mono s1).mono s2, hr.get⟩
    rw [List.map_set]
    exact l.set (Is.mono s2 kx) k
end
end Y
namespace Y
open PySem PySem.Spec PyProof.Rows L2

section
variable {W : Wd} {S : Sco} {T : TC W S} {Γ Δ : Ctx} {Ω Ω' : OCtx} {J : JE} {e a b c : Expr} {es : List Expr} {pos p p2 : Pos} {α β γ : Type} {enc : α → D} {enb : β → D} {Z : Dz} {sts : List Stmt} {st : Stmt}
theorem WSs.weak (h : WSs T Δ sts Ω' Z) (l : Le Γ Δ) (z : List.Sublist Ω' Ω) : WSs T Γ sts Ω Z := fun σ H H0 hs sl => h σ H H0 (hs.sublist z) (sl.weak l)
/-- a statement, its ends weakened -/
theorem WS.imp {Z' : Dz} (h : WS T Γ st Ω Z) (h1 : ∀ Γ Ω, Z.nx Γ Ω → Z'.nx Γ Ω) (h2 : ∀ v Ω, Z.rt v Ω → Z'.rt v Ω) (h3 : ∀ Γ Ω, Z.bk Γ Ω → Z'.bk Γ Ω) (h4 : ∀ Γ Ω, Z.ct Γ Ω → Z'.ct Γ Ω) : WS T Γ st Ω Z' := fun σ H H0 hs sl =>
  semS_mono (h σ H H0 hs sl) (Dz.st_imp (Same.refl _) h1) (fun _ _ ⟨a, b, c, d, e, f⟩ => ⟨a, b, c, d, e, h2 _ _ f⟩) (Dz.st_imp (Same.refl _) h3) (Dz.st_imp (Same.refl _) h4)
/-- an if whose two ways join: s stands for what they leave -/
theorem s_iteJ {A B : List Stmt} {σ : Type} (ΓS : σ → Ctx) (ΩS : σ → OCtx) {Φ : σ → Prop} (h : WT T Γ c Ω fun x Ω' => (x = true → WSs T Γ A Ω' { Z with nx := fun Γ' Ω'' => ∃ s, Le Γ' (ΓS s) ∧ List.Sublist (ΩS s) Ω'' ∧ Φ s }) ∧
      (x = false → WSs T Γ B Ω' { Z with nx := fun Γ' Ω'' => ∃ s, Le Γ' (ΓS s) ∧ List.Sublist (ΩS s) Ω'' ∧ Φ s }))
    (k : ∀ s, Φ s → WSs T (ΓS s) sts (ΩS s) Z) : WSs T Γ (.If c A B pos :: sts) Ω Z :=
  s_cons (WS.imp (Z := { Z with nx := fun Γ' Ω'' => ∃ s, Le Γ' (ΓS s) ∧ List.Sublist (ΩS s) Ω'' ∧ Φ s }) (s_ite h) (fun Γ' Ω'' ⟨s, l, z, q⟩ => (k s q).weak l z) (fun _ _ z => z) (fun _ _ z => z) (fun _ _ z => z))

/-! ### targets -/
def semG (X : Cx) (tg : Expr) : TG := fun v σ H Q => Hd (∀ pins s u, Inv X pins σ H s → RelV v u → wpAny (model X.prog X.w) X.A (assign tg X.env u) (fun _ s' => ∃ σ' H', Inv X pins σ' H' s' ∧ Q σ' H') X.xe s)
theorem pg_sem {X : Cx} {tg : Expr} : PG X tg (semG X tg) := ⟨fun pins s _ _ _ u _ I r h => h.run pins s u I r⟩
theorem of_pg {X : Cx} {tg : Expr} {t : TG} (h : PG X tg t) {v : V} {σ : L2.St} {H : Hp} {Q : L2.St → Hp → Prop} (q : t v σ H Q) : semG X tg v σ H Q := ⟨fun pins s u I r => h.run pins s σ H v u Q I r q⟩
def semGs (X : Cx) (ts : List Expr) : TGs := fun vs σ H Q => Hd (∀ pins s us, Inv X pins σ H s → Vals vs us → wpAny (model X.prog X.w) X.A (assignInOrder ((assignEach ts X.env).map (·.2)) us) (fun _ s' => ∃ σ' H', Inv X pins σ' H' s' ∧ Q σ' H') X.xe s)
theorem pgs_sem {X : Cx} {ts : List Expr} : PGs X ts (semGs X ts) := ⟨fun pins s _ _ _ us _ I r h => h.run pins s us I r⟩
theorem of_pgs {X : Cx} {ts : List Expr} {t : TGs} (h : PGs X ts t) {vs : List V} {σ : L2.St} {H : Hp} {Q : L2.St → Hp → Prop} (q : t vs σ H Q) : semGs X ts vs σ H Q := ⟨fun pins s us I r => h.run pins s σ H vs us Q I r q⟩
def WG (T : TC W S) (Γ : Ctx) (tg : Expr) (d : D) (R : Ctx → Prop) : Prop := ∀ σ H H0 v, Same H0 H → Sl W.K Γ H0 σ → Is W.K H0 v d → semG T.X tg v σ H fun σ' H' => H' = H ∧ (∀ j, S.sl.elem j = false → σ'[j]? = σ[j]?) ∧ ∃ Γ', Sl W.K Γ' H0 σ' ∧ R Γ'
def WGs (T : TC W S) (Γ : Ctx) (ts : List Expr) (ds : List D) (R : Ctx → Prop) : Prop := ∀ σ H H0 vs, Same H0 H → Sl W.K Γ H0 σ → IsL W.K H0 vs ds → semGs T.X ts vs σ H fun σ' H' => H' = H ∧ (∀ j, S.sl.elem j = false → σ'[j]? = σ[j]?) ∧ ∃ Γ', Sl W.K Γ' H0 σ' ∧ R Γ'
theorem g_name {R : Ctx → Prop} {d : D} (i : Nat) {x : Str} (k : R (Γ.set i (some (.dat d)))) (hN : S.N[i]? = some x := by rfl) (hv : S.sl.elem i = true := by rfl) : WG T Γ (.Name x pos) d R := fun σ H H0 v hs sl r => by
  have hn : T.X.N[i]? = some x := by rw [T.hN]; exact hN
  refine of_pg (pg_name (i := i) (by rw [T.hN]; exact T.ok.nd) hn (by rw [T.hsc]; exact T.ok.loc i x hv hN) (T.hf i x hv hN)) ⟨rfl, fun j hj => ?_, _, sl.set (a := .dat d) r, k⟩
  have ne : i ≠ j := fun z => by subst z; rw [hv] at hj; cases hj
  rw [List.getElem?_set_ne ne]
theorem g_nil {R : Ctx → Prop} (k : R Γ) : WGs T Γ [] [] R := fun σ H H0 vs hs sl r => by
  cases r
  exact of_pgs pgs_nil ⟨rfl, rfl, fun _ _ => rfl, Γ, sl, k⟩
theorem g_cons {R : Ctx → Prop} {t : Expr} {ts : List Expr} {d : D} {ds : List D} (h : WG T Γ t d fun Γ' => WGs T Γ' ts ds R) (hs : (assignEach (t :: ts) T.X.env).map (·.2) = assign t T.X.env :: (assignEach ts T.X.env).map (·.2) := by rfl) : WGs T Γ (t :: ts) (d :: ds) R :=
  fun σ H H0 vs hs0 sl r => by
  cases r with
  | @cons v vs _ _ rv rl =>
    refine of_pgs (pgs_cons pg_sem pgs_sem hs) ⟨v, vs, rfl, .mk fun pins s u I ru => ?_⟩
    refine thn ((h σ H H0 v hs0 sl rv).run pins s u I ru) fun _ s' ⟨σ', H', I', eH, eo, Γ', sl', q⟩ => ⟨σ', H', I', ?_⟩
    subst eH
    refine .mk fun pins2 s2 us I2 rs => ?_
    exact thn ((q σ' H' H0 vs hs0 sl' rl).run pins2 s2 us I2 rs) fun _ s3 ⟨σ3, H3, I3, eH3, eo3, z⟩ => ⟨σ3, H3, I3, eH3, fun j hj => (eo3 j hj).trans (eo j hj), z⟩
theorem g_tup {R : Ctx → Prop} {ts : List Expr} {ds : List D} {k : Nat} (h : WGs T Γ ts ds R) (hl : ds.length = ts.length := by rfl) (hc : S.calm = true := by rfl)
    (hn : (assignEach ts T.X.env).length = ts.length := by rfl) (hst : (assignEach ts T.X.env).findIdx? (·.1) = none := by rfl) : WG T Γ (.Tuple ts k pos) (.tup ds) R := fun σ H H0 v hs sl r => by
  cases r with
  | @tup q vs _ lz hq l =>
    refine of_pg (pg_tup (by rw [T.hc]; exact hc) pgs_sem hn hst) ⟨q, vs, rfl, ?_, by rw [l.length]; exact hl, h σ H H0 vs hs sl l⟩
    rw [T.K]
    exact SameT hs hq

/-! ### what a for walks -/
def semI (X : Cx) (tg iter : Expr) : TI := fun σ H R => Hd (∀ pins s, Inv X pins σ H s → wpAny (model X.prog X.w) X.A (eval iter X.env) (fun v s1 => wpAny (model X.prog X.w) X.A (pyIter v) (PIE X pins σ tg R) X.xe s1) X.xe s)
theorem pi_sem {X : Cx} {tg iter : Expr} : PI X tg iter (semI X tg iter) := ⟨fun pins s _ _ _ I h => h.run pins s I⟩
theorem of_pi {X : Cx} {tg iter : Expr} {t : TI} (h : PI X tg iter t) {σ : L2.St} {H : Hp} {R : It → Hp → Prop} (q : t σ H R) : semI X tg iter σ H R := ⟨fun pins s I => h.run pins s σ H R I q⟩
/-- what is given at turn i: the i-th of xs, as it stands or in a new object -/
def Gv (K : PySem.W.Frag) (enc : α → D) (xs : List α) (H0 : Hp) (i : Nat) (H : Hp) (v : V) (H' : Hp) : Prop := ∃ x, xs[i]? = some x ∧ ((H' = H ∧ Is K H0 v (enc x)) ∨ ∃ q o, H q = none ∧ H' = upd H q o ∧ v = .ref q ∧ ∀ Hx, Same H0 Hx → Hx q = none → Is K (upd Hx q o) (.ref q) (enc x))
def WI (T : TC W S) (Γ : Ctx) (tg : Expr) (enc : α → D) (it : Expr) (Ω : OCtx) (J : List α → OCtx → Prop) : Prop := ∀ σ H H0, Hs W.K T.G Ω H0 H → Sl W.K Γ H0 σ → semI T.X tg it σ H fun Jt H1 => ∃ H01 Ω1 xs, Same H0 H01 ∧ Hs W.K T.G Ω1 H01 H1 ∧
  Walk Jt xs.length (fun Hx => Same H01 Hx) (fun i Hx v H' => Gv W.K enc xs H01 i Hx v H') ∧ J xs Ω1
theorem i_lst {J : List α → OCtx → Prop} {tg : Expr} (h : WV T Γ (dL enc) e Ω fun xs Ω1 => xs.length ≤ sizeLine → J xs Ω1) : WI T Γ tg enc e Ω J := fun σ H H0 hs sl => by
  refine of_pi (pi_list pe_sem) (sem_mono (h σ H H0 hs sl) fun v H1 ⟨H01, a, Ω1, s1, hs1, ka, xs, ea, j⟩ => ?_)
  subst ea
  cases ka with
  | @lst q vs _ lz hq l =>
    have hl : vs.length = xs.length := by rw [l.length, List.length_map]
    refine ⟨q, rfl, ⟨vs, .of (hs1.sub _ _ hq)⟩, H01, Ω1, xs, s1, hs1, ?_, j (by rw [← hl]; exact lz)⟩
    rw [← hl]
    refine walk_list.mono (fun Hx z => .of (z _ _ hq)) fun i Hx x H' hi z ⟨e1, e2⟩ => ?_
    obtain ⟨d, e3, r⟩ := l.getV e2
    rw [List.getElem?_map] at e3
    cases e4 : xs[i]? with
    | none => rw [e4] at e3; cases e3
    | some y =>
      rw [e4] at e3
      cases e3
      exact ⟨y, e4, .inl ⟨e1, r⟩⟩
theorem i_tup {J : List α → OCtx → Prop} {tg : Expr} (h : WV T Γ (dU enc) e Ω fun xs Ω1 => xs.length ≤ sizeLine → J xs Ω1) : WI T Γ tg enc e Ω J := fun σ H H0 hs sl => by
  refine of_pi (pi_tup pe_sem) (sem_mono (h σ H H0 hs sl) fun v H1 ⟨H01, a, Ω1, s1, hs1, ka, xs, ea, j⟩ => ?_)
  subst ea
  cases ka with
  | @tup q vs _ lz hq l =>
    have hl : vs.length = xs.length := by rw [l.length, List.length_map]
    have hq' : ∀ Hx, Same H01 Hx → SqT T.X.K Hx q vs := fun Hx z => by rw [T.K]; exact SameT z hq
    refine ⟨q, rfl, ⟨vs, hq' _ hs1.sub⟩, H01, Ω1, xs, s1, hs1, ?_, j (by rw [← hl]; exact lz)⟩
    rw [← hl]
    refine walk_tup.mono hq' fun i Hx x H' hi z ⟨e1, e2⟩ => ?_
    obtain ⟨d, e3, r⟩ := l.getV e2
    rw [List.getElem?_map] at e3
    cases e4 : xs[i]? with
    | none => rw [e4] at e3; cases e3
    | some y =>
      rw [e4] at e3
      cases e3
      exact ⟨y, e4, .inl ⟨e1, r⟩⟩
/-- lo, lo + 1, .. below hi -/
def rng (lo hi : Int) : List Int := (List.range (hi - lo).toNat).map fun i => lo + (i : Nat)
theorem rng_length (lo hi : Int) : (rng lo hi).length = (hi - lo).toNat := by simp [rng]
def rngOk (lo hi : Int) : Bool := decide (-(2 ^ 62) ≤ lo ∧ lo < 2 ^ 62 ∧ -(2 ^ 62) ≤ hi ∧ hi < 2 ^ 62)
def rngM (lo hi : Int) : M (List Int) := chk (rngOk lo hi) (.ok (rng lo hi))
theorem walk_rng (lo : Int) (n : Nat) (hi : Int) (hn : n = (hi - lo).toNat) (K : PySem.W.Frag) (H01 : Hp) : Walk (Itr lo n) (rng lo hi).length (fun Hx => Same H01 Hx) (fun i Hx v H' => Gv K D.int (rng lo hi) H01 i Hx v H') := by
  rw [rng_length, ← hn]
  refine walk_range.mono (fun _ _ => trivial) fun i Hx x H' h z ⟨e1, e2⟩ => ⟨lo + (i : Nat), ?_, .inl ⟨e1, by rw [e2]; exact .int _⟩⟩
  unfold rng
  rw [← hn, List.getElem?_map, List.getElem?_range h]
  rfl
theorem i_rng1 {J : List Int → OCtx → Prop} {tg : Expr} {Ψ : Exc → Prop} (i : Nat) (hm : W.mg "range" = none) (h : WV T Γ D.int a Ω fun n Ω1 => Run (rngM 0 n) (fun xs => J xs Ω1) Ψ) (hg : S.gl[i]? = some ("range" : Str) := by rfl)
    (hs : starEach [a] T.X.env = [(false, eval a T.X.env)] := by rfl) : WI T Γ tg D.int (.Call (.Name "range" p) [a] [] pos) Ω J := fun σ H H0 hs0 sl => by
  refine of_pi (pi_range1 (T.gl hg) (T.free hm) (pa_cons pe_sem pa_nil hs) hs) (sem_mono (h σ H H0 hs0 sl) fun v H1 ⟨H01, a, Ω1, s1, hs1, ka, n, ea, j⟩ => ?_)
  subst ea
  cases isI ka
  obtain ⟨c, j⟩ := chk_ok j
  obtain ⟨c1, c2, c3, c4⟩ := of_decide_eq_true c
  exact ⟨n, rfl, c3, c4, H01, Ω1, rng 0 n, s1, hs1, walk_rng 0 _ n (by simp) W.K H01, j⟩
theorem i_rng2 {J : List Int → OCtx → Prop} {tg : Expr} {Ψ : Exc → Prop} (i : Nat) (hm : W.mg "range" = none) (h : WV T Γ D.int a Ω fun lo Ω1 => WV T Γ D.int b Ω1 fun n Ω2 => Run (rngM lo n) (fun xs => J xs Ω2) Ψ) (hg : S.gl[i]? = some ("range" : Str) := by rfl)
    (hs : starEach [a, b] T.X.env = [(false, eval a T.X.env), (false, eval b T.X.env)] := by rfl) (hsb : starEach [b] T.X.env = [(false, eval b T.X.env)] := by rfl) : WI T Γ tg D.int (.Call (.Name "range" p) [a, b] [] pos) Ω J := fun σ H H0 hs0 sl => by
  refine of_pi (pi_range2 (T.gl hg) (T.free hm) (pa_cons pe_sem (pa_cons pe_sem pa_nil hsb) (by rw [hs, hsb])) hs hsb) ?_
  refine sem_mono (h σ H H0 hs0 sl) fun v H1 ⟨H01, a, Ω1, s1, hs1, ka, lo, ea, h2⟩ => ?_
  subst ea
  cases isI ka
  refine sem_mono (h2 σ H1 H01 hs1 (sl.mono s1)) fun v H2 ⟨H02, a, Ω2, s2, hs2, ka, n, ea, j⟩ => ?_
  subst ea
  cases isI ka
  obtain ⟨c, j⟩ := chk_ok j
  obtain ⟨c1, c2, c3, c4⟩ := of_decide_eq_true c
  exact ⟨lo, n, rfl, ⟨c1, c2, c3, c4⟩, H02, Ω2, rng lo n, s1.trans s2, hs2, walk_rng lo _ n rfl W.K H02, j⟩
/-- enumerate(xs), the target a tuple -/
def enumL (xs : List α) : List (Int × α) := (List.range xs.length).zipWith (fun i x => (((i : Nat) : Int), x)) xs
theorem enumL_get {xs : List α} {i : Nat} {x : α} (h : xs[i]? = some x) : (enumL xs)[i]? = some ((i : Int), x) := by
  have l : i < xs.length := (List.getElem?_eq_some_iff.mp h).1
  unfold enumL
  rw [List.getElem?_zipWith, List.getElem?_range l, h]
theorem enumL_length (xs : List α) : (enumL xs).length = xs.length := by simp [enumL]
theorem two_line : (2 : Nat) ≤ sizeLine := by decide
theorem i_enum {J : List (Int × α) → OCtx → Prop} {elts : List Expr} {kk : Nat} {tpos : Pos} (i : Nat) (hm : W.mg "enumerate" = none) (h : WV T Γ (dL enc) a Ω fun xs Ω1 => xs.length ≤ sizeLine → J (enumL xs) Ω1) (hg : S.gl[i]? = some ("enumerate" : Str) := by rfl)
    (hs : starEach [a] T.X.env = [(false, eval a T.X.env)] := by rfl) : WI T Γ (.Tuple elts kk tpos) (dT2 D.int enc) (.Call (.Name "enumerate" p) [a] [] pos) Ω J := fun σ H H0 hs0 sl => by
  refine of_pi (pi_enum (T.gl hg) (T.free hm) (pa_cons pe_sem pa_nil hs) hs) (sem_mono (h σ H H0 hs0 sl) fun v H1 ⟨H01, a, Ω1, s1, hs1, ka, xs, ea, j⟩ => ?_)
  subst ea
  cases ka with
  | @lst q vs _ lz hq l =>
    have hl : vs.length = xs.length := by rw [l.length, List.length_map]
    refine ⟨q, vs, rfl, .of (hs1.sub _ _ hq), H01, Ω1, enumL xs, s1, hs1, ?_, j (by rw [← hl]; exact lz)⟩
    rw [enumL_length, ← hl]
    refine walk_enum.mono (fun Hx z => .of (z _ _ hq)) fun i Hx x H' hi z ⟨q', x1, y1, e1, e2, e3, e4, e5⟩ => ?_
    cases e4
    obtain ⟨d, e6, r⟩ := l.getV e5
    rw [List.getElem?_map] at e6
    cases e7 : xs[i]? with
    | none => rw [e7] at e6; cases e6
    | some y =>
      rw [e7] at e6
      cases e6
      refine ⟨_, enumL_get e7, .inr ⟨q', _, e2, e3, e1, fun Hy s n => ?_⟩⟩
      exact is_tup n two_line (.cons (.int _) (.cons (r.mono s) .nil))

/-! ### for -/
/-- a loop's word: Pv by the turn -/
def ForOk (T : TC W S) (tg : Expr) (body : List Stmt) (Z : Dz) (enc : α → D) (xs : List α) (Γ : Ctx) (Ω : OCtx) : Prop := ∃ Pv : Nat → Ctx → OCtx → Prop, Pv 0 Γ Ω ∧
  (∀ i x Γ Ω, xs[i]? = some x → Pv i Γ Ω → WG T Γ tg (enc x) fun Γ' => WSs T Γ' body Ω { Z with nx := Pv (i + 1), ct := Pv (i + 1), bk := Z.nx }) ∧ ∀ Γ Ω, Pv xs.length Γ Ω → Z.nx Γ Ω
theorem s_for {tg it : Expr} {body : List Stmt} (h : WI T Γ tg enc it Ω fun xs Ω1 => ForOk T tg body Z enc xs Γ Ω1) (hc : S.calm = true := by rfl)
    (hs : ∀ x, foldedSetIterable it T.X.env x = pure x := by intro _; rfl) : WS T Γ (.For tg it body [] pos) Ω Z := fun σ H H0 hs0 sl => by
  refine of_ps (ps_for T.pso (by rw [T.hc]; exact hc) pi_sem pg_sem pss_sem hs) ?_
  refine .mk fun pins s I => ?_
  refine thn ((h σ H H0 hs0 sl).run pins s I) fun v s1 h1 => thn h1 fun itv s2 ⟨it', fp, tn, Jt, H1, e0, I2, tu, st, fk, H01, Ω1, xs, s1', hs1, wk, Pv, p0, pt, pd⟩ => ⟨it', fp, tn, Jt, H1, e0, I2, tu, st, fk, ?_⟩
  refine for_it wk (fun i σ' H' => ∃ Γ' Ω' H0', Same H01 H0' ∧ Hs W.K T.G Ω' H0' H' ∧ Sl W.K Γ' H0' σ' ∧ Pv i Γ' Ω') ⟨Γ, Ω1, H01, Same.refl _, hs1, sl.mono s1', p0⟩ (fun i σ' H' _ ⟨Γ', Ω', H0', z1, z2, _⟩ => z1.trans z2.sub) ?_ ?_
  · rintro i v σ' H' H'' hi ⟨Γ', Ω', H0', z1, z2, z3, z4⟩ ⟨x, ex, gv⟩
    have key : ∃ H0'', Same H0' H0'' ∧ Hs W.K T.G Ω' H0'' H'' ∧ Is W.K H0'' v (enc x) := by
      rcases gv with ⟨e1, r⟩ | ⟨q, o, n, e1, e2, r⟩
      · subst e1
        exact ⟨H0', Same.refl _, z2, r.mono z1⟩
      · subst e1 e2
        exact ⟨upd H0' q o, same_upd (z2.free0 n), z2.alloc n, r H0' z1 (z2.free0 n)⟩
    obtain ⟨H0'', y1, y2, y3⟩ := key
    have g := pt i x Γ' Ω' ex z4 σ' H'' H0'' v y2.sub (z3.mono y1) y3
    refine .mk fun pins s u I r => ?_
    refine thn ((g).run pins s u I r) fun _ s' ⟨σ2, H2, I2, eH, eo, Γ2, sl2, q⟩ => ⟨σ2, H2, I2, ?_⟩
    subst eH
    have up : Same H01 H0'' := z1.trans y1
    refine semSs_mono (q σ2 H2 H0'' y2 sl2) (fun σ3 H3 ⟨Γ3, Ω3, H03, w0, w1, w2, w3⟩ => ⟨Γ3, Ω3, H03, up.trans w0, w1, w2, w3⟩) (fun _ _ z => z) (fun σ3 H3 ⟨Γ3, Ω3, H03, w0, w1, w2, w3⟩ => ⟨Γ3, Ω3, H03, (s1'.trans up).trans w0, w1, w2, w3⟩)
      (fun σ3 H3 ⟨Γ3, Ω3, H03, w0, w1, w2, w3⟩ => ⟨Γ3, Ω3, H03, up.trans w0, w1, w2, w3⟩)
  · rintro σ' H' ⟨Γ', Ω', H0', z1, z2, z3, z4⟩
    exact ⟨Γ', Ω', H0', s1'.trans z1, z2, z3, pd Γ' Ω' z4⟩

/-! ### folds -/
inductive Stp (σ ρ : Type) where
  | nx (s : σ)
  | bk (s : σ)
  | rt (r : ρ)
/-- a loop that is never left -/
def foldM {σ : Type} : List α → σ → (α → σ → M σ) → M σ
  | [], s, _ => .ok s
  | x :: xs, s, f => M.bind (f x s) fun s' => foldM xs s' f
/-- a loop that may be left -/
def forM {σ ρ : Type} : List α → σ → (α → σ → M (Stp σ ρ)) → M (Stp σ ρ)
  | [], s, _ => .ok (.nx s)
  | x :: xs, s, f => M.bind (f x s) fun st => match st with
    | .nx s' => forM xs s' f
    | .bk s' => .ok (.bk s')
    | .rt r => .ok (.rt r)
/-- behind the loop: it came to its end or was broken off, or it returned -/
def aft {σ ρ τ : Type} (st : Stp σ ρ) (k : σ → M τ) (r : ρ → M τ) : M τ := match st with
  | .nx s => k s
  | .bk s => k s
  | .rt x => r x
theorem drop_get {xs : List α} {i : Nat} {x : α} (h : xs[i]? = some x) : xs.drop i = x :: xs.drop (i + 1) := by
  obtain ⟨l, e⟩ := List.getElem?_eq_some_iff.mp h
  rw [← e]
  exact List.drop_eq_getElem_cons l
theorem ForOk.fold {σ : Type} {tg : Expr} {body : List Stmt} {xs : List α} {f : α → σ → M σ} {s0 : σ} {Φ : σ → Prop} {Ψ : Exc → Prop} (ΓS : σ → Ctx) (ΩS : σ → OCtx) (hm : Run (foldM xs s0 f) Φ Ψ) (h0 : Le Γ (ΓS s0)) (o0 : List.Sublist (ΩS s0) Ω)
    (hb : ∀ x s (Φ' : σ → Prop), x ∈ xs → Run (f x s) Φ' Ψ → WG T (ΓS s) tg (enc x) fun Γ' => WSs T Γ' body (ΩS s) { nx := fun Γ'' Ω' => ∃ s', Le Γ'' (ΓS s') ∧ List.Sublist (ΩS s') Ω' ∧ Φ' s', rt := Z.rt, ct := fun Γ'' Ω' => ∃ s', Le Γ'' (ΓS s') ∧ List.Sublist (ΩS s') Ω' ∧ Φ' s' })
    (hd : ∀ s, Φ s → Z.nx (ΓS s) (ΩS s)) (hz : ∀ Γ Δ Ω Ω', Z.nx Δ Ω' → Le Γ Δ → List.Sublist Ω' Ω → Z.nx Γ Ω) : ForOk T tg body Z enc xs Γ Ω := by
  refine ⟨fun i Γ Ω => ∃ s, Le Γ (ΓS s) ∧ List.Sublist (ΩS s) Ω ∧ Run (foldM (xs.drop i) s f) Φ Ψ, ⟨s0, h0, o0, hm⟩, ?_, ?_⟩
  · rintro i x Γ' Ω' ex ⟨s, l, o, r⟩ σ' H H0 v hs sl k
    rw [drop_get ex] at r
    have g := hb x s _ (List.mem_of_getElem? ex) (Run.bind r) σ' H H0 v hs (sl.weak l) k
    refine .mk fun pins s1 u I rv => ?_
    refine thn ((g).run pins s1 u I rv) fun _ s' ⟨σ2, H2, I2, eH, eo, Γ2, sl2, q⟩ => ⟨σ2, H2, I2, eH, eo, Γ2, sl2, ?_⟩
    refine fun σ3 H3 H03 hs3 sl3 => semSs_mono (q σ3 H3 H03 (hs3.sublist o) sl3) ?_ (fun _ _ z => z) (fun _ _ ⟨_, _, _, _, _, _, z⟩ => z.elim) ?_
    · exact Dz.st_imp (Same.refl _) fun Γ Ω ⟨s', a, b, c⟩ => ⟨s', a, b, c⟩
    · exact Dz.st_imp (Same.refl _) fun Γ Ω ⟨s', a, b, c⟩ => ⟨s', a, b, c⟩
  · rintro Γ' Ω' ⟨s, l, o, r⟩
    rw [List.drop_length] at r
    exact hz _ _ _ _ (hd s r.get) l o
theorem ForOk.for_ {σ ρ : Type} {tg : Expr} {body : List Stmt} {xs : List α} {f : α → σ → M (Stp σ ρ)} {s0 : σ} {Φ : Stp σ ρ → Prop} {Ψ : Exc → Prop} (ΓS : σ → Ctx) (ΩS : σ → OCtx) (RT : ρ → As → OCtx → Prop) (hm : Run (forM xs s0 f) Φ Ψ) (h0 : Le Γ (ΓS s0)) (o0 : List.Sublist (ΩS s0) Ω)
    (hb : ∀ x s (Φ' : Stp σ ρ → Prop), x ∈ xs → Run (f x s) Φ' Ψ → WG T (ΓS s) tg (enc x) fun Γ' => WSs T Γ' body (ΩS s) {
      nx := fun Γ'' Ω' => ∃ s', Le Γ'' (ΓS s') ∧ List.Sublist (ΩS s') Ω' ∧ Φ' (.nx s'), rt := fun a Ω' => ∃ r, RT r a Ω' ∧ Φ' (.rt r),
      ct := fun Γ'' Ω' => ∃ s', Le Γ'' (ΓS s') ∧ List.Sublist (ΩS s') Ω' ∧ Φ' (.nx s'), bk := fun Γ'' Ω' => ∃ s', Le Γ'' (ΓS s') ∧ List.Sublist (ΩS s') Ω' ∧ Φ' (.bk s') })
    (hd : ∀ s, Φ (.nx s) ∨ Φ (.bk s) → Z.nx (ΓS s) (ΩS s)) (hr : ∀ r a Ω, RT r a Ω → Φ (.rt r) → Z.rt a Ω) (hz : ∀ Γ Δ Ω Ω', Z.nx Δ Ω' → Le Γ Δ → List.Sublist Ω' Ω → Z.nx Γ Ω) : ForOk T tg body Z enc xs Γ Ω := by
  refine ⟨fun i Γ Ω => ∃ s, Le Γ (ΓS s) ∧ List.Sublist (ΩS s) Ω ∧ Run (forM (xs.drop i) s f) Φ Ψ, ⟨s0, h0, o0, hm⟩, ?_, ?_⟩
  · rintro i x Γ' Ω' ex ⟨s, l, o, r⟩ σ' H H0 v hs sl k
    rw [drop_get ex] at r
    have g := hb x s _ (List.mem_of_getElem? ex) (Run.bind r) σ' H H0 v hs (sl.weak l) k
    refine .mk fun pins s1 u I rv => ?_
    refine thn ((g).run pins s1 u I rv) fun _ s' ⟨σ2, H2, I2, eH, eo, Γ2, sl2, q⟩ => ⟨σ2, H2, I2, eH, eo, Γ2, sl2, ?_⟩
    refine fun σ3 H3 H03 hs3 sl3 => semSs_mono (q σ3 H3 H03 (hs3.sublist o) sl3) ?_ ?_ ?_ ?_
    · exact Dz.st_imp (Same.refl _) fun Γ Ω ⟨s', a, b, c⟩ => ⟨s', a, b, c⟩
    · rintro v H4 ⟨a, Ω4, H04, b1, b2, r', b3, b4⟩
      exact ⟨a, Ω4, H04, b1, b2, hr _ _ _ b3 b4.get⟩
    · exact Dz.st_imp (Same.refl _) fun Γ Ω ⟨s', a, b, c⟩ => hz _ _ _ _ (hd s' (.inr c.get)) a b
    · exact Dz.st_imp (Same.refl _) fun Γ Ω ⟨s', a, b, c⟩ => ⟨s', a, b, c⟩
  · rintro Γ' Ω' ⟨s, l, o, r⟩
    rw [List.drop_length] at r
    exact hz _ _ _ _ (hd s (.inl r.get)) l o
theorem nx_weak {Γ Δ : Ctx} {Ω Ω' : OCtx} (h : WSs T Δ sts Ω' Z) (l : Le Γ Δ) (z : List.Sublist Ω' Ω) : WSs T Γ sts Ω Z := h.weak l z
end
end Y
namespace Y
open PySem PySem.Spec PyProof.Rows L2

/-! ### scopes by one look -/
def visB (sc : Scope) (x : Str) : Bool := match sc.names.lookup x with
  | some .local => true
  | some .cell => true
  | some .free => true
  | _ => false
def locB (sc : Scope) (x : Str) : Bool := match sc.names.lookup x with
  | some .local => true
  | some .cell => true
  | _ => false
theorem visB_ok {sc : Scope} {x : Str} (h : visB sc x = true) : Vis sc x := by
  unfold visB at h
  unfold Vis
  split at h <;> simp_all
theorem locB_ok {sc : Scope} {x : Str} (h : locB sc x = true) : L2.Loc sc x := by
  unfold locB at h
  unfold L2.Loc
  split at h <;> simp_all
def onN (N : List Str) (p : Str → Bool) (i : Nat) : Bool := match N[i]? with
  | some x => p x
  | none => true
def scChk (N : List Str) (sc : Scope) (vl sl : List Nat) (gl : List Str) : Bool :=
  (match sc.kind with | .function => true | _ => false) && decide N.Nodup && (vl.all (onN N fun x => visB sc x && (!(x == ("__debug__" : Str)) && !(x == ("__classdict__" : Str)))) && (sl.all (onN N fun x => locB sc x) &&
    gl.all fun x => decide (sc.names.lookup x = some .globalImplicit) && (!(x == ("__debug__" : Str)) && decide (x ≠ "__name__"))))
theorem scOk_of {S : Sco} (h : scChk S.N S.sc S.vl S.sl S.gl = true) : ScOk S := by
  unfold scChk at h
  obtain ⟨h1, h⟩ := Bool.and_eq_true_iff.mp h
  obtain ⟨h0, h1⟩ := Bool.and_eq_true_iff.mp h1
  obtain ⟨h2, h⟩ := Bool.and_eq_true_iff.mp h
  obtain ⟨h3, h4⟩ := Bool.and_eq_true_iff.mp h
  have k0 : S.sc.kind = .function := by
    cases e : S.sc.kind <;> first | rfl | (rw [e] at h0; cases h0)
  refine ⟨k0, of_decide_eq_true h1, fun i x hv hN => ?_, fun i x hv hN => ?_, fun i x hg => ?_⟩
  · have q := List.all_eq_true.mp h2 i (by simpa using hv)
    unfold onN at q
    rw [hN] at q
    obtain ⟨q1, q⟩ := Bool.and_eq_true_iff.mp q
    obtain ⟨q2, q3⟩ := Bool.and_eq_true_iff.mp q
    exact ⟨visB_ok q1, by simpa using q2, by simpa using q3⟩
  · have q := List.all_eq_true.mp h3 i (by simpa using hv)
    unfold onN at q
    rw [hN] at q
    exact locB_ok q
  · have q := List.all_eq_true.mp h4 x (List.mem_of_getElem? hg)
    obtain ⟨q1, q⟩ := Bool.and_eq_true_iff.mp q
    obtain ⟨q2, q3⟩ := Bool.and_eq_true_iff.mp q
    exact ⟨of_decide_eq_true q1, by simpa using q2, of_decide_eq_true q3⟩
/-! ### the block of a comprehension -/
abbrev blkS (S : Sco) (scope : Scope) (own : List (Str × Nat)) (vl : List Nat) (gl : List Str) : Sco := ⟨S.N, relS scope S.sc, vl, own.map (·.2), gl, S.lv, S.calm⟩
def compChk (S : Sco) (scope : Scope) (own : List (Str × Nat)) (vl : List Nat) (gl : List Str) : Bool :=
  blkC S.N S.sc scope own && (scChk S.N (relS scope S.sc) vl (own.map (·.2)) gl && (own.map (·.2)).all (onN S.N fun x => (scope.names.lookup x == some .cell) || decide ((relS scope S.sc).names.lookup x = some .local)))
theorem relabel_eq (scope : Scope) (env : Env) : relabel scope env = relS scope env.scope := rfl
section
variable {W : Wd} {S : Sco}
def TC.blk (T : TC W S) {scope : Scope} {own : List (Str × Nat)} {vl : List Nat} {gl : List Str} (h : compChk S scope own vl gl = true) (s : Shared) (H : Hp) (C : Addr) (cl : List (Str × Addr)) (fp : List Addr) : TC W (blkS S scope own vl gl) where
  X := T.X.blk s H scope (compEnvC scope cl C T.X.env) fp
  G := T.G
  xj := fun _ _ _ => False
  tk := fun u s' x => by
    obtain ⟨_, _, _, _, _, _, _, _, _, _, _, _, _, _, _, _, w⟩ := x
    obtain ⟨_, _, _, _, _, _, _, z⟩ := w
    exact z.elim
  hW := T.hW
  hN := T.hN
  hsc := by
    show relabel scope T.X.env = _
    rw [relabel_eq, T.hsc]
  ok := scOk_of (Bool.and_eq_true_iff.mp (Bool.and_eq_true_iff.mp h).2).1
  hf := fun i x hi hx => by
    have q := List.all_eq_true.mp (Bool.and_eq_true_iff.mp (Bool.and_eq_true_iff.mp h).2).2 i (by simpa using hi)
    unfold onN at q
    have hx' : S.N[i]? = some x := hx
    rw [hx'] at q
    rcases Bool.or_eq_true_iff.mp q with q | q
    · exact .inl q
    · refine .inr ?_
      show (relabel scope T.X.env).names.lookup x = _
      rw [relabel_eq, T.hsc]
      exact of_decide_eq_true q
  hc := T.hc
  room := T.room
  pso := PassesOwn.never
def wipeC (Γ : Ctx) : List Nat → Ctx
  | [] => Γ
  | v :: vs => (wipeC Γ vs).set v none
theorem Sl.wipe {K : PySem.W.Frag} {Γ : Ctx} {H0 : Hp} {σ : L2.St} (h : Sl K Γ H0 σ) : ∀ vs : List Nat, Sl K (wipeC Γ vs) H0 (L2.wipe σ vs)
  | [] => h
  | v :: vs => (Sl.wipe h vs).setN
theorem wipe_in {σ : L2.St} {j : Nat} : ∀ {vs : List Nat}, j ∈ vs → j < σ.length → (L2.wipe σ vs)[j]? = some none
  | v :: vs, h, l => by
    show ((L2.wipe σ vs).set v none)[j]? = _
    by_cases e : v = j
    · subst e
      rw [List.getElem?_set_self (by rw [wipe_length]; exact l)]
    · rw [List.getElem?_set_ne e]
      rcases List.mem_cons.mp h with z | z
      · exact absurd z.symm e
      · exact wipe_in z l
theorem wipe_same {σ σ2 : L2.St} {vs : List Nat} (hl : σ2.length = σ.length) (h : ∀ j, j ∉ vs → σ2[j]? = (L2.wipe σ vs)[j]?) : L2.wipe σ2 vs = L2.wipe σ vs := by
  refine List.ext_getElem? fun j => ?_
  by_cases m : j ∈ vs
  · by_cases l : j < σ.length
    · rw [wipe_in m l, wipe_in m (by rw [hl]; exact l)]
    · rw [List.getElem?_eq_none (by rw [wipe_length, hl]; omega), List.getElem?_eq_none (by rw [wipe_length]; omega)]
  · rw [wipe_out m, h j m]
variable {T : TC W S} {Γ : Ctx} {Ω : OCtx} {J : JE} {e a b c it elt tg : Expr} {es ifs : List Expr} {pos p p2 : Pos} {α β γ : Type} {enc : α → D} {enb : β → D}
/-! a clause's tests -/
def semF (X : Cx) (ifs : List Expr) : TT := fun σ H Q => Hd (∀ pins s, Inv X pins σ H s → wpAny (model X.prog X.w) X.A (forIn ifs true fun c r => if r = true then do let ok ← isTrue c X.env (eval c X.env); pure (ForInStep.yield ok) else pure (ForInStep.yield r)) (TP X pins σ Q) X.xe s)
def WF (T : TC W S) (Γ : Ctx) (ifs : List Expr) (Ω : OCtx) (J : Bool → OCtx → Prop) : Prop := ∀ σ H H0, Hs W.K T.G Ω H0 H → Sl W.K Γ H0 σ → semF T.X ifs σ H (QT W.K T.G J H0)
theorem f_nil {J : Bool → OCtx → Prop} (h : J true Ω) : WF T Γ [] Ω J := fun σ H H0 hs sl => .mk fun pins s I => (pts_nil (X := T.X)).run pins s σ H _ I ⟨H0, Ω, Same.refl _, hs, h⟩
theorem f_one {J : Bool → OCtx → Prop} (h : WT T Γ c Ω J) : WF T Γ [c] Ω J := fun σ H H0 hs sl => .mk fun pins s I => (pts_one (X := T.X) pt_sem).run pins s σ H _ I (h σ H H0 hs sl)
/-- what is asked of a comprehension's turns -/
def CompOk (T : TC W S) (scope : Scope) (own : List (Str × Nat)) (vl : List Nat) (gl : List Str) (tg : Expr) (ifs : List Expr) (elt : Expr) (enc : α → D) (enb : β → D) (xs : List α) (Γ : Ctx) (Ω : OCtx) (J : JE) : Prop := ∃ Pv : Nat → List β → OCtx → Prop, Pv 0 [] Ω ∧
  (∀ i x acc Ω, xs[i]? = some x → Pv i acc Ω → ∀ (T1 : TC W (blkS S scope own vl gl)) q, T1.G = T.G → WG T1 (wipeC Γ (own.map (·.2))) tg (enc x) fun Γ2 => ∀ (T2 : TC W (blkS S scope own vl gl)), T2.G = T.G → WF T2 Γ2 ifs ((q, oL enb acc) :: Ω) fun b Ω2 =>
    (b = true → ∀ (T3 : TC W (blkS S scope own vl gl)), T3.G = T.G → WV T3 Γ2 enb elt Ω2 fun y Ω3 => ∃ Ω4, Ω3 = (q, oL enb acc) :: Ω4 ∧ Pv (i + 1) (acc ++ [y]) Ω4) ∧ (b = false → ∃ Ω4, Ω2 = (q, oL enb acc) :: Ω4 ∧ Pv (i + 1) acc Ω4)) ∧
  ∀ acc Ω, Pv xs.length acc Ω → ∀ q, T.G.He q = none → J (.own q) ((q, oL enb acc) :: Ω)
def gB (X : Cx) (scope : Scope) (tg : Expr) : TG := fun v σ H Q => ∀ s H_ C cl fp, semG (X.blk s H_ scope (compEnvC scope cl C X.env) fp) tg v σ H Q
def tB (X : Cx) (scope : Scope) (ifs : List Expr) : TT := fun σ H Q => ∀ s H_ C cl fp, semF (X.blk s H_ scope (compEnvC scope cl C X.env) fp) ifs σ H Q
def eB (X : Cx) (scope : Scope) (elt : Expr) : TE := fun σ H Q => ∀ s H_ C cl fp, sem (X.blk s H_ scope (compEnvC scope cl C X.env) fp) elt σ H Q
theorem comp_core {scope : Scope} {own : List (Str × Nat)} {vl : List Nat} {gl : List Str} (hchk : compChk S scope own vl gl = true) {σ : L2.St} {H H0 : Hp} (hs0 : Hs W.K T.G Ω H0 H) (sl : Sl W.K Γ H0 σ)
    (h : WI T Γ tg enc it Ω fun xs Ω1 => xs.length ≤ sizeLine ∧ CompOk T scope own vl gl tg ifs elt enc enb xs Γ Ω1 J) :
    tLc (semI T.X tg it) (gB T.X scope tg) (tB T.X scope ifs) (eB T.X scope elt) (own.map (·.2)) σ H (QE W.K T.G J H0) := by
  refine .mk fun pins s I => ?_
  refine thn ((h σ H H0 hs0 sl).run pins s I) fun v s1 h1 => thn h1 fun itv s2 ⟨it', fp, tn, Jt, H1, e0, I2, tu, st, fk, H01, Ω1, xs, s1', hs1, wk, hz, Pv, p0, pt, pd⟩ => ⟨it', fp, tn, Jt, H1, e0, I2, tu, st, fk, ?_⟩
  intro Dl nD
  have lenz : ([] : List V).length ≤ sizeLine := Nat.zero_le _
  refine lc_it (g := gB T.X scope tg) (tt := tB T.X scope ifs) (te := eB T.X scope elt) (vs := own.map (·.2)) (σ := σ) (Qd := QE W.K T.G J H0 (.ref Dl)) wk (fun i H' => ∃ acc Ω' H0', Same H01 H0' ∧ Hs W.K T.G ((Dl, oL enb acc) :: Ω') H0' H' ∧ acc.length ≤ i ∧ Pv i acc Ω') ⟨[], Ω1, H01, Same.refl _, hs1.allocOwn nD (oL_ok lenz .nil), Nat.le_refl _, p0⟩ (fun i H' _ ⟨_, _, _, z1, z2, _⟩ => z1.trans z2.sub) ?_ ?_
  · rintro i v H' H'' hi ⟨acc, Ω', H0', z1, z2, z3, z4⟩ ⟨x, ex, gv⟩
    have key : ∃ H0'', Same H0' H0'' ∧ Hs W.K T.G ((Dl, oL enb acc) :: Ω') H0'' H'' ∧ Is W.K H0'' v (enc x) := by
      rcases gv with ⟨e1, r⟩ | ⟨q, o, n, e1, e2, r⟩
      · subst e1
        exact ⟨H0', Same.refl _, z2, r.mono z1⟩
      · subst e1 e2
        exact ⟨upd H0' q o, same_upd (z2.free0 n), z2.alloc n, r H0' z1 (z2.free0 n)⟩
    obtain ⟨H0'', y1, y2, y3⟩ := key
    have sl2 : Sl W.K (wipeC Γ (own.map (·.2))) H0'' (L2.wipe σ (own.map (·.2))) := ((sl.mono s1').mono (z1.trans y1)).wipe _
    intro sb Hb Cb clb fpb
    have tr := pt i x acc Ω' ex z4
    have g := tr (T.blk hchk sb Hb Cb clb fpb) Dl rfl (L2.wipe σ (own.map (·.2))) H'' H0'' v y2.sub sl2 y3
    refine .mk fun pins s u I r => ?_
    refine thn ((g).run pins s u I r) fun _ s' ⟨σ2, H2, I2, eH, eo, Γ2, sl3, q⟩ => ⟨σ2, H2, I2, wipe_same ?_ (fun j hj => eo j ?_), ?_⟩
    · have h1 := I2.len
      have h2 := I.len
      rw [wipe_length] at h2
      exact h1.trans h2.symm
    · have : ¬ j ∈ own.map (·.2) := hj
      simpa using this
    subst eH
    intro sb Hb Cb clb fpb
    refine .mk fun pins s I => ?_
    refine thn ((q (T.blk hchk sb Hb Cb clb fpb) rfl σ2 H2 H0'' y2 sl3).run pins s I) fun b s' ⟨H3, I3, H03, Ω2, w1, w2, w3, w4⟩ => ⟨H3, I3, ?_⟩
    cases b with
    | false =>
      obtain ⟨Ω4, e4, p4⟩ := w4 rfl
      subst e4
      exact ⟨acc, Ω4, H03, (z1.trans y1).trans w1, w2, by omega, p4⟩
    | true =>
      intro sb Hb Cb clb fpb
      refine .mk fun pins s I => ?_
      refine thn ((w3 rfl (T.blk hchk sb Hb Cb clb fpb) rfl σ2 H3 H03 w2 (sl3.mono w1)).run pins s I) fun u s' ⟨v4, H4, I4, rv4, H04, a4, Ω3, t1, t2, t3, y, ey, Ω4, e4, p4⟩ => ⟨v4, H4, I4, rv4, ?_⟩
      subst ey e4
      obtain ⟨ho, k1, k2⟩ := t2.at_ (i := 0) rfl
      obtain ⟨vs, rfl, lz, l⟩ := asL_oL k2
      have hl : vs.length = acc.length := by rw [l.length, List.length_map]
      have hi' : i < sizeLine := Nat.lt_of_lt_of_le hi hz
      have lt : vs.length < sizeLine := by omega
      refine ⟨vs, k1, lt, acc ++ [y], Ω4, H04, ((z1.trans y1).trans w1).trans t1, ?_, by simp; omega, p4⟩
      refine t2.write (i := 0) (od' := oL enb (acc ++ [y])) rfl (oL_ok (by simp; omega) ?_)
      rw [List.map_append]
      exact l.append (.cons t3 .nil)
  · rintro H' ⟨acc, Ω', H0', z1, z2, z3, z4⟩
    refine ⟨H0', .own Dl, _, s1'.trans z1, z2, rfl, pd acc Ω' z4 Dl ?_⟩
    exact hs1.free nD
/-- [elt for tg in it if ..], owned -/
theorem e_comp {scope : Scope} (own : List (Str × Nat)) (vl : List Nat) (gl : List Str) (hchk : compChk S scope own vl gl = true)
    (h : WI T Γ tg enc it Ω fun xs Ω1 => xs.length ≤ sizeLine ∧ CompOk T scope own vl gl tg ifs elt enc enb xs Γ Ω1 J) (hc : S.calm = true := by rfl)
    (hs : ∀ x, foldedSetIterable it T.X.env x = pure x := by intro _; rfl) : WE T Γ (.ListComp elt [⟨tg, it, ifs, 0⟩] scope pos) Ω J := fun σ H H0 hs0 sl => by
  have ok : BlkOk T.X.N T.X.env.scope scope own := by
    rw [T.hN, T.hsc]
    exact blkOk_by (Bool.and_eq_true_iff.mp hchk).1
  exact of_pe (pe_lc (tt := tB T.X scope ifs) (te := eB T.X scope elt) (g := gB T.X scope tg) (by rw [T.hc]; exact hc) (by rw [T.hN]; exact T.ok.nd) pi_sem ok (fun s H_ C cl fp => ⟨fun pins s1 σ H v u Q I r q => (q s H_ C cl fp).run pins s1 u I r⟩)
    (fun s H_ C cl fp => ⟨fun pins s1 σ H Q I q => (q s H_ C cl fp).run pins s1 I⟩) (fun s H_ C cl fp => ⟨fun pins s1 σ H Q I q => (q s H_ C cl fp).run pins s1 I⟩) hs) (comp_core hchk hs0 sl h)
theorem tLc_mono {X : Cx} {g : TG} {tt : TT} {te : TE} {vs : List Nat} {σ : L2.St} {H : Hp} {Q Q' : VK} (h : tLc (semI X tg it) g tt te vs σ H Q) (k : ∀ v H, Q v H → Q' v H) : tLc (semI X tg it) g tt te vs σ H Q' := .mk fun pins s I =>
  thn ((h).run pins s I) fun v s1 h1 => thn h1 fun itv s2 ⟨it', fp, tn, Jt, H1, e0, I2, tu, st, fk, q⟩ => ⟨it', fp, tn, Jt, H1, e0, I2, tu, st, fk, fun D n => by
    obtain ⟨W, w0, w1⟩ := q D n
    refine ⟨W, w0, fun i m H hw => ?_⟩
    rcases w1 i m H hw with ⟨a, b⟩ | z
    · exact .inl ⟨a, k _ _ b⟩
    · exact .inr z⟩
/-- y = [elt for tg in it if ..] on one line -/
theorem s_setC {Z : Dz} (i : Nat) {scope : Scope} {y : Str} {py spos : Pos} (own : List (Str × Nat)) (vl : List Nat) (gl : List Str) (hchk : compChk S scope own vl gl = true)
    (h : WI T Γ tg enc it Ω fun xs Ω1 => xs.length ≤ sizeLine ∧ CompOk T scope own vl gl tg ifs elt enc enb xs Γ Ω1 fun a Ω2 => Z.nx (Γ.set i (some a)) Ω2) (hc : S.calm = true := by rfl)
    (hN : S.N[i]? = some y := by rfl) (hv : S.sl.elem i = true := by rfl) (hyl : S.sc.names.lookup y = some .local := by rfl) (hl : (py.line == pos.line) = true := by rfl)
    (ha : (scope.names.any fun (n, k) => n == y && (k == .local || k == .cell)) = false := by decide +kernel)
    (hs : ∀ x, foldedSetIterable it T.X.env x = pure x := by intro _; rfl) : WS T Γ (.Assign [.Name y py] (.ListComp elt [⟨tg, it, ifs, 0⟩] scope pos) spos) Ω Z := fun σ H H0 hs0 sl => by
  have hn : T.X.N[i]? = some y := by rw [T.hN]; exact hN
  have hyl' : T.X.env.scope.names.lookup y = some .local := by rw [T.hsc]; exact hyl
  have ok : BlkOk T.X.N T.X.env.scope scope own := by
    rw [T.hN, T.hsc]
    exact blkOk_by (Bool.and_eq_true_iff.mp hchk).1
  refine of_ps (ps_setLc (i := i) (tt := tB T.X scope ifs) (te := eB T.X scope elt) (g := gB T.X scope tg) (by rw [T.hc]; exact hc) (by rw [T.hN]; exact T.ok.nd) hn hyl' (sw_true (by rw [T.hsc]; exact T.ok.kind) hyl' hl ha) pi_sem ok (fun s H_ C cl fp => ⟨fun pins s1 σ H v u Q I r q => (q s H_ C cl fp).run pins s1 u I r⟩)
    (fun s H_ C cl fp => ⟨fun pins s1 σ H Q I q => (q s H_ C cl fp).run pins s1 I⟩) (fun s H_ C cl fp => ⟨fun pins s1 σ H Q I q => (q s H_ C cl fp).run pins s1 I⟩) hs) ?_
  refine tLc_mono (comp_core hchk hs0 sl h) fun v H1 ⟨H01, a, Ω1, s1, hs1, ka, j⟩ => ?_
  exact ⟨_, Ω1, H01, s1, hs1, (sl.mono s1).set ka, j⟩
/-! ### mirrors of comprehensions -/
/-- with a state, an item kept or not -/
def compM {σ : Type} : List α → σ → (α → σ → M (Option β × σ)) → M (List β × σ)
  | [], s, _ => .ok ([], s)
  | x :: xs, s, f => M.bind (f x s) fun y => M.bind (compM xs y.2 f) fun z => .ok ((match y.1 with | some v => v :: z.1 | none => z.1), z.2)
theorem compM_acc {σ : Type} {xs : List α} {x : α} {s : σ} {f : α → σ → M (Option β × σ)} {acc : List β} {Φ : List β × σ → Prop} {Ψ : Exc → Prop} (h : Run (compM (x :: xs) s f) (fun z => Φ (acc ++ z.1, z.2)) Ψ) :
    Run (f x s) (fun y => Run (compM xs y.2 f) (fun z => Φ ((acc ++ y.1.toList) ++ z.1, z.2)) Ψ) Ψ := by
  have h1 := Run.bind h
  refine h1.mono (fun y q => ?_) fun _ z => z
  refine (Run.bind q).mono (fun z w => ?_) fun _ z => z
  have w' : Φ (acc ++ (match y.1 with | some v => v :: z.1 | none => z.1), z.2) := w.get
  cases e : y.1 with
  | none => rw [e] at w'; simpa using w'
  | some v => rw [e] at w'; simpa using w'
theorem CompOk.st {σ : Type} {scope : Scope} {own : List (Str × Nat)} {vl : List Nat} {gl : List Str} {xs : List α} {f : α → σ → M (Option β × σ)} {s0 : σ} {Φ : List β × σ → Prop} {Ψ : Exc → Prop} (ΩS : σ → OCtx) (hm : Run (compM xs s0 f) Φ Ψ) (o0 : Ω = ΩS s0)
    (hb : ∀ x s (Φ' : Option β × σ → Prop), x ∈ xs → Run (f x s) Φ' Ψ → ∀ (T1 : TC W (blkS S scope own vl gl)) q (o : OD), T1.G = T.G → WG T1 (wipeC Γ (own.map (·.2))) tg (enc x) fun Γ2 => ∀ (T2 : TC W (blkS S scope own vl gl)), T2.G = T.G → WF T2 Γ2 ifs ((q, o) :: ΩS s) fun b Ω2 =>
      (b = true → ∀ (T3 : TC W (blkS S scope own vl gl)), T3.G = T.G → WV T3 Γ2 enb elt Ω2 fun y Ω3 => ∃ s', Ω3 = (q, o) :: ΩS s' ∧ Φ' (some y, s')) ∧ (b = false → ∃ s', Ω2 = (q, o) :: ΩS s' ∧ Φ' (none, s')))
    (hd : ∀ ys s, Φ (ys, s) → ∀ q, T.G.He q = none → J (.own q) ((q, oL enb ys) :: ΩS s)) : CompOk T scope own vl gl tg ifs elt enc enb xs Γ Ω J := by
  refine ⟨fun i acc Ω => ∃ s, Ω = ΩS s ∧ Run (compM (xs.drop i) s f) (fun z => Φ (acc ++ z.1, z.2)) Ψ, ⟨s0, o0, hm⟩, ?_, ?_⟩
  · rintro i x acc Ω' ex ⟨s, rfl, r⟩ T1 q g1
    rw [drop_get ex] at r
    have g := hb x s _ (List.mem_of_getElem? ex) (compM_acc r) T1 q (oL enb acc) g1
    intro σ' H H0 v hs sl k
    refine .mk fun pins s1 u I rv => ?_
    refine thn ((g σ' H H0 v hs sl k).run pins s1 u I rv) fun _ s' ⟨σ2, H2, I2, eH, eo, Γ2, sl2, w⟩ => ⟨σ2, H2, I2, eH, eo, Γ2, sl2, fun T2 g2 σ3 H3 H03 hs3 sl3 => .mk fun pins s3 I3 => ?_⟩
    refine thn ((w T2 g2 σ3 H3 H03 hs3 sl3).run pins s3 I3) fun b s4 ⟨H4, I4, H04, Ω2, w1, w2, w3, w4⟩ => ⟨H4, I4, H04, Ω2, w1, w2, fun eb T3 g3 => ?_, fun eb => ?_⟩
    · refine (w3 eb T3 g3).imp fun y Ω3 ⟨s', e3, p⟩ => ⟨ΩS s', e3, s', rfl, ?_⟩
      simpa using p
    · obtain ⟨s', e3, p⟩ := w4 eb
      refine ⟨ΩS s', e3, s', rfl, ?_⟩
      simpa using p
  · rintro acc Ω' ⟨s, rfl, r⟩ q hq
    rw [List.drop_length] at r
    have r' : Φ (acc ++ [], s) := r.get
    rw [List.append_nil] at r'
    exact hd acc s r' q hq
/-- every item, no state -/
def mapM {β : Type} : List α → (α → M β) → M (List β)
  | [], _ => .ok []
  | x :: xs, f => M.bind (f x) fun y => M.bind (mapM xs f) fun ys => .ok (y :: ys)
/-- items that pass, no state -/
def filM {β : Type} : List α → (α → M (Option β)) → M (List β)
  | [], _ => .ok []
  | x :: xs, f => M.bind (f x) fun y => M.bind (filM xs f) fun ys => .ok (match y with | some v => v :: ys | none => ys)
theorem CompOk.filM {scope : Scope} {own : List (Str × Nat)} {vl : List Nat} {gl : List Str} {xs : List α} {f : α → M (Option β)} {Φ : List β → Prop} {Ψ : Exc → Prop} (hm : Run (filM xs f) Φ Ψ)
    (hb : ∀ x (Φ' : Option β → Prop), x ∈ xs → Run (f x) Φ' Ψ → ∀ (T1 : TC W (blkS S scope own vl gl)) q (o : OD), T1.G = T.G → WG T1 (wipeC Γ (own.map (·.2))) tg (enc x) fun Γ2 => ∀ (T2 : TC W (blkS S scope own vl gl)), T2.G = T.G → WF T2 Γ2 ifs ((q, o) :: Ω) fun b Ω2 =>
      (b = true → ∀ (T3 : TC W (blkS S scope own vl gl)), T3.G = T.G → WV T3 Γ2 enb elt Ω2 fun y Ω3 => Ω3 = (q, o) :: Ω ∧ Φ' (some y)) ∧ (b = false → Ω2 = (q, o) :: Ω ∧ Φ' none))
    (hd : ∀ ys, Φ ys → ∀ q, T.G.He q = none → J (.own q) ((q, oL enb ys) :: Ω)) : CompOk T scope own vl gl tg ifs elt enc enb xs Γ Ω J := by
  have key : ∀ (xs : List α) (Φ : List β → Prop), Run (Y.filM xs f) Φ Ψ → Run (compM xs () fun x _ => M.bind (f x) fun y => .ok (y, ())) (fun z => Φ z.1) Ψ := by
    intro xs
    induction xs with
    | nil => intro Φ h; exact .ok h.get
    | cons x xs ih =>
      intro Φ h
      refine Run.bind' (Run.bind' ((Run.bind h).mono (fun y q => .ok ?_) fun _ z => z))
      exact Run.bind' ((ih _ (Run.bindOk q)).mono (fun _ z => .ok z) fun _ z => z)
  refine CompOk.st (ΩS := fun _ : Unit => Ω) (key xs Φ hm) rfl (fun x s Φ' hx r T1 q o g1 => ?_) fun ys s p => hd ys p
  have g := hb x (fun y => Φ' (y, ())) hx (Run.bindOk r) T1 q o g1
  intro σ' H H0 v hs sl k
  refine .mk fun pins s1 u I rv => ?_
  refine thn ((g σ' H H0 v hs sl k).run pins s1 u I rv) fun _ s' ⟨σ2, H2, I2, eH, eo, Γ2, sl2, w⟩ => ⟨σ2, H2, I2, eH, eo, Γ2, sl2, fun T2 g2 σ3 H3 H03 hs3 sl3 => .mk fun pins s3 I3 => ?_⟩
  refine thn ((w T2 g2 σ3 H3 H03 hs3 sl3).run pins s3 I3) fun b s4 ⟨H4, I4, H04, Ω2, w1, w2, w3, w4⟩ => ⟨H4, I4, H04, Ω2, w1, w2, fun eb T3 g3 => ?_, fun eb => ⟨(), w4 eb⟩⟩
  exact (w3 eb T3 g3).imp fun y Ω3 p => ⟨(), p⟩
theorem CompOk.mapM {scope : Scope} {own : List (Str × Nat)} {vl : List Nat} {gl : List Str} {xs : List α} {f : α → M β} {Φ : List β → Prop} {Ψ : Exc → Prop} (hm : Run (mapM xs f) Φ Ψ)
    (hb : ∀ x (Φ' : β → Prop), x ∈ xs → Run (f x) Φ' Ψ → ∀ (T1 : TC W (blkS S scope own vl gl)) q (o : OD), T1.G = T.G → WG T1 (wipeC Γ (own.map (·.2))) tg (enc x) fun Γ2 =>
      ∀ (T3 : TC W (blkS S scope own vl gl)), T3.G = T.G → WV T3 Γ2 enb elt ((q, o) :: Ω) fun y Ω3 => Ω3 = (q, o) :: Ω ∧ Φ' y)
    (hd : ∀ ys, Φ ys → ∀ q, T.G.He q = none → J (.own q) ((q, oL enb ys) :: Ω)) : CompOk T scope own vl gl tg [] elt enc enb xs Γ Ω J := by
  have key : ∀ (xs : List α) (Φ : List β → Prop), Run (Y.mapM xs f) Φ Ψ → Run (Y.filM xs fun x => M.bind (f x) fun y => .ok (some y)) Φ Ψ := by
    intro xs
    induction xs with
    | nil => intro Φ h; exact .ok h.get
    | cons x xs ih =>
      intro Φ h
      refine Run.bind' (Run.bind' ((Run.bind h).mono (fun y q => .ok ?_) fun _ z => z))
      exact Run.bind' ((ih _ (Run.bindOk q)).mono (fun _ z => .ok z) fun _ z => z)
  refine CompOk.filM (key xs Φ hm) (fun x Φ' hx r T1 q o g1 => ?_) hd
  have g := hb x (fun y => Φ' (some y)) hx (Run.bindOk r) T1 q o g1
  intro σ' H H0 v hs sl k
  refine .mk fun pins s1 u I rv => ?_
  refine thn ((g σ' H H0 v hs sl k).run pins s1 u I rv) fun _ s' ⟨σ2, H2, I2, eH, eo, Γ2, sl2, w⟩ => ⟨σ2, H2, I2, eH, eo, Γ2, sl2, fun T2 g2 => ?_⟩
  exact f_nil ⟨fun _ T3 g3 => w T3 g3, fun z => nomatch z⟩
end
end Y
namespace Y
open PySem PySem.Spec PyProof.Rows L2
theorem ofString_inj {a b : String} (h : Str.ofString a = Str.ofString b) : a = b := by
  rw [Str.ofString_eq_toList, Str.ofString_eq_toList] at h
  injection h with h
  have h2 : a.toList.map Char.toNat = b.toList.map Char.toNat := by simpa using h
  have key : ∀ (l m : List Char), l.map Char.toNat = m.map Char.toNat → l = m := by
    intro l
    induction l with
    | nil => intro m e; cases m with
      | nil => rfl
      | cons c m => simp at e
    | cons c l ih => intro m e; cases m with
      | nil => simp at e
      | cons d m =>
        simp only [List.map_cons, List.cons.injEq] at e
        rw [Char.toNat_inj.mp e.1, ih m e.2]
  exact String.toList_inj.mp (key _ _ h2)
section
variable {W : Wd} {S : Sco} {T : TC W S} {Γ : Ctx} {Ω : OCtx} {J : JE} {JT : Bool → OCtx → Prop} {e a b c o : Expr} {es rest : List Expr} {pos p p2 apos cpos : Pos} {α β γ : Type} {enc : α → D} {enb : β → D}
theorem WT.imp {J' : Bool → OCtx → Prop} (h : WT T Γ e Ω JT) (k : ∀ a Ω', JT a Ω' → J' a Ω') : WT T Γ e Ω J' := fun σ H H0 hs sl =>
  semT_mono (h σ H H0 hs sl) fun _ _ ⟨H0', Ω', z, y, j⟩ => ⟨H0', Ω', z, y, k _ Ω' j⟩
/-! ### and, or, not -/
theorem t_w (h : WW T Γ e Ω JT) : WT T Γ e Ω JT := fun σ H H0 hs sl => .mk fun pins s I => (h σ H H0 hs sl).run _ pins s I
theorem w_and1 (h : WT T Γ a Ω JT) : WW T Γ (.BoolOp .And [a] pos) Ω JT := fun σ H H0 hs sl => of_pw (pw_and1 pt_sem) (h σ H H0 hs sl)
theorem w_or1 (h : WT T Γ a Ω JT) : WW T Γ (.BoolOp .Or [a] pos) Ω JT := fun σ H H0 hs sl => of_pw (pw_or1 pt_sem) (h σ H H0 hs sl)
theorem w_and (h : WT T Γ a Ω fun x Ω1 => (x = true → WW T Γ (.BoolOp .And (b :: rest) pos) Ω1 JT) ∧ (x = false → JT false Ω1)) : WW T Γ (.BoolOp .And (a :: b :: rest) pos) Ω JT := fun σ H H0 hs sl =>
  of_pw (pw_and pt_sem pw_sem) (semT_mono (h σ H H0 hs sl) fun x H1 ⟨H01, Ω1, s1, hs1, h1, h2⟩ => by
    cases x with
    | true => exact semW_mono (h1 rfl σ H1 H01 hs1 (sl.mono s1)) fun _ _ q => q.same s1
    | false => exact ⟨H01, Ω1, s1, hs1, h2 rfl⟩)
theorem w_or (h : WT T Γ a Ω fun x Ω1 => (x = false → WW T Γ (.BoolOp .Or (b :: rest) pos) Ω1 JT) ∧ (x = true → JT true Ω1)) : WW T Γ (.BoolOp .Or (a :: b :: rest) pos) Ω JT := fun σ H H0 hs sl =>
  of_pw (pw_or pt_sem pw_sem) (semT_mono (h σ H H0 hs sl) fun x H1 ⟨H01, Ω1, s1, hs1, h1, h2⟩ => by
    cases x with
    | false => exact semW_mono (h1 rfl σ H1 H01 hs1 (sl.mono s1)) fun _ _ q => q.same s1
    | true => exact ⟨H01, Ω1, s1, hs1, h2 rfl⟩)
/-- a pure test's value -/
abbrev PB (x : Bool) (Ω : OCtx) : Bool → OCtx → Prop := fun y Ω' => y = x ∧ Ω' = Ω
theorem t_pure {x : Bool} (h : WT T Γ e Ω (PB x Ω)) (k : JT x Ω) : WT T Γ e Ω JT := h.imp fun _ _ ⟨e1, e2⟩ => by rw [e1, e2]; exact k
theorem w_andP {x y : Bool} (h : WT T Γ a Ω (PB x Ω)) (h2 : x = true → WW T Γ (.BoolOp .And (b :: rest) pos) Ω (PB y Ω)) : WW T Γ (.BoolOp .And (a :: b :: rest) pos) Ω (PB (x && y) Ω) :=
  w_and (h.imp fun z Ω1 ⟨e1, e2⟩ => by
    subst e1 e2
    refine ⟨fun hx => ?_, fun hx => ⟨by rw [hx]; rfl, rfl⟩⟩
    have q := h2 hx
    rw [hx]
    exact q)
theorem w_orP {x y : Bool} (h : WT T Γ a Ω (PB x Ω)) (h2 : x = false → WW T Γ (.BoolOp .Or (b :: rest) pos) Ω (PB y Ω)) : WW T Γ (.BoolOp .Or (a :: b :: rest) pos) Ω (PB (x || y) Ω) :=
  w_or (h.imp fun z Ω1 ⟨e1, e2⟩ => by
    subst e1 e2
    refine ⟨fun hx => ?_, fun hx => ⟨by rw [hx]; rfl, rfl⟩⟩
    have q := h2 hx
    rw [hx]
    exact q)
theorem t_notP {x : Bool} (h : WT T Γ e Ω (PB x Ω)) : WT T Γ (.UnaryOp .Not e pos) Ω (PB (!x) Ω) := t_not (h.imp fun _ _ ⟨e1, e2⟩ => ⟨by rw [e1], e2⟩)
/-! as values -/
theorem v_one {J : Bool → OCtx → Prop} {op : BoolOp} (h : WV T Γ D.bl a Ω J) : WV T Γ D.bl (.BoolOp op [a] pos) Ω J := fun σ H H0 hs sl => of_pe (pe_one pe_sem) (h σ H H0 hs sl)
theorem v_and {J : Bool → OCtx → Prop} (h : WV T Γ D.bl a Ω fun x Ω1 => (x = true → WV T Γ D.bl (.BoolOp .And (b :: rest) pos) Ω1 J) ∧ (x = false → J false Ω1)) : WV T Γ D.bl (.BoolOp .And (a :: b :: rest) pos) Ω J := fun σ H H0 hs sl =>
  of_pe (pe_and pe_sem pe_sem) (sem_mono (h σ H H0 hs sl) fun v H1 ⟨H01, ax, Ω1, s1, hs1, ka, x, ex, h1, h2⟩ => by
    subst ex
    cases isB ka
    refine ⟨x, rfl, ?_⟩
    cases x with
    | true => exact sem_mono (h1 rfl σ H1 H01 hs1 (sl.mono s1)) fun _ _ q => q.same s1
    | false => exact ⟨H01, .dat (.bl false), Ω1, s1, hs1, Is.bl false, false, rfl, h2 rfl⟩)
theorem v_or {J : Bool → OCtx → Prop} (h : WV T Γ D.bl a Ω fun x Ω1 => (x = false → WV T Γ D.bl (.BoolOp .Or (b :: rest) pos) Ω1 J) ∧ (x = true → J true Ω1)) : WV T Γ D.bl (.BoolOp .Or (a :: b :: rest) pos) Ω J := fun σ H H0 hs sl =>
  of_pe (pe_or pe_sem pe_sem) (sem_mono (h σ H H0 hs sl) fun v H1 ⟨H01, ax, Ω1, s1, hs1, ka, x, ex, h1, h2⟩ => by
    subst ex
    cases isB ka
    refine ⟨x, rfl, ?_⟩
    cases x with
    | false => exact sem_mono (h1 rfl σ H1 H01 hs1 (sl.mono s1)) fun _ _ q => q.same s1
    | true => exact ⟨H01, .dat (.bl true), Ω1, s1, hs1, Is.bl true, true, rfl, h2 rfl⟩)
theorem v_not {J : Bool → OCtx → Prop} (h : WV T Γ D.bl e Ω fun x Ω1 => J (!x) Ω1) : WV T Γ D.bl (.UnaryOp .Not e pos) Ω J := fun σ H H0 hs sl =>
  of_pe (pe_not pe_sem) (sem_mono (h σ H H0 hs sl) fun v H1 ⟨H01, ax, Ω1, s1, hs1, ka, x, ex, h1⟩ => by
    subst ex
    cases isB ka
    exact ⟨x, rfl, H01, .dat (.bl (!x)), Ω1, s1, hs1, Is.bl _, _, rfl, h1⟩)
abbrev PV {α : Type} (x : α) (Ω : OCtx) : α → OCtx → Prop := fun y Ω' => y = x ∧ Ω' = Ω
theorem v_pure {J : α → OCtx → Prop} {x : α} (h : WV T Γ enc e Ω (PV x Ω)) (k : J x Ω) : WV T Γ enc e Ω J := h.imp fun _ _ ⟨e1, e2⟩ => by rw [e1, e2]; exact k
theorem v_andP {x y : Bool} (h : WV T Γ D.bl a Ω (PV x Ω)) (h2 : x = true → WV T Γ D.bl (.BoolOp .And (b :: rest) pos) Ω (PV y Ω)) : WV T Γ D.bl (.BoolOp .And (a :: b :: rest) pos) Ω (PV (x && y) Ω) :=
  v_and (h.imp fun z Ω1 ⟨e1, e2⟩ => by
    subst e1 e2
    refine ⟨fun hx => ?_, fun hx => ⟨by rw [hx]; rfl, rfl⟩⟩
    have q := h2 hx
    rw [hx]
    exact q)
theorem v_orP {x y : Bool} (h : WV T Γ D.bl a Ω (PV x Ω)) (h2 : x = false → WV T Γ D.bl (.BoolOp .Or (b :: rest) pos) Ω (PV y Ω)) : WV T Γ D.bl (.BoolOp .Or (a :: b :: rest) pos) Ω (PV (x || y) Ω) :=
  v_or (h.imp fun z Ω1 ⟨e1, e2⟩ => by
    subst e1 e2
    refine ⟨fun hx => ?_, fun hx => ⟨by rw [hx]; rfl, rfl⟩⟩
    have q := h2 hx
    rw [hx]
    exact q)
/-- a test as a value: not of anything that is a test -/
theorem v_ifExp {J : α → OCtx → Prop} (h : WT T Γ c Ω fun x Ω1 => (x = true → WV T Γ enc a Ω1 J) ∧ (x = false → WV T Γ enc b Ω1 J)) : WV T Γ enc (.IfExp c a b pos) Ω J := fun σ H H0 hs sl =>
  of_pe (pe_ifExp pt_sem pe_sem pe_sem) (semT_mono (h σ H H0 hs sl) fun x H1 ⟨H01, Ω1, s1, hs1, h1, h2⟩ => by
    cases x with
    | true => exact sem_mono (h1 rfl σ H1 H01 hs1 (sl.mono s1)) fun _ _ q => q.same s1
    | false => exact sem_mono (h2 rfl σ H1 H01 hs1 (sl.mono s1)) fun _ _ q => q.same s1)
/-! ### two comparisons of ints in a chain -/
theorem chain_go {op op' : CmpOp} {f g : Int → Int → Bool} {J : Bool → OCtx → Prop} {σ : L2.St} {H H0 : Hp} (hs : Hs W.K T.G Ω H0 H) (sl : Sl W.K Γ H0 σ)
    (h : WV T Γ D.int a Ω fun i Ω1 => WV T Γ D.int b Ω1 fun j Ω2 => ∃ k, WV T Γ D.int c Ω2 (PV k Ω2) ∧ J (f i j && g j k) Ω2) :
    tChain (rI0 fun i j => .bl (f i j)) (rI0 fun i j => .bl (g i j)) (sem T.X a) (sem T.X b) (sem T.X c) σ H (QE W.K T.G (fun a Ω' => ∃ x, a = .dat (.bl x) ∧ J x Ω') H0) := by
  refine sem_mono (h σ H H0 hs sl) fun v H1 ⟨H01, ax, Ω1, s1, hs1, ka, i, ei, h1⟩ => ?_
  subst ei
  cases isI ka
  refine sem_mono (h1 σ H1 H01 hs1 (sl.mono s1)) fun u H2 ⟨H02, ax, Ω2, s2, hs2, ka, j, ej, k, hc, q⟩ => ?_
  subst ej
  cases isI ka
  refine ⟨i, j, rfl, rfl, f i j, rfl, ?_⟩
  cases e : f i j with
  | false =>
    rw [e] at q
    exact ⟨H02, .dat (.bl false), Ω2, s1.trans s2, hs2, Is.bl false, false, rfl, q⟩
  | true =>
    rw [e] at q
    refine sem_mono (hc σ H2 H02 hs2 ((sl.mono s1).mono s2)) fun w H3 ⟨H03, ax, Ω3, s3, hs3, ka, k', ek, e1, e2⟩ => ?_
    subst ek e1 e2
    cases isI ka
    exact ⟨j, k', rfl, rfl, H03, .dat (.bl (g j k')), _, (s1.trans s2).trans s3, hs3, Is.bl _, _, rfl, q⟩
theorem v_chain {op op' : CmpOp} {f g : Int → Int → Bool} {J : Bool → OCtx → Prop} (ho : ∀ X : Cx, OpR X (compareOp op) (rI0 fun i j => .bl (f i j))) (ho' : ∀ X : Cx, OpR X (compareOp op') (rI0 fun i j => .bl (g i j)))
    (h : WV T Γ D.int a Ω fun i Ω1 => WV T Γ D.int b Ω1 fun j Ω2 => ∃ k, WV T Γ D.int c Ω2 (PV k Ω2) ∧ J (f i j && g j k) Ω2) (hm : lastMarks [op, op'] [b, c] = false := by with_unfolding_all rfl) :
    WV T Γ D.bl (.Compare a [op, op'] [b, c] pos) Ω J := fun σ H H0 hs sl => of_pe (pe_chain (ho T.X) (ho' T.X) pe_sem pe_sem pe_sem hm) (chain_go (op := op) (op' := op') hs sl h)
theorem t_chain {op op' : CmpOp} {f g : Int → Int → Bool} (ho : ∀ X : Cx, OpR X (compareOp op) (rI0 fun i j => .bl (f i j))) (ho' : ∀ X : Cx, OpR X (compareOp op') (rI0 fun i j => .bl (g i j)))
    (h : WV T Γ D.int a Ω fun i Ω1 => WV T Γ D.int b Ω1 fun j Ω2 => ∃ k, WV T Γ D.int c Ω2 (PV k Ω2) ∧ JT (f i j && g j k) Ω2) (hm : lastMarks [op, op'] [b, c] = false := by with_unfolding_all rfl) :
    WT T Γ (.Compare a [op, op'] [b, c] pos) Ω JT := fun σ H H0 hs sl => by
  refine of_pt (pt_chain (ho T.X) (ho' T.X) pe_sem pe_sem pe_sem hm) ?_
  have q := chain_go (op := op) (op' := op') (J := JT) hs sl h
  refine sem_mono q fun v H1 q1 => sem_mono q1 ?_
  rintro u H2 ⟨i, j, e1, e2, k, ek, q2⟩
  refine ⟨i, j, e1, e2, k, ek, ?_⟩
  cases k with
  | true =>
    refine sem_mono q2 ?_
    rintro w H3 ⟨i, j, e1, e2, H03, ax, Ω3, s3, hs3, ka, x, ex, jj⟩
    subst ex
    exact ⟨i, j, e1, e2, x, isB ka, H03, Ω3, s3, hs3, jj⟩
  | false =>
    obtain ⟨H03, ax, Ω3, s3, hs3, ka, x, ex, jj⟩ := q2
    subst ex
    exact ⟨x, isB ka, H03, Ω3, s3, hs3, jj⟩
end
end Y
namespace Y
open PySem PySem.Spec PyProof.Rows L2
section
variable {W : Wd} {S : Sco} {T : TC W S} {Γ : Ctx} {Ω : OCtx} {J : JE} {e a b c o : Expr} {es rest : List Expr} {pos p p2 apos cpos : Pos} {α β γ : Type} {enc : α → D} {enb : β → D}
theorem TC.rm (T : TC W S) (hc : S.calm = true) : Room S.lv T.X.A := T.room hc
theorem TC.calm (T : TC W S) (hc : S.calm = true) : T.X.calm = true := T.hc.trans hc
/-! ### is None -/
/-- is None, by the data -/
def isNon : D → Bool
  | .non => true
  | _ => false
theorem isNon_ok {K : PySem.W.Frag} {H : Hp} {v : V} {d : D} (h : Is K H v d) : decide (v = .non) = isNon d := by
  cases h <;> rfl
theorem c_isD {J : Bool → OCtx → Prop} {j : Nat} {pos' : Pos} (h : WV T Γ enc a Ω fun x Ω1 => J (isNon (enc x)) Ω1) : WC T Γ .Is a (.Constant .none j pos') Ω J := fun σ H H0 hs sl =>
  of_op op_isN (sem_mono (h σ H H0 hs sl) fun v H1 ⟨H01, ax, Ω1, s1, hs1, ka, x, ex, h1⟩ => by
    subst ex
    refine of_pe pe_non ?_
    exact ⟨rfl, H01, .dat (.bl _), Ω1, s1, hs1, Is.bl _, _, rfl, by rw [isNon_ok ka]; exact h1⟩)
theorem c_notD {J : Bool → OCtx → Prop} {j : Nat} {pos' : Pos} (h : WV T Γ enc a Ω fun x Ω1 => J (!isNon (enc x)) Ω1) : WC T Γ .IsNot a (.Constant .none j pos') Ω J := fun σ H H0 hs sl =>
  of_op op_notN (sem_mono (h σ H H0 hs sl) fun v H1 ⟨H01, ax, Ω1, s1, hs1, ka, x, ex, h1⟩ => by
    subst ex
    refine of_pe pe_non ?_
    exact ⟨rfl, H01, .dat (.bl _), Ω1, s1, hs1, Is.bl _, _, rfl, by rw [isNon_ok ka]; exact h1⟩)
theorem isNon_dO (he : ∀ x, isNon (enc x) = false) (x : Option α) : isNon (dO enc x) = x.isNone := by
  cases x with
  | none => rfl
  | some x => exact he x
/-- an optional value: x is None -/
theorem c_isN {J : Bool → OCtx → Prop} {j : Nat} {pos' : Pos} (h : WV T Γ (dO enc) a Ω fun x Ω1 => J x.isNone Ω1) (he : ∀ x, isNon (enc x) = false := by intro _; rfl) : WC T Γ .Is a (.Constant .none j pos') Ω J :=
  c_isD (h.imp fun x Ω1 j => by rw [isNon_dO he]; exact j)
theorem c_notN {J : Bool → OCtx → Prop} {j : Nat} {pos' : Pos} (h : WV T Γ (dO enc) a Ω fun x Ω1 => J x.isSome Ω1) (he : ∀ x, isNon (enc x) = false := by intro _; rfl) : WC T Γ .IsNot a (.Constant .none j pos') Ω J :=
  c_notD (h.imp fun x Ω1 j => by
    rw [isNon_dO he]
    cases x <;> exact j)
/-- a plain value as an optional one; None as an optional one -/
theorem v_some {J : Option α → OCtx → Prop} (h : WV T Γ enc e Ω fun x Ω1 => J (some x) Ω1) : WV T Γ (dO enc) e Ω J := WE.imp h fun _ _ ⟨x, e, j⟩ => ⟨some x, e, j⟩
theorem v_none {J : Option α → OCtx → Prop} {j : Nat} (k : J none Ω) : WV T Γ (dO enc) (.Constant .none j pos) Ω J := WE.imp (v_non (T := T) (Γ := Γ) (J := fun _ Ω' => J none Ω') k) fun _ _ ⟨x, e, j⟩ => ⟨none, e, j⟩
/-- an optional value that is known to be one -/
theorem v_get {J : α → OCtx → Prop} {Ψ : Exc → Prop} (h : WV T Γ (dO enc) e Ω fun x Ω1 => ∃ y, x = some y ∧ J y Ω1) : WV T Γ enc e Ω J := WE.imp h fun _ _ ⟨x, e, y, ey, j⟩ => ⟨y, by rw [e, ey]; rfl, j⟩
/-- seen as another type whose data is the same -/
theorem v_as {J : β → OCtx → Prop} (h : WV T Γ enc e Ω fun x Ω1 => ∃ y, enc x = enb y ∧ J y Ω1) : WV T Γ enb e Ω J := WE.imp h fun _ _ ⟨x, e, y, ey, j⟩ => ⟨y, by rw [e, ey], j⟩

/-! ### texts -/
def addS (x y : Str) : M Str := chk (decide (x.length + y.length ≤ sizeLine)) (.ok (x ++ y))
theorem v_addS {J : Str → OCtx → Prop} {Ψ : Exc → Prop} (h : WV T Γ D.str a Ω fun i Ω1 => WV T Γ D.str b Ω1 fun j Ω2 => Run (addS i j) (fun k => J k Ω2) Ψ) : WV T Γ D.str (.BinOp a .Add b pos) Ω J := fun σ H H0 hs sl =>
  of_pe (pe_op op_add_str pe_sem pe_sem) (two hs sl h fun x y v u H2 H02 Ω2 j s hs2 r1 r2 => by
    cases isS r1
    cases isS r2
    obtain ⟨h1, h2⟩ := chk_ok j
    exact ⟨x, y, rfl, rfl, of_decide_eq_true h1, .mk s hs2 (.str _) h2⟩)
/-- s[i], 0 ≤ i < len -/
def sixM (z : Str) (i : Int) : M Str := chk (decide (0 ≤ i ∧ i < 2 ^ 63)) (match z.cps[i.toNat]? with | some c => .ok ⟨#[c]⟩ | none => .stuck)
theorem v_six {J : Str → OCtx → Prop} {Ψ : Exc → Prop} (h : WV T Γ D.str a Ω fun z Ω1 => WV T Γ D.int b Ω1 fun i Ω2 => Run (sixM z i) (fun x => J x Ω2) Ψ) (hs : PlainIxT b := by exact fun _ _ => rfl) : WV T Γ D.str (.Subscript a b pos) Ω J := fun σ H H0 hs0 sl =>
  of_pe (pe_item_str pe_sem pe_sem hs) (two hs0 sl h fun z i v u H2 H02 Ω2 j s hs2 r1 r2 => by
    cases isS r1
    cases isI r2
    obtain ⟨h1, h2⟩ := Run.chk j
    obtain ⟨h3, h4⟩ := of_decide_eq_true h1
    cases hq : z.cps[i.toNat]? with
    | none => rw [hq] at h2; exact h2.no.elim
    | some c =>
      rw [hq] at h2
      have hl : i.toNat < z.length := (Array.getElem?_eq_some_iff.mp hq).1
      exact ⟨z, i, c, rfl, rfl, h3, h4, by omega, hq, .mk s hs2 (.str _) h2.get⟩)
def inS (i j : Str) : Bool := !(Builtin.Str.occurrences j i 0 j.length 1).isEmpty
theorem c_inS {J : Bool → OCtx → Prop} (h : WV T Γ D.str a Ω fun i Ω1 => WV T Γ D.str b Ω1 fun j Ω2 => J (inS i j) Ω2) : WC T Γ .In a b Ω J := fun σ H H0 hs sl =>
  of_op op_in_str (two hs sl h fun x y v u H2 H02 Ω2 j s hs2 r1 r2 => by
    cases isS r1
    cases isS r2
    exact ⟨x, y, rfl, rfl, .mk s hs2 (.bl _) j⟩)
theorem c_ninS {J : Bool → OCtx → Prop} (h : WV T Γ D.str a Ω fun i Ω1 => WV T Γ D.str b Ω1 fun j Ω2 => J (!inS i j) Ω2) : WC T Γ .NotIn a b Ω J := fun σ H H0 hs sl =>
  of_op op_notin_str (two hs sl h fun x y v u H2 H02 Ω2 j s hs2 r1 r2 => by
    cases isS r1
    cases isS r2
    exact ⟨x, y, rfl, rfl, .mk s hs2 (.bl _) j⟩)
theorem c_eqS {J : Bool → OCtx → Prop} (h : WV T Γ D.str a Ω fun i Ω1 => WV T Γ D.str b Ω1 fun j Ω2 => J (decide (i = j)) Ω2) : WC T Γ .Eq a b Ω J := fun σ H H0 hs sl =>
  of_op op_eq (two hs sl h fun x y v u H2 H02 Ω2 j s hs2 r1 r2 => by
    cases isS r1
    cases isS r2
    refine ⟨rfl, .mk s hs2 (.bl _) ?_⟩
    have : decide (V.str x = V.str y) = decide (x = y) := by simp
    rw [this]
    exact j)
theorem c_neS {J : Bool → OCtx → Prop} (h : WV T Γ D.str a Ω fun i Ω1 => WV T Γ D.str b Ω1 fun j Ω2 => J (!decide (i = j)) Ω2) : WC T Γ .NotEq a b Ω J := fun σ H H0 hs sl =>
  of_op op_ne (two hs sl h fun x y v u H2 H02 Ω2 j s hs2 r1 r2 => by
    cases isS r1
    cases isS r2
    refine ⟨rfl, .mk s hs2 (.bl _) ?_⟩
    have : decide (V.str x = V.str y) = decide (x = y) := by simp
    rw [this]
    exact j)
theorem c_eqB {J : Bool → OCtx → Prop} (h : WV T Γ D.bl a Ω fun i Ω1 => WV T Γ D.bl b Ω1 fun j Ω2 => J (decide (i = j)) Ω2) : WC T Γ .Eq a b Ω J := fun σ H H0 hs sl =>
  of_op op_eq (two hs sl h fun x y v u H2 H02 Ω2 j s hs2 r1 r2 => by
    cases isB r1
    cases isB r2
    refine ⟨rfl, .mk s hs2 (.bl _) ?_⟩
    have : decide (V.bl x = V.bl y) = decide (x = y) := by simp
    rw [this]
    exact j)
theorem c_neB {J : Bool → OCtx → Prop} (h : WV T Γ D.bl a Ω fun i Ω1 => WV T Γ D.bl b Ω1 fun j Ω2 => J (!decide (i = j)) Ω2) : WC T Γ .NotEq a b Ω J := fun σ H H0 hs sl =>
  of_op op_ne (two hs sl h fun x y v u H2 H02 Ω2 j s hs2 r1 r2 => by
    cases isB r1
    cases isB r2
    refine ⟨rfl, .mk s hs2 (.bl _) ?_⟩
    have : decide (V.bl x = V.bl y) = decide (x = y) := by simp
    rw [this]
    exact j)
/-! slices: parts -/
/-- a part of a slice -/
def semO (X : Cx) (e : Option Expr) : TO := fun σ H Q => Hd (∀ pins s, Inv X pins σ H s → wpAny (model X.prog X.w) X.A (evalPart e X.env) (fun u s' => ∃ o H', Inv X pins σ H' s' ∧ IsPart u o ∧ Q o H') X.xe s)
theorem po_sem {X : Cx} {e : Option Expr} : PO X e (semO X e) := ⟨fun pins s _ _ _ I h => h.run pins s I⟩
theorem of_po {X : Cx} {e : Option Expr} {t : TO} (h : PO X e t) {σ : L2.St} {H : Hp} {Q : Option Int → Hp → Prop} (q : t σ H Q) : semO X e σ H Q := ⟨fun pins s I => h.run pins s σ H Q I q⟩
def WP (T : TC W S) (Γ : Ctx) (e : Option Expr) (Ω : OCtx) (J : Option Int → OCtx → Prop) : Prop := ∀ σ H H0, Hs W.K T.G Ω H0 H → Sl W.K Γ H0 σ → semO T.X e σ H fun o H' => ∃ H0' Ω', Same H0 H0' ∧ Hs W.K T.G Ω' H0' H' ∧ J o Ω'
theorem p_none {J : Option Int → OCtx → Prop} (k : J none Ω) : WP T Γ none Ω J := fun σ H H0 hs sl => of_po po_none ⟨H0, Ω, Same.refl _, hs, k⟩
theorem p_some {J : Option Int → OCtx → Prop} (h : WV T Γ D.int e Ω fun i Ω1 => J (some i) Ω1) : WP T Γ (some e) Ω J := fun σ H H0 hs sl =>
  of_po (po_some pe_sem) (sem_mono (h σ H H0 hs sl) fun v H1 ⟨H01, ax, Ω1, s1, hs1, ka, i, ei, j⟩ => by
    subst ei
    exact ⟨i, isI ka, H01, Ω1, s1, hs1, j⟩)
theorem semO_mono {X : Cx} {e : Option Expr} {σ : L2.St} {H : Hp} {Q Q' : Option Int → Hp → Prop} (h : semO X e σ H Q) (k : ∀ v H', Q v H' → Q' v H') : semO X e σ H Q' :=
  .mk fun pins s I => thn ((h).run pins s I) fun _ _ ⟨v, H', a, b, c⟩ => ⟨v, H', a, b, k v H' c⟩
def sliS (z : Str) (lo hi : Option Int) : M Str := chk (decide (z.length ≤ sizeLine)) (.ok (cutS z lo hi))
theorem v_sliS {J : Str → OCtx → Prop} {Ψ : Exc → Prop} {lo hi : Option Expr} (h : WV T Γ D.str e Ω fun z Ω1 => WP T Γ lo Ω1 fun l Ω2 => WP T Γ hi Ω2 fun u Ω3 => Run (sliS z l u) (fun x => J x Ω3) Ψ) :
    WV T Γ D.str (.Subscript e (.Slice lo hi none p2) pos) Ω J := fun σ H H0 hs sl =>
  of_pe (pe_slice sl_str pe_sem po_sem po_sem) (sem_mono (h σ H H0 hs sl) fun v H1 ⟨H01, ax, Ω1, s1, hs1, ka, z, ez, h1⟩ => by
    subst ez
    cases isS ka
    refine semO_mono (h1 σ H1 H01 hs1 (sl.mono s1)) fun l H2 ⟨H02, Ω2, s2, hs2, h2⟩ => ?_
    refine semO_mono (h2 σ H2 H02 hs2 ((sl.mono s1).mono s2)) fun u H3 ⟨H03, Ω3, s3, hs3, h3⟩ => ?_
    obtain ⟨q1, q2⟩ := chk_ok h3
    exact ⟨z, rfl, of_decide_eq_true q1, .mk ((s1.trans s2).trans s3) hs3 (.str _) q2⟩)
/-- s.find(t) -/
theorem v_find {J : Int → OCtx → Prop} (h : WV T Γ D.str o Ω fun x Ω1 => WV T Γ D.str e Ω1 fun y Ω2 => J (Txt.find x y) Ω2)
    (hs : starEach [e] T.X.env = [(false, eval e T.X.env)] := by rfl) (hbase : attributeBase o ("find" : Str) T.X.env (eval o T.X.env) = eval o T.X.env := by rfl) (hline : (apos.endLine == pos.line) = true := by rfl) :
    WV T Γ D.int (.Call (.Attribute o ("find" : Str) apos) [e] [] pos) Ω J := fun σ H H0 hs0 sl =>
  of_pe (pe_m1 F.slot_str_find F.type_str_find mt_find pe_sem pe_sem hs hbase hline) (sem_mono (h σ H H0 hs0 sl) fun v H1 ⟨H01, ax, Ω1, s1, hs1, ka, x, ex, h1⟩ => by
    subst ex
    cases isS ka
    refine ⟨⟨x, rfl⟩, sem_mono (h1 σ H1 H01 hs1 (sl.mono s1)) fun u H2 ⟨H02, ay, Ω2, s2, hs2, kb, y, ey, j⟩ => ?_⟩
    subst ey
    cases isS kb
    exact ⟨x, y, rfl, rfl, .mk (s1.trans s2) hs2 (.int _) j⟩)

/-! ### new lists -/
/-- makes a new list -/
def WN (T : TC W S) (Γ : Ctx) (enc : α → D) (e : Expr) (Ω : OCtx) (J : List α → OCtx → Prop) : Prop := WE T Γ e Ω fun a Ω' => ∃ q xs Ω1, a = .own q ∧ T.G.He q = none ∧ Ω' = (q, oL enc xs) :: Ω1 ∧ J xs Ω1
theorem n_o {J : JE} (h : WN T Γ enc e Ω fun xs Ω1 => ∀ q, T.G.He q = none → J (.own q) ((q, oL enc xs) :: Ω1)) : WE T Γ e Ω J := WE.imp h fun a Ω' ⟨q, xs, Ω1, e1, e2, e3, j⟩ => by
  subst e1 e3
  exact j q e2
theorem Hs.freeze0 {K : PySem.W.Frag} {G : En} {Ω : OCtx} {H0 H : Hp} {q : Addr} {xs : List α} (h : Hs K G ((q, oL enc xs) :: Ω) H0 H) (hn : G.He q = none) : ∃ H0', Same H0 H0' ∧ Hs K G Ω H0' H ∧ Is K H0' (.ref q) (dL enc xs) := by
  have hi : ((q, oL enc xs) :: Ω)[0]? = some (q, oL enc xs) := rfl
  obtain ⟨ho, e, k⟩ := h.at_ hi
  obtain ⟨vs, rfl, z, l⟩ := asL_oL k
  have n0 := (h.own q _ (List.mem_of_getElem? hi)).2.1
  exact ⟨_, same_upd n0, h.freeze hi e hn, .lst z upd_same (l.mono (same_upd n0))⟩
theorem n_v {J : List α → OCtx → Prop} (h : WN T Γ enc e Ω J) : WV T Γ (dL enc) e Ω J := fun σ H H0 hs sl => sem_mono (h σ H H0 hs sl) fun v H1 ⟨H01, a, Ω1, s1, hs1, ka, q, xs, Ω2, e1, e2, e3, j⟩ => by
  subst e1 e3
  obtain ⟨H02, s2, hs2, r⟩ := hs1.freeze0 e2
  cases (show v = .ref q from ka)
  exact ⟨H02, .dat (dL enc xs), Ω2, s1.trans s2, hs2, r, xs, rfl, j⟩
theorem WN.imp {J J' : List α → OCtx → Prop} (h : WN T Γ enc e Ω J) (k : ∀ a Ω', J a Ω' → J' a Ω') : WN T Γ enc e Ω J' := WE.imp h fun _ _ ⟨q, xs, Ω1, e1, e2, e3, j⟩ => ⟨q, xs, Ω1, e1, e2, e3, k _ _ j⟩
/-- [a, b, ..] -/
theorem n_lst {J : List α → OCtx → Prop} (xs : List α) (h : WA T Γ es Ω fun as Ω1 => ∃ xs : List α, as = xs.map (fun x => As.dat (enc x)) ∧ xs.length ≤ sizeLine ∧ J xs Ω1) : WN T Γ enc (.List es pos) Ω J := fun σ H H0 hs sl => by
  refine of_pe (pe_lst pa_sem) (semA_mono (h σ H H0 hs sl) fun vs H1 ⟨H01, as, Ω1, s1, hs1, ka, xs, e1, hl, j⟩ => ?_)
  have l : IsL W.K H01 vs (xs.map enc) := ka.dats (by rw [e1, List.map_map]; rfl)
  have lz : vs.length ≤ sizeLine := by rw [l.length, List.length_map]; exact hl
  exact ⟨lz, fun q n => .newO s1 hs1 n (oL_ok lz l) ⟨q, xs, Ω1, rfl, hs1.free n, rfl, j⟩⟩
/-- a rule's new list -/
theorem QE.newN {K : PySem.W.Frag} {Ω : OCtx} {H0 H01 H1 : Hp} {J : List α → OCtx → Prop} {q : Addr} {vs : List V} {xs : List α} (s : Same H0 H01) (hs : Hs K T.G Ω H01 H1) (n : H1 q = none) (z : vs.length ≤ sizeLine) (l : IsL K H01 vs (xs.map enc)) (j : J xs Ω) :
    QE K T.G (fun a Ω' => ∃ q xs Ω1, a = .own q ∧ T.G.He q = none ∧ Ω' = (q, oL enc xs) :: Ω1 ∧ J xs Ω1) H0 (.ref q) (upd H1 q (.lst vs)) :=
  .newO s hs n (oL_ok z l) ⟨q, xs, Ω, rfl, hs.free n, rfl, j⟩
/-- xs + ys -/
def catM (xs ys : List α) : M (List α) := chk (decide (xs.length + ys.length ≤ sizeLine)) (.ok (xs ++ ys))
/-- a list as such: it stands, or is owned -/
def LstAs (e : α → D) (xs : List α) (Ω : OCtx) (a : As) : Prop := a = .dat (.lst (xs.map e)) ∨ ∃ (p : Addr) (i : Nat), a = .own p ∧ Ω[i]? = some (p, oL e xs)
theorem LstAs.get {K : PySem.W.Frag} {G : En} {Ω : OCtx} {H0 H : Hp} {xs : List α} {a : As} {v : V} (h : LstAs enc xs Ω a) (hs : Hs K G Ω H0 H) (k : AsOk K H0 a v) : ∃ p vs, v = .ref p ∧ vs.length ≤ sizeLine ∧ H p = some (.lst vs) ∧ IsL K H0 vs (xs.map enc) := by
  rcases h with rfl | ⟨p, i, rfl, q⟩
  · cases k with
    | lst z h l => exact ⟨_, _, rfl, z, hs.sub _ _ h, l⟩
  · obtain ⟨ho, h1, h2⟩ := hs.at_ q
    obtain ⟨vs, rfl, z, l⟩ := asL_oL h2
    exact ⟨p, vs, k, z, h1, l⟩
def WX (T : TC W S) (Γ : Ctx) (enc : α → D) (e : Expr) (Ω : OCtx) (J : List α → OCtx → Prop) : Prop := WE T Γ e Ω fun a Ω' => ∃ xs, LstAs enc xs Ω' a ∧ J xs Ω'
theorem x_v {J : List α → OCtx → Prop} (h : WV T Γ (dL enc) e Ω J) : WX T Γ enc e Ω J := WE.imp h fun _ _ ⟨xs, e, j⟩ => ⟨xs, .inl e, j⟩
theorem x_own {J : List α → OCtx → Prop} (i j : Nat) {x : Str} {q : Addr} {xs : List α} (hΓ : Γ[i]? = some (some (.own q))) (hΩ : Ω[j]? = some (q, oL enc xs)) (k : J xs Ω) (hN : S.N[i]? = some x := by rfl) (hv : S.vl.elem i = true := by rfl) :
    WX T Γ enc (.Name x pos) Ω J := e_var i hN hv hΓ ⟨xs, .inr ⟨q, j, rfl, hΩ⟩, k⟩
/-- xs + ys: both must stand still while both are read -/
theorem n_cat {J : List α → OCtx → Prop} {Ψ : Exc → Prop} (h : WX T Γ enc a Ω fun xs Ω1 => WX T Γ enc b Ω1 fun ys Ω2 => Ω2 = Ω1 ∧ Run (catM xs ys) (fun zs => J zs Ω2) Ψ) : WN T Γ enc (.BinOp a .Add b pos) Ω J := fun σ H H0 hs sl =>
  of_pe (pe_op op_cat pe_sem pe_sem) (sem_mono (h σ H H0 hs sl) fun v H1 ⟨H01, ax, Ω1, s1, hs1, ka, xs, lx, h1⟩ => sem_mono (h1 σ H1 H01 hs1 (sl.mono s1)) fun u H2 ⟨H02, ay, Ω2, s2, hs2, kb, ys, ly, eΩ, hr⟩ => by
    subst eΩ
    obtain ⟨p, vs, rfl, z1, e1, l1⟩ := lx.get hs2 (ka.mono s2)
    obtain ⟨q, us, rfl, z2, e2, l2⟩ := ly.get hs2 kb
    obtain ⟨h3, h4⟩ := chk_ok hr
    have h3 := of_decide_eq_true h3
    have n1 : vs.length = xs.length := by rw [l1.length, List.length_map]
    have n2 : us.length = ys.length := by rw [l2.length, List.length_map]
    exact ⟨p, q, vs, us, rfl, rfl, e1, e2, by omega, fun r n => .newN (s1.trans s2) hs2 n (by rw [List.length_append]; omega) (by rw [List.map_append]; exact l1.append l2) h4⟩)
/-- [x] * n -/
def repM (xs : List α) (k : Int) : M (List α) := chk (decide (-(2 ^ 63) ≤ k ∧ k < 2 ^ 63 ∧ xs.length * k.toNat ≤ sizeLine)) (.ok (List.replicate k.toNat xs).flatten)
theorem IsL.rep {K : PySem.W.Frag} {H : Hp} {vs : List V} {ds : List D} (l : IsL K H vs ds) : ∀ n : Nat, IsL K H (List.replicate n vs).flatten (List.replicate n ds).flatten
  | 0 => .nil
  | n + 1 => by
    rw [List.replicate_succ, List.replicate_succ, List.flatten_cons, List.flatten_cons]
    exact l.append (IsL.rep l n)
theorem map_rep (xs : List α) (n : Nat) : ((List.replicate n xs).flatten).map enc = (List.replicate n (xs.map enc)).flatten := by
  induction n with
  | zero => rfl
  | succ n ih => rw [List.replicate_succ, List.replicate_succ, List.flatten_cons, List.flatten_cons, List.map_append, ih]
theorem len_rep {α : Type} (xs : List α) (n : Nat) : ((List.replicate n xs).flatten).length = n * xs.length := by
  induction n with
  | zero => simp
  | succ n ih => rw [List.replicate_succ, List.flatten_cons, List.length_append, ih, Nat.succ_mul]; omega
theorem n_rep {J : List α → OCtx → Prop} {Ψ : Exc → Prop} (h : WX T Γ enc a Ω fun xs Ω1 => WV T Γ D.int b Ω1 fun k Ω2 => Ω2 = Ω1 ∧ Run (repM xs k) (fun zs => J zs Ω2) Ψ) : WN T Γ enc (.BinOp a .Mult b pos) Ω J := fun σ H H0 hs sl =>
  of_pe (pe_op op_rep pe_sem pe_sem) (sem_mono (h σ H H0 hs sl) fun v H1 ⟨H01, ax, Ω1, s1, hs1, ka, xs, lx, h1⟩ => sem_mono (h1 σ H1 H01 hs1 (sl.mono s1)) fun u H2 ⟨H02, ay, Ω2, s2, hs2, kb, k, ek, eΩ, hr⟩ => by
    subst eΩ ek
    cases isI kb
    obtain ⟨p, vs, rfl, z1, e1, l1⟩ := lx.get hs2 (ka.mono s2)
    obtain ⟨h3, h4⟩ := chk_ok hr
    obtain ⟨g1, g2, g3⟩ := of_decide_eq_true h3
    have n1 : vs.length = xs.length := by rw [l1.length, List.length_map]
    exact ⟨p, k, vs, rfl, rfl, e1, g1, g2, by rw [n1]; exact g3, fun r n => .newN (s1.trans s2) hs2 n (by rw [len_rep, n1, Nat.mul_comm]; exact g3) (by rw [map_rep]; exact l1.rep _) h4⟩)
/-- xs[lo:hi] of a list -/
def cutL (xs : List α) (lo hi : Option Int) : List α := (xs.drop (HT.sIx xs.length 0 lo)).take (HT.sIx xs.length xs.length hi - HT.sIx xs.length 0 lo)
theorem cutL_map (xs : List α) (lo hi : Option Int) : (cutL xs lo hi).map enc = cutL (xs.map enc) lo hi := by
  unfold cutL
  rw [List.map_take, List.map_drop, List.length_map]
theorem cutV_is {K : PySem.W.Frag} {H : Hp} {vs : List V} {ds : List D} (l : IsL K H vs ds) (lo hi : Option Int) : IsL K H (cutV vs lo hi) (cutL ds lo hi) := by
  unfold cutV cutL
  rw [l.length]
  exact (l.drop _).take _
theorem n_sli {J : List α → OCtx → Prop} {lo hi : Option Expr} (h : WL T Γ enc e Ω fun xs Ω1 => WP T Γ lo Ω1 fun l Ω2 => WP T Γ hi Ω2 fun u Ω3 => Ω3 = Ω1 ∧ J (cutL xs l u) Ω3) :
    WN T Γ enc (.Subscript e (.Slice lo hi none p2) pos) Ω J := fun σ H H0 hs sl =>
  of_pe (pe_slice sl_list pe_sem po_sem po_sem) (sem_mono (h σ H H0 hs sl) fun v H1 ⟨H01, ax, Ω1, s1, hs1, ka, xs, lx, h1⟩ => by
    refine semO_mono (h1 σ H1 H01 hs1 (sl.mono s1)) fun l H2 ⟨H02, Ω2, s2, hs2, h2⟩ => ?_
    refine semO_mono (h2 σ H2 H02 hs2 ((sl.mono s1).mono s2)) fun u H3 ⟨H03, Ω3, s3, hs3, eΩ, j⟩ => ?_
    subst eΩ
    obtain ⟨p, vs, rfl, z1, e1, l1⟩ := lx.get hs3 ((ka.mono s2).mono s3)
    refine ⟨p, vs, rfl, by rw [T.K]; exact e1, fun r n => .newN ((s1.trans s2).trans s3) hs3 n (Nat.le_trans (cutV_length vs l u) z1) (by rw [cutL_map]; exact cutV_is l1 l u) j⟩)
theorem boot_list' : bootBuiltins "list" = some (.type "list") := by decide +kernel
theorem boot_tuple' : bootBuiltins "tuple" = some (.type "tuple") := by decide +kernel
/-- list(xs) -/
theorem n_list {J : List α → OCtx → Prop} (i : Nat) (hm : W.mg "list" = none) (h : WQ T Γ enc e Ω J) (hg : S.gl[i]? = some ("list" : Str) := by rfl)
    (he : starEach (e :: []) T.X.env = (false, eval e T.X.env) :: starEach [] T.X.env := by rfl) : WN T Γ enc (.Call (.Name "list" p) [e] [] pos) Ω J :=
  one_t call_list_of hg hm boot_list' h (fun σ a Ω1 v H1 H01 H0 s1 hs1 sl ka ⟨xs, sq, j⟩ => by
    obtain ⟨q, vs, rfl, lz, c, l⟩ := SqAny.get sq hs1 ka
    exact ⟨q, vs, rfl, by rw [T.K]; exact c, fun r n => .newN s1 hs1 n lz l j⟩) he
/-- tuple(xs) -/
theorem v_tupOf {J : List α → OCtx → Prop} (i : Nat) (hm : W.mg "tuple" = none) (h : WQ T Γ enc e Ω J) (hg : S.gl[i]? = some ("tuple" : Str) := by rfl)
    (he : starEach (e :: []) T.X.env = (false, eval e T.X.env) :: starEach [] T.X.env := by rfl) : WV T Γ (dU enc) (.Call (.Name "tuple" p) [e] [] pos) Ω J :=
  one_t call_tuple_of hg hm boot_tuple' h (fun σ a Ω1 v H1 H01 H0 s1 hs1 sl ka ⟨xs, sq, j⟩ => by
    rcases sq with sq | rfl
    · obtain ⟨q, vs, rfl, lz, c, l⟩ := SqLst.get sq hs1 ka
      exact ⟨q, vs, rfl, .inl ⟨by rw [T.K]; exact c, fun r n => .new s1 hs1 n (is_tup (hs1.free0 n) lz l) ⟨xs, rfl, j⟩⟩⟩
    · have ka2 := ka
      cases ka with
      | tup z h l => exact ⟨_, _, rfl, .inr ⟨by rw [T.K]; exact SameT hs1.sub h, .mk (enc := dU enc) s1 hs1 ka2 j⟩⟩) he
/-- [elt for tg in it if ..] -/
theorem n_comp {J : List β → OCtx → Prop} {it elt tg : Expr} {ifs : List Expr} {scope : Scope} (own : List (Str × Nat)) (vl : List Nat) (gl : List Str) (hchk : compChk S scope own vl gl = true)
    (h : WI T Γ tg enc it Ω fun xs Ω1 => xs.length ≤ sizeLine ∧ CompOk T scope own vl gl tg ifs elt enc enb xs Γ Ω1 fun a Ω' => ∃ q ys Ω1, a = .own q ∧ T.G.He q = none ∧ Ω' = (q, oL enb ys) :: Ω1 ∧ J ys Ω1) (hc : S.calm = true := by rfl) (hs : ∀ x, foldedSetIterable it T.X.env x = pure x := by intro _; rfl) :
    WN T Γ enb (.ListComp elt [⟨tg, it, ifs, 0⟩] scope pos) Ω J := e_comp own vl gl hchk h hc hs
end
end Y
namespace Y
open PySem PySem.Spec PyProof.Rows L2
/-! ### data as the library's data -/
mutual
def pyD : D → PyData
  | .non => .none
  | .bl b => .bool b
  | .int i => .int i
  | .str x => .str x
  | .tup ds => .tuple (pyDs ds)
  | .lst ds => .list (pyDs ds)
  | .sqs ds => .list (pyDs ds)
  | .dic _ => .none
  | .obj _ _ => .none
def pyDs : List D → List PyData
  | [] => []
  | d :: ds => pyD d :: pyDs ds
end
mutual
def dataB : D → Bool
  | .tup ds => dataBs ds
  | .lst ds => dataBs ds
  | .sqs ds => dataBs ds
  | .dic _ => false
  | .obj _ _ => false
  | .non => true
  | .bl _ => true
  | .int _ => true
  | .str _ => true
def dataBs : List D → Bool
  | [] => true
  | d :: ds => dataB d && dataBs ds
end
mutual
theorem Is.dp {K : PySem.W.Frag} {H H' : Hp} (s : Same H H') : ∀ {v : V} {d : D}, Is K H v d → dataB d = true → Dp K H' v (pyD d)
  | _, _, .non, _ => .non
  | _, _, .bl b, _ => .bl b
  | _, _, .int i, _ => .int i
  | _, _, .str x, _ => .str x
  | _, _, .lst z h l, q => .lst (SqL.of (s _ _ h)) (IsL.dp s l q)
  | _, _, .sqs z h l, q => .lst (s.seq h) (IsL.dp s l q)
  | _, _, .tup z h l, q => .tup (SameT s h) (IsL.dp s l q)
  | _, _, .dk h l, q => absurd q (by simp [dataB])
  | _, _, .dt h l, q => absurd q (by simp [dataB])
  | _, _, .obj h l, q => absurd q (by simp [dataB])
theorem IsL.dp {K : PySem.W.Frag} {H H' : Hp} (s : Same H H') : ∀ {v : List V} {d : List D}, IsL K H v d → dataBs d = true → DpAll K H' v (pyDs d)
  | _, _, .nil, _ => .nil
  | _, _, .cons h l, q => by
    have q' := Bool.and_eq_true_iff.mp (show (dataB _ && dataBs _) = true from q)
    exact .cons (Is.dp s h q'.1) (IsL.dp s l q'.2)
end
/-- of the kind that == takes -/
def shD (d : D) : Bool := dataB d && SeqAt.shaped (pyD d)
def eqD (d e : D) : M Bool := chk (shD d && shD e) (.ok (PyData.eqv (pyD d) (pyD e)))
/-- a value as the library's data, whatever holds it -/
def DtAs (d : D) (Ω : OCtx) (a : As) : Prop := a = .dat d ∨ ∃ (p : Addr) (i : Nat) (ds : List D), a = .own p ∧ Ω[i]? = some (p, .lst (ds.map .dat)) ∧ d = .lst ds
theorem DtAs.get {K : PySem.W.Frag} {G : En} {Ω : OCtx} {H0 H : Hp} {d : D} {a : As} {v : V} (h : DtAs d Ω a) (hs : Hs K G Ω H0 H) (k : AsOk K H0 a v) (hd : dataB d = true) : Dp K H v (pyD d) := by
  rcases h with rfl | ⟨p, i, ds, rfl, q, rfl⟩
  · exact Is.dp hs.sub k hd
  · obtain ⟨ho, h1, h2⟩ := hs.at_ q
    obtain ⟨vs, rfl, z, l⟩ := h2
    cases (show v = .ref p from k)
    exact .lst (SqL.of h1) (IsL.dp hs.sub (AsL.dat l) hd)
section
variable {W : Wd} {S : Sco} {T : TC W S} {Γ : Ctx} {Ω : OCtx} {J : JE} {e a b c o : Expr} {es rest : List Expr} {pos p p2 apos cpos : Pos} {α β γ : Type} {enc : α → D} {enb : β → D}
def WD (T : TC W S) (Γ : Ctx) (e : Expr) (Ω : OCtx) (J : D → OCtx → Prop) : Prop := WE T Γ e Ω fun a Ω' => ∃ d, DtAs d Ω' a ∧ J d Ω'
theorem d_v {J : D → OCtx → Prop} (h : WV T Γ enc e Ω fun x Ω1 => J (enc x) Ω1) : WD T Γ e Ω J := WE.imp h fun _ _ ⟨x, e, j⟩ => ⟨enc x, .inl e, j⟩
theorem d_own {J : D → OCtx → Prop} (i j : Nat) {x : Str} {q : Addr} {xs : List α} (hΓ : Γ[i]? = some (some (.own q))) (hΩ : Ω[j]? = some (q, oL enc xs)) (k : J (dL enc xs) Ω) (hN : S.N[i]? = some x := by rfl) (hv : S.vl.elem i = true := by rfl) :
    WD T Γ (.Name x pos) Ω J := e_var i hN hv hΓ ⟨_, .inr ⟨q, j, xs.map enc, rfl, by rw [hΩ, List.map_map]; rfl, rfl⟩, k⟩
theorem chk_and {b b' : Bool} {x : α} {Φ : α → Prop} {Ψ : Exc → Prop} (h : Run (chk (b && b') (.ok x)) Φ Ψ) : b = true ∧ b' = true ∧ Φ x := by
  obtain ⟨h1, h2⟩ := chk_ok h
  exact ⟨(Bool.and_eq_true_iff.mp h1).1, (Bool.and_eq_true_iff.mp h1).2, h2⟩
theorem c_eqD {J : Bool → OCtx → Prop} {Ψ : Exc → Prop} (h : WD T Γ a Ω fun d Ω1 => WD T Γ b Ω1 fun e Ω2 => Ω2 = Ω1 ∧ Run (eqD d e) (fun x => J x Ω2) Ψ) (hc : S.calm = true := by rfl) : WC T Γ .Eq a b Ω J := fun σ H H0 hs sl =>
  of_op (op_eqD (T.rm hc).units) (sem_mono (h σ H H0 hs sl) fun v H1 ⟨H01, ax, Ω1, s1, hs1, ka, d, dx, h1⟩ => sem_mono (h1 σ H1 H01 hs1 (sl.mono s1)) fun u H2 ⟨H02, ay, Ω2, s2, hs2, kb, e, dy, eΩ, hr⟩ => by
    subst eΩ
    obtain ⟨h3, h4, h5⟩ := chk_and hr
    have h3 := Bool.and_eq_true_iff.mp h3
    have h4 := Bool.and_eq_true_iff.mp h4
    exact ⟨_, _, by rw [T.K]; exact dx.get hs2 (ka.mono s2) h3.1, by rw [T.K]; exact dy.get hs2 kb h4.1, h3.2, h4.2, .mk (s1.trans s2) hs2 (.bl _) h5⟩)
theorem c_neD {J : Bool → OCtx → Prop} {Ψ : Exc → Prop} (h : WD T Γ a Ω fun d Ω1 => WD T Γ b Ω1 fun e Ω2 => Ω2 = Ω1 ∧ Run (eqD d e) (fun x => J (!x) Ω2) Ψ) (hc : S.calm = true := by rfl) : WC T Γ .NotEq a b Ω J := fun σ H H0 hs sl =>
  of_op (op_neD (T.rm hc).units) (sem_mono (h σ H H0 hs sl) fun v H1 ⟨H01, ax, Ω1, s1, hs1, ka, d, dx, h1⟩ => sem_mono (h1 σ H1 H01 hs1 (sl.mono s1)) fun u H2 ⟨H02, ay, Ω2, s2, hs2, kb, e, dy, eΩ, hr⟩ => by
    subst eΩ
    obtain ⟨h3, h4, h5⟩ := chk_and hr
    have h3 := Bool.and_eq_true_iff.mp h3
    have h4 := Bool.and_eq_true_iff.mp h4
    exact ⟨_, _, by rw [T.K]; exact dx.get hs2 (ka.mono s2) h3.1, by rw [T.K]; exact dy.get hs2 kb h4.1, h3.2, h4.2, .mk (s1.trans s2) hs2 (.bl _) h5⟩)
/-! ### x in xs -/
theorem any_int (x : Int) (xs : List Int) : inV (.int x) (xs.map V.int) = decide (x ∈ xs) := by
  unfold inV
  induction xs with
  | nil => simp
  | cons y ys ih =>
    rw [List.map_cons, List.any_cons, ih]
    show ((y == x) || decide (x ∈ ys)) = decide (x ∈ y :: ys)
    by_cases h : x = y
    · subst h; simp
    · have : (y == x) = false := by simpa using fun z : y = x => h z.symm
      rw [this]
      simp [h]
theorem any_str (x : Str) (xs : List Str) : inV (.str x) (xs.map V.str) = decide (x ∈ xs) := by
  unfold inV
  induction xs with
  | nil => simp
  | cons y ys ih =>
    rw [List.map_cons, List.any_cons, ih]
    show ((y == x) || decide (x ∈ ys)) = decide (x ∈ y :: ys)
    by_cases h : x = y
    · subst h; simp
    · have : (y == x) = false := by simpa using fun z : y = x => h z.symm
      rw [this]
      simp [h]
theorem flat_ints (xs : List Int) : (xs.map V.int).all flatV = true := by simp [flatV]
theorem flat_strs' (xs : List Str) : (xs.map V.str).all flatV = true := by simp [flatV]
theorem inI_go {J : Bool → OCtx → Prop} {op : CmpOp} {neg : Bool} (ho : OpR T.X (compareOp op) (rIn T.X.K neg)) (h : WV T Γ D.int a Ω fun x Ω1 => WQ T Γ D.int b Ω1 fun xs Ω2 => J (if neg then !decide (x ∈ xs) else decide (x ∈ xs)) Ω2) : WC T Γ op a b Ω J := fun σ H H0 hs sl =>
  of_op ho (sem_mono (h σ H H0 hs sl) fun v H1 ⟨H01, ax, Ω1, s1, hs1, ka, x, ex, h1⟩ => sem_mono (h1 σ H1 H01 hs1 (sl.mono s1)) fun u H2 ⟨H02, ay, Ω2, s2, hs2, kb, xs, sq, j⟩ => by
    subst ex
    cases isI ka
    obtain ⟨q, vs, rfl, lz, c, l⟩ := SqAny.get sq hs2 kb
    obtain rfl := l.ints
    exact ⟨q, _, rfl, by rw [T.K]; exact c, rfl, flat_ints xs, .mk (enc := D.bl) (s1.trans s2) hs2 (by rw [any_int]; exact .bl _) j⟩)
theorem inS_go {J : Bool → OCtx → Prop} {op : CmpOp} {neg : Bool} (ho : OpR T.X (compareOp op) (rIn T.X.K neg)) (h : WV T Γ D.str a Ω fun x Ω1 => WQ T Γ D.str b Ω1 fun xs Ω2 => J (if neg then !decide (x ∈ xs) else decide (x ∈ xs)) Ω2) : WC T Γ op a b Ω J := fun σ H H0 hs sl =>
  of_op ho (sem_mono (h σ H H0 hs sl) fun v H1 ⟨H01, ax, Ω1, s1, hs1, ka, x, ex, h1⟩ => sem_mono (h1 σ H1 H01 hs1 (sl.mono s1)) fun u H2 ⟨H02, ay, Ω2, s2, hs2, kb, xs, sq, j⟩ => by
    subst ex
    cases isS ka
    obtain ⟨q, vs, rfl, lz, c, l⟩ := SqAny.get sq hs2 kb
    obtain rfl := l.strs
    exact ⟨q, _, rfl, by rw [T.K]; exact c, rfl, flat_strs' xs, .mk (enc := D.bl) (s1.trans s2) hs2 (by rw [any_str]; exact .bl _) j⟩)
theorem c_inI {J : Bool → OCtx → Prop} (h : WV T Γ D.int a Ω fun x Ω1 => WQ T Γ D.int b Ω1 fun xs Ω2 => J (decide (x ∈ xs)) Ω2) : WC T Γ .In a b Ω J := inI_go (neg := false) op_in_seq h
theorem c_ninI {J : Bool → OCtx → Prop} (h : WV T Γ D.int a Ω fun x Ω1 => WQ T Γ D.int b Ω1 fun xs Ω2 => J (!decide (x ∈ xs)) Ω2) : WC T Γ .NotIn a b Ω J := inI_go (neg := true) op_notIn_seq h
theorem c_inQS {J : Bool → OCtx → Prop} (h : WV T Γ D.str a Ω fun x Ω1 => WQ T Γ D.str b Ω1 fun xs Ω2 => J (decide (x ∈ xs)) Ω2) : WC T Γ .In a b Ω J := inS_go (neg := false) op_in_seq h
theorem c_ninQS {J : Bool → OCtx → Prop} (h : WV T Γ D.str a Ω fun x Ω1 => WQ T Γ D.str b Ω1 fun xs Ω2 => J (!decide (x ∈ xs)) Ω2) : WC T Γ .NotIn a b Ω J := inS_go (neg := true) op_notIn_seq h
/-- x in a list, any data -/
def inDM (d : D) (ds : List D) : M Bool := chk (shD d && shD (.lst ds)) (.ok ((pyDs ds).any fun z => PyData.eqv z (pyD d)))
theorem c_inD {J : Bool → OCtx → Prop} {Ψ : Exc → Prop} (h : WV T Γ enc a Ω fun x Ω1 => WX T Γ enb b Ω1 fun xs Ω2 => Run (inDM (enc x) (xs.map enb)) (fun r => J r Ω2) Ψ) (hc : S.calm = true := by rfl) : WC T Γ .In a b Ω J := fun σ H H0 hs sl =>
  of_op (op_inD (by have := (T.rm hc).un; omega)) (sem_mono (h σ H H0 hs sl) fun v H1 ⟨H01, ax, Ω1, s1, hs1, ka, x, ex, h1⟩ => sem_mono (h1 σ H1 H01 hs1 (sl.mono s1)) fun u H2 ⟨H02, ay, Ω2, s2, hs2, kb, xs, lx, hr⟩ => by
    subst ex
    obtain ⟨h3, h4, h5⟩ := chk_and hr
    have h3 := Bool.and_eq_true_iff.mp h3
    have h4 := Bool.and_eq_true_iff.mp h4
    obtain ⟨q, vs, rfl, lz, hq, l⟩ := lx.get hs2 kb
    have h41 : dataBs (xs.map enb) = true := h4.1
    exact ⟨_, _, by rw [T.K]; exact Is.dp hs2.sub (Is.mono s2 ka) h3.1, by rw [T.K]; exact .lst (SqL.of hq) (IsL.dp hs2.sub l h41), h3.2, h4.2, .mk (s1.trans s2) hs2 (.bl _) h5⟩)

/-! ### built-ins of a list -/
theorem v_sum {J : Int → OCtx → Prop} (i : Nat) (hm : W.mg "sum" = none) (h : WL T Γ D.int e Ω fun xs Ω1 => J xs.sum Ω1) (hc : S.calm = true := by rfl) (hg : S.gl[i]? = some ("sum" : Str) := by rfl)
    (he : starEach (e :: []) T.X.env = (false, eval e T.X.env) :: starEach [] T.X.env := by rfl) : WV T Γ D.int (.Call (.Name "sum" p) [e] [] pos) Ω J :=
  one_b (cr_sum (T.calm hc)) hg hm boot_sum h (fun σ a Ω1 v H1 H01 H0 s1 hs1 sl ka ⟨xs, sq, j⟩ => by
    obtain ⟨q, vs, rfl, lz, c, l⟩ := SqLst.get sq hs1 ka
    obtain rfl := l.ints
    exact ⟨q, xs, rfl, by rw [T.K]; exact c, .mk (enc := D.int) s1 hs1 (.int _) j⟩) he
theorem v_all {J : Bool → OCtx → Prop} (i : Nat) (hm : W.mg "all" = none) (h : WL T Γ D.bl e Ω fun xs Ω1 => J (xs.all id) Ω1) (hc : S.calm = true := by rfl) (hg : S.gl[i]? = some ("all" : Str) := by rfl)
    (he : starEach (e :: []) T.X.env = (false, eval e T.X.env) :: starEach [] T.X.env := by rfl) : WV T Γ D.bl (.Call (.Name "all" p) [e] [] pos) Ω J :=
  one_b (cr_all (T.calm hc)) hg hm boot_all h (fun σ a Ω1 v H1 H01 H0 s1 hs1 sl ka ⟨xs, sq, j⟩ => by
    obtain ⟨q, vs, rfl, lz, c, l⟩ := SqLst.get sq hs1 ka
    obtain rfl := l.bls
    exact ⟨q, xs, rfl, by rw [T.K]; exact c, .mk (enc := D.bl) s1 hs1 (.bl _) j⟩) he
theorem v_any {J : Bool → OCtx → Prop} (i : Nat) (hm : W.mg "any" = none) (h : WL T Γ D.bl e Ω fun xs Ω1 => J (xs.any id) Ω1) (hc : S.calm = true := by rfl) (hg : S.gl[i]? = some ("any" : Str) := by rfl)
    (he : starEach (e :: []) T.X.env = (false, eval e T.X.env) :: starEach [] T.X.env := by rfl) : WV T Γ D.bl (.Call (.Name "any" p) [e] [] pos) Ω J :=
  one_b (cr_any (T.calm hc)) hg hm boot_any h (fun σ a Ω1 v H1 H01 H0 s1 hs1 sl ka ⟨xs, sq, j⟩ => by
    obtain ⟨q, vs, rfl, lz, c, l⟩ := SqLst.get sq hs1 ka
    obtain rfl := l.bls
    exact ⟨q, xs, rfl, by rw [T.K]; exact c, .mk (enc := D.bl) s1 hs1 (.bl _) j⟩) he
def maxL : List Int → Int
  | [] => 0
  | x :: xs => xs.foldl max x
def minL : List Int → Int
  | [] => 0
  | x :: xs => xs.foldl min x
theorem foldl_max_le (xs : List Int) : ∀ a, a ≤ xs.foldl max a ∧ ∀ y ∈ xs, y ≤ xs.foldl max a := by
  induction xs with
  | nil => intro a; exact ⟨Int.le_refl _, by simp⟩
  | cons x xs ih =>
    intro a
    obtain ⟨h1, h2⟩ := ih (max a x)
    refine ⟨Int.le_trans (Int.le_max_left a x) h1, fun y hy => ?_⟩
    rcases List.mem_cons.mp hy with rfl | hy
    · exact Int.le_trans (Int.le_max_right a y) h1
    · exact h2 y hy
theorem foldl_max_mem (xs : List Int) : ∀ a, xs.foldl max a = a ∨ xs.foldl max a ∈ xs := by
  induction xs with
  | nil => intro a; exact .inl rfl
  | cons x xs ih =>
    intro a
    rcases ih (max a x) with h | h
    · rw [List.foldl_cons, h]
      by_cases q : a ≤ x
      · exact .inr (by rw [Int.max_eq_right q]; simp)
      · exact .inl (Int.max_eq_left (by omega))
    · exact .inr (List.mem_cons_of_mem _ h)
theorem foldl_min_le (xs : List Int) : ∀ a, xs.foldl min a ≤ a ∧ ∀ y ∈ xs, xs.foldl min a ≤ y := by
  induction xs with
  | nil => intro a; exact ⟨Int.le_refl _, by simp⟩
  | cons x xs ih =>
    intro a
    obtain ⟨h1, h2⟩ := ih (min a x)
    refine ⟨Int.le_trans h1 (Int.min_le_left a x), fun y hy => ?_⟩
    rcases List.mem_cons.mp hy with rfl | hy
    · exact Int.le_trans h1 (Int.min_le_right a y)
    · exact h2 y hy
theorem foldl_min_mem (xs : List Int) : ∀ a, xs.foldl min a = a ∨ xs.foldl min a ∈ xs := by
  induction xs with
  | nil => intro a; exact .inl rfl
  | cons x xs ih =>
    intro a
    rcases ih (min a x) with h | h
    · rw [List.foldl_cons, h]
      by_cases q : a ≤ x
      · exact .inl (Int.min_eq_left q)
      · exact .inr (by rw [Int.min_eq_right (by omega)]; simp)
    · exact .inr (List.mem_cons_of_mem _ h)
theorem maxL_mem {xs : List Int} (h : xs ≠ []) : maxL xs ∈ xs ∧ ∀ y ∈ xs, y ≤ maxL xs := by
  cases xs with
  | nil => exact absurd rfl h
  | cons x xs =>
    obtain ⟨h1, h2⟩ := foldl_max_le xs x
    refine ⟨?_, fun y hy => ?_⟩
    · rcases foldl_max_mem xs x with q | q
      · show xs.foldl max x ∈ _
        rw [q]
        exact List.mem_cons_self ..
      · exact List.mem_cons_of_mem _ q
    · rcases List.mem_cons.mp hy with rfl | hy
      · exact h1
      · exact h2 y hy
theorem minL_mem {xs : List Int} (h : xs ≠ []) : minL xs ∈ xs ∧ ∀ y ∈ xs, minL xs ≤ y := by
  cases xs with
  | nil => exact absurd rfl h
  | cons x xs =>
    obtain ⟨h1, h2⟩ := foldl_min_le xs x
    refine ⟨?_, fun y hy => ?_⟩
    · rcases foldl_min_mem xs x with q | q
      · show xs.foldl min x ∈ _
        rw [q]
        exact List.mem_cons_self ..
      · exact List.mem_cons_of_mem _ q
    · rcases List.mem_cons.mp hy with rfl | hy
      · exact h1
      · exact h2 y hy
theorem maxL_uniq {xs : List Int} {m : Int} (h1 : m ∈ xs) (h2 : ∀ y ∈ xs, y ≤ m) : maxL xs = m := by
  have h : xs ≠ [] := fun z => by subst z; simp at h1
  obtain ⟨a, b⟩ := maxL_mem h
  have := h2 _ a
  have := b _ h1
  omega
theorem minL_uniq {xs : List Int} {m : Int} (h1 : m ∈ xs) (h2 : ∀ y ∈ xs, m ≤ y) : minL xs = m := by
  have h : xs ≠ [] := fun z => by subst z; simp at h1
  obtain ⟨a, b⟩ := minL_mem h
  have := h2 _ a
  have := b _ h1
  omega
def maxM (xs : List Int) : M Int := chk (decide (0 < xs.length)) (.ok (maxL xs))
def minM (xs : List Int) : M Int := chk (decide (0 < xs.length)) (.ok (minL xs))
theorem v_maxL {J : Int → OCtx → Prop} {Ψ : Exc → Prop} (i : Nat) (hm : W.mg "max" = none) (h : WL T Γ D.int e Ω fun xs Ω1 => Run (maxM xs) (fun r => J r Ω1) Ψ) (hc : S.calm = true := by rfl) (hg : S.gl[i]? = some ("max" : Str) := by rfl)
    (he : starEach (e :: []) T.X.env = (false, eval e T.X.env) :: starEach [] T.X.env := by rfl) : WV T Γ D.int (.Call (.Name "max" p) [e] [] pos) Ω J :=
  one_b (cr_max (T.calm hc)) hg hm boot_max h (fun σ a Ω1 v H1 H01 H0 s1 hs1 sl ka ⟨xs, sq, hr⟩ => by
    obtain ⟨q, vs, rfl, lz, c, l⟩ := SqLst.get sq hs1 ka
    obtain rfl := l.ints
    obtain ⟨h1, h2⟩ := chk_ok hr
    exact ⟨q, xs, rfl, by rw [T.K]; exact c, of_decide_eq_true h1, fun m z1 z2 => .mk (enc := D.int) s1 hs1 (.int _) (by rw [← maxL_uniq z1 z2]; exact h2)⟩) he
theorem v_minL {J : Int → OCtx → Prop} {Ψ : Exc → Prop} (i : Nat) (hm : W.mg "min" = none) (h : WL T Γ D.int e Ω fun xs Ω1 => Run (minM xs) (fun r => J r Ω1) Ψ) (hc : S.calm = true := by rfl) (hg : S.gl[i]? = some ("min" : Str) := by rfl)
    (he : starEach (e :: []) T.X.env = (false, eval e T.X.env) :: starEach [] T.X.env := by rfl) : WV T Γ D.int (.Call (.Name "min" p) [e] [] pos) Ω J :=
  one_b (cr_min (T.calm hc)) hg hm boot_min h (fun σ a Ω1 v H1 H01 H0 s1 hs1 sl ka ⟨xs, sq, hr⟩ => by
    obtain ⟨q, vs, rfl, lz, c, l⟩ := SqLst.get sq hs1 ka
    obtain rfl := l.ints
    obtain ⟨h1, h2⟩ := chk_ok hr
    exact ⟨q, xs, rfl, by rw [T.K]; exact c, of_decide_eq_true h1, fun m z1 z2 => .mk (enc := D.int) s1 hs1 (.int _) (by rw [← minL_uniq z1 z2]; exact h2)⟩) he
/-- max(a, b), min(a, b) -/
theorem two_b {id : String} {x : Str} {r : List V → Hp → VK → Prop} {i : Nat} {f : Int → Int → Int} {J : Int → OCtx → Prop} (hcr : CallR T.X (.builtin id) r) (hr : ∀ i j H Q, Q (.int (f i j)) H → r [.int i, .int j] H Q) (hg : S.gl[i]? = some x) (hm : W.mg x = none) (hv : bootBuiltins x = some (.builtin id))
    (h : WV T Γ D.int a Ω fun i Ω1 => WV T Γ D.int b Ω1 fun j Ω2 => J (f i j) Ω2)
    (he : starEach (a :: [b]) T.X.env = (false, eval a T.X.env) :: starEach [b] T.X.env) (he2 : starEach (b :: []) T.X.env = (false, eval b T.X.env) :: starEach [] T.X.env) (hpl : (backTo pos (starEach [b] T.X.env)).any (·.1) = false) :
    WV T Γ D.int (.Call (.Name x p) [a, b] [] pos) Ω J := fun σ H H0 hs sl => by
  refine of_pe (pe_callB hcr (T.gl hg) (T.free hm) hv (pa_cons pe_sem (pa_cons pe_sem pa_nil he2) he) (T.ok.glo i x hg).2.2 (T.ok.glo i x hg).2.1 he hpl) ?_
  refine sem_mono (h σ H H0 hs sl) fun v H1 ⟨H01, ax, Ω1, s1, hs1, ka, i, ei, h1⟩ => ?_
  subst ei
  cases isI ka
  refine sem_mono (h1 σ H1 H01 hs1 (sl.mono s1)) fun u H2 ⟨H02, ay, Ω2, s2, hs2, kb, j, ej, q⟩ => ?_
  subst ej
  cases isI kb
  exact hr _ _ _ _ (.mk (s1.trans s2) hs2 (.int _) q)
theorem v_max2 {J : Int → OCtx → Prop} (i : Nat) (hm : W.mg "max" = none) (h : WV T Γ D.int a Ω fun i Ω1 => WV T Γ D.int b Ω1 fun j Ω2 => J (max i j) Ω2) (hc : S.calm = true := by rfl) (hg : S.gl[i]? = some ("max" : Str) := by rfl)
    (he : starEach (a :: [b]) T.X.env = (false, eval a T.X.env) :: starEach [b] T.X.env := by rfl) (he2 : starEach (b :: []) T.X.env = (false, eval b T.X.env) :: starEach [] T.X.env := by rfl) (hpl : (backTo pos (starEach [b] T.X.env)).any (·.1) = false := by rfl) :
    WV T Γ D.int (.Call (.Name "max" p) [a, b] [] pos) Ω J := two_b (f := fun i j => max i j) (call_max2 (T.calm hc)) (fun i j H Q q => ⟨i, j, rfl, by
      have : (if j > i then j else i) = max i j := by split <;> omega
      rw [this]; exact q⟩) hg hm boot_max h he he2 hpl
theorem v_min2 {J : Int → OCtx → Prop} (i : Nat) (hm : W.mg "min" = none) (h : WV T Γ D.int a Ω fun i Ω1 => WV T Γ D.int b Ω1 fun j Ω2 => J (min i j) Ω2) (hc : S.calm = true := by rfl) (hg : S.gl[i]? = some ("min" : Str) := by rfl)
    (he : starEach (a :: [b]) T.X.env = (false, eval a T.X.env) :: starEach [b] T.X.env := by rfl) (he2 : starEach (b :: []) T.X.env = (false, eval b T.X.env) :: starEach [] T.X.env := by rfl) (hpl : (backTo pos (starEach [b] T.X.env)).any (·.1) = false := by rfl) :
    WV T Γ D.int (.Call (.Name "min" p) [a, b] [] pos) Ω J := two_b (f := fun i j => min i j) (call_min2 (T.calm hc)) (fun i j H Q q => ⟨i, j, rfl, by
      have : (if j < i then j else i) = min i j := by split <;> omega
      rw [this]; exact q⟩) hg hm boot_min h he he2 hpl
/-- sorted of ints -/
def sortI (xs : List Int) : List Int := xs.mergeSort (fun a b => decide (a ≤ b))
theorem sortI_perm (xs : List Int) : (sortI xs).Perm xs := List.mergeSort_perm _ _
theorem sortI_sorted (xs : List Int) : (sortI xs).Pairwise (· ≤ ·) := by
  have := List.pairwise_mergeSort (le := fun a b : Int => decide (a ≤ b)) (fun a b c h1 h2 => by simp at *; omega) (fun a b => by simp; omega) xs
  exact this.imp fun h => by simpa using h
theorem sorted_uniq : ∀ {xs ys : List Int}, xs.Perm ys → xs.Pairwise (· ≤ ·) → ys.Pairwise (· ≤ ·) → xs = ys
  | [], ys, p, _, _ => (List.Perm.nil_eq p)
  | x :: xs, [], p, _, _ => absurd p.length_eq (by simp)
  | x :: xs, y :: ys, p, h1, h2 => by
    have h1' := List.pairwise_cons.mp h1
    have h2' := List.pairwise_cons.mp h2
    have e : x = y := by
      have m1 : x ∈ y :: ys := p.mem_iff.mp (List.mem_cons_self ..)
      have m2 : y ∈ x :: xs := p.mem_iff.mpr (List.mem_cons_self ..)
      rcases List.mem_cons.mp m1 with q | q
      · exact q
      · rcases List.mem_cons.mp m2 with r | r
        · exact r.symm
        · have := h2'.1 x q
          have := h1'.1 y r
          omega
    subst e
    rw [sorted_uniq (List.Perm.cons_inv p) h1'.2 h2'.2]
theorem n_sorted {J : List Int → OCtx → Prop} (i : Nat) (hm : W.mg "sorted" = none) (h : WL T Γ D.int e Ω fun xs Ω1 => J (sortI xs) Ω1) (hg : S.gl[i]? = some ("sorted" : Str) := by rfl)
    (he : starEach (e :: []) T.X.env = (false, eval e T.X.env) :: starEach [] T.X.env := by rfl) : WN T Γ D.int (.Call (.Name "sorted" p) [e] [] pos) Ω J :=
  one_b cr_sortedI hg hm boot_sorted h (fun σ a Ω1 v H1 H01 H0 s1 hs1 sl ka ⟨xs, sq, j⟩ => by
    obtain ⟨q, vs, rfl, lz, c, l⟩ := SqLst.get sq hs1 ka
    obtain rfl := l.ints
    refine ⟨q, xs, rfl, by rw [T.K]; exact c, fun ns' r hp hw n => ?_⟩
    have e : ns' = sortI xs := sorted_uniq (hp.trans (sortI_perm xs).symm) hw (sortI_sorted xs)
    subst e
    have z : (sortI xs).length = xs.length := (sortI_perm xs).length_eq
    refine .newN s1 hs1 n (by rw [List.length_map, z]; simpa using lz) (isL_ints _) j) he
end
end Y
/-! YT: enumerate of a tuple. -/
namespace PySem
open Sem (wp)
open Builtin Builtin.Str
open AutoSeq1 (wpAny_loadPart')
section
variable {prog : Program} {w : World} {A : Around} {E : Value → Shared → Prop} {s : Shared}
theorem yt_next_item {it l : Addr} {i : Nat} {items : Array Value} {x : Value} {Q : Value → Shared → Prop} (hit : s.heap.IsTupleIter it l i)
    (hl : s.heap.IsTuple l items) (hx : items[i]? = some x)
    (hQ : ∀ h', h'.IsTupleIter it l (i + 1) → Heap.SameBut it s.heap h' → Q x { s with heap := h' }) :
    wpAny (model prog w) A (Builtin.SmallTypes.nextOf (.ref it)) Q E s := by
  obtain ⟨o, ho, hc, hd⟩ := id hit
  obtain ⟨ol, hol, _, nl, hdl⟩ := hl
  unfold Builtin.SmallTypes.nextOf
  refine wpAny_bind (wpAny_callSpecial?_slot (name := Str.ofString "__next__") hit.typeIs F.slot_tuple_iterator_next
    (wpAny_call_entry F.slot_tuple_iterator_next hit.typeIs F.entry_tuple_iterator_next ?_ (F.args_tuple_iterator_next_1 _)))
  show wpAny _ _ (field (.ref it) 0 >>= _) _ _ s
  refine wpAny_bind (wpAny_field ho hd (x := .ref l) rfl ?_)
  show wpAny _ _ (if (Value.ref l == Value.none) = true then _ else _) _ _ s
  rw [if_neg (show ¬ ((Value.ref l == Value.none) = true) from Bool.false_ne_true)]
  show wpAny _ _ (field (.ref it) 1 >>= _) _ _ s
  refine wpAny_bind (wpAny_field ho hd (x := .int i 0) rfl ?_)
  show wpAny _ _ (seqItems? (.ref l) >>= _) _ _ s
  refine wpAny_bind (wpAny_seqItems hol hdl ?_)
  simp only [Int.toNat_natCast, hx]
  refine wpAny_bind (wpAny_setField ho hd (by simp) (wpAny_pure ⟨x, rfl, wpAny_pure (hQ _ ?_ (Heap.SameBut.update ..))⟩))
  exact ⟨_, Heap.get?_update_self _ ho (Obj.isFreed_of_fields (Obj.data_mapFields hd _)), (Obj.cls_mapFields ..).trans hc, by
    rw [Obj.data_mapFields hd]; simp [rawInt]⟩
theorem yt_next_end {it l : Addr} {i : Nat} {items : Array Value} {Q : Value → Shared → Prop} (hh : A.handled = none)
    (hit : s.heap.IsTupleIter it l i) (hl : s.heap.IsTuple l items) (hx : items[i]? = none)
    (hE : ∀ h' e, Heap.ExtBut it s.heap h' → (∃ o, h'.get? e = some o ∧ o.cls = .type "StopIteration") → E (.ref e) { s with heap := h' }) :
    wpAny (model prog w) A (Builtin.SmallTypes.nextOf (.ref it)) Q E s := by
  obtain ⟨o, ho, hc, hd⟩ := id hit
  obtain ⟨ol, hol, _, nl, hdl⟩ := hl
  unfold Builtin.SmallTypes.nextOf
  refine wpAny_bind (wpAny_callSpecial?_slot (name := Str.ofString "__next__") hit.typeIs F.slot_tuple_iterator_next
    (wpAny_call_entry F.slot_tuple_iterator_next hit.typeIs F.entry_tuple_iterator_next ?_ (F.args_tuple_iterator_next_1 _)))
  show wpAny _ _ (field (.ref it) 0 >>= _) _ _ s
  refine wpAny_bind (wpAny_field ho hd (x := .ref l) rfl ?_)
  show wpAny _ _ (if (Value.ref l == Value.none) = true then _ else _) _ _ s
  rw [if_neg (show ¬ ((Value.ref l == Value.none) = true) from Bool.false_ne_true)]
  show wpAny _ _ (field (.ref it) 1 >>= _) _ _ s
  refine wpAny_bind (wpAny_field ho hd (x := .int i 0) rfl ?_)
  show wpAny _ _ (seqItems? (.ref l) >>= _) _ _ s
  refine wpAny_bind (wpAny_seqItems hol hdl ?_)
  simp only [Int.toNat_natCast, hx]
  refine wpAny_bind (wpAny_rule (wpAny_bind (wpAny_setField ho hd (by simp) ?_)))
  show wpAny _ _ (newExc (.type "StopIteration") [] >>= _) _ _ _
  refine wpAny_bind ?_
  simp only [newExc, newTuple]
  refine wpAny_bind (wpAny_newObj_type ?_ (by size_fits))
  refine wpAny_bind (m := firstArgMember _ _) (wpAny_of_eq (a := Value.none) (by first | rfl | (simp only [firstArgMember]; rfl)) ?_)
  refine wpAny_newObj_type ?_ (by size_fits)
  simp only [raiseNew]
  refine wpAny_bind (wpAny_handled ?_)
  first | rw [show A.in1.handled = none from hh] | rw [hh]
  refine wpAny_bind (wpAny_pure (wpAny_throw ?_))
  exact hE _ _ (((Heap.SameBut.update ..).extBut.push _).push _) ⟨_, Heap.get?_push_size _ rfl, rfl⟩
theorem yt_iter_at {h h' : Heap} {a t : Addr} {i : Nat} (x : h.IsTupleIter a t i) (k : ∀ o, h.get? a = some o → h'.get? a = some o) : h'.IsTupleIter a t i := let ⟨o, ho, r⟩ := x; ⟨o, k o ho, r⟩
theorem yt_tup_at {h h' : Heap} {a : Addr} {items : Array Value} (x : h.IsTuple a items) (k : ∀ o, h.get? a = some o → h'.get? a = some o) : h'.IsTuple a items := let ⟨o, ho, r⟩ := x; ⟨o, k o ho, r⟩
theorem Draws.tupleY (hh : A.handled = none) (it l : Addr) (hne : l ≠ it) (items : Array Value) :
    Draws prog w A it [it, l] items.size (fun i v => items[i]? = some v) (fun i h => h.IsTupleIter it l i ∧ h.IsTuple l items) where
  live := fun _ _ st => let ⟨o, ho, _⟩ := st.1; ⟨o, ho⟩
  frame := fun _ _ _ st hk => ⟨yt_iter_at st.1 fun o e => hk it (by simp) o e, yt_tup_at st.2 fun o e => hk l (by simp) o e⟩
  item := fun i s Q E hi st hQ => by
    refine yt_next_item st.1 st.2 (x := items[i]) (by simp [hi]) fun h' hit' hs' => ?_
    exact hQ _ h' s.toks (by simp [hi]) ⟨hit', st.2.extBut hs'.extBut hne⟩ hs'
  done := fun s Q E st hE => yt_next_end hh st.1 st.2 (by simp) hE
theorem yt_enum_new (l : Addr) (items : Array Value) (n : Nat) (dct : Option Addr) (sl : Array (Option Value)) :
    Meets (Builtin.«enumerate.__new__» ⟨[.type "enumerate", .ref l], []⟩) (fun _ R s => s.heap.get? l = some { cls := .type "tuple", dict := dct, data := .seq items n, slots := sl } ∧
      R (.ok (.ret (.ref (s.heap.push { cls := .type "tuple_iterator", data := .fields #[.ref l, .int 0 0] }).objs.size)))
        { s with heap := (s.heap.push { cls := .type "tuple_iterator", data := .fields #[.ref l, .int 0 0] }).push { cls := .type "enumerate", data := .fields #[.none, .bool false, .ref s.heap.objs.size, rawInt 0, .none, .none] } }) :=
  .of_wp fun prog w A R s h => by
    obtain ⟨hp, g, d, tk, os⟩ := s; obtain ⟨hl, h⟩ := h
    have hsub := sub_enumerate
    have hL : Heap.IsTuple (Shared.heap ⟨hp, g, d, tk, os⟩) l items := ⟨_, hl, rfl, n, rfl⟩
    wp_walk using wpAny_loadPart' hl
    refine wpAny_stack_any fun st => wpAny_pure ?_
    split
    · rename_i c _ _ _ _ _
      cases (c == Value.type "enumerate")
      · wp_walk using wpAny_loadPart' hl, wpAny_pyIter_tuple hL
        exact ⟨_, rfl, h⟩
      · wp_walk using wpAny_loadPart' hl, wpAny_pyIter_tuple hL
        exact ⟨_, rfl, h⟩
    · wp_walk using wpAny_loadPart' hl, wpAny_pyIter_tuple hL
      exact ⟨_, rfl, h⟩
theorem yt_call_enum {l : Addr} {items : Array Value} {Q : Value → Shared → Prop} (hL : s.heap.IsTuple l items)
    (h : ∀ h', IsEnum h' (s.heap.objs.size + 1) s.heap.objs.size 0 .none → h'.IsTupleIter s.heap.objs.size l 0 → h'.objs.size = s.heap.objs.size + 2 →
      (∀ b o, s.heap.get? b = some o → h'.get? b = some o) → Q (.ref (s.heap.objs.size + 1)) { s with heap := h' }) :
    wpAny (model prog w) A (call (.type "enumerate") [.ref l]) Q E s := by
  obtain ⟨⟨c, dct, dt, sl⟩, hl, hc, n, hd⟩ := hL
  replace hc : c = .type "tuple" := hc
  replace hd : dt = .seq items n := hd
  subst hc hd
  refine callType_new F.called_enumerate (by decide) (F.typeCall_enumerate_1 _) (F.newCall_enumerate_1 _) (fun obj => F.args_object_init_2 obj _) F.entry_enumerate_new
    (yt_enum_new l items n dct sl) ⟨hl, ?_⟩
  have hz : (s.heap.push { cls := .type "tuple_iterator", data := .fields #[.ref l, .int 0 0] }).objs.size = s.heap.objs.size + 1 := Heap.size_push ..
  show _ ∧ _
  rw [hz]
  have he : IsEnum ((s.heap.push { cls := .type "tuple_iterator", data := .fields #[.ref l, .int 0 0] }).push
      { cls := .type "enumerate", data := .fields #[.none, .bool false, .ref s.heap.objs.size, rawInt 0, .none, .none] }) (s.heap.objs.size + 1) s.heap.objs.size 0 .none := by
    have := Heap.get?_push_size (s.heap.push { cls := .type "tuple_iterator", data := .fields #[.ref l, .int 0 0] })
      (o := { cls := .type "enumerate", data := .fields #[.none, .bool false, .ref s.heap.objs.size, rawInt 0, .none, .none] }) rfl
    rw [hz] at this; exact this
  refine ⟨⟨_, he, rfl⟩, h _ he ⟨_, Heap.get?_push_of_some _ (Heap.get?_push_size _ rfl), rfl, rfl⟩ (by rw [Heap.size_push, hz]) fun b o x => Heap.get?_push_of_some _ (Heap.get?_push_of_some _ x)⟩
end
end PySem
namespace L2
open PySem PySem.Spec PyProof.Rows
/-- the tuple at a, each item in a new pair -/
def IteT (K : PySem.W.Frag) (a : Addr) : It :=
  ⟨fun i H => ∃ (xs : List V) (x : V), SqT K H a xs ∧ xs[i]? = some x, fun i H v H' => ∃ T x, v = .ref T ∧ H T = none ∧ H' = upd H T (.tup [.int (i : Nat), x]) ∧ ∀ xs, SqT K H a xs → xs[i]? = some x, fun i H => ∃ xs : List V, SqT K H a xs ∧ xs.length ≤ i⟩
theorem turn_enumT {P : Program} {w : World} {K : PySem.W.Frag} {elts : List Expr} {kk : Nat} {tpos : Pos} (a e it : Addr) :
    Turn P w K (.Tuple elts kk tpos) (IteT K a) [e, it] e (fun i h => (∃ old, IsEnum h e it ((i : Nat) : Int) old) ∧ h.IsTupleIter it a i ∧ e ≠ it ∧ a ≠ it ∧ e ≠ a) where
  mem := by simp
  obj := fun i h st b hb => by
    obtain ⟨⟨old, he⟩, ⟨o, ho, hc, hd⟩, _⟩ := st
    have e' : b = e ∨ b = it := by simpa using hb
    rcases e' with z | z
    · rw [z]; exact ⟨_, he, fun v q => nomatch q⟩
    · rw [z]; exact ⟨o, ho, fun v q => by rw [hd] at q; cases q⟩
  keep := fun i h h' st k => let ⟨⟨old, he⟩, hi, hne⟩ := st; ⟨⟨old, k e (by simp) _ he⟩, yt_iter_at hi fun o q => k it (by simp) o q, hne⟩
  item := by
    intro X hP hw hK hc i pins s σ H E I hf st hg
    subst hP hw hK
    obtain ⟨⟨old, he⟩, hit, hne, hai, hea⟩ := st
    obtain ⟨xs, x, hq, hx⟩ := hg
    obtain ⟨its, rv, p, hz⟩ := I.tuple hq
    obtain ⟨u, hu, ru⟩ := rv.get hx
    have hel : e < s.heap.objs.size := Heap.lt_size he
    have hil : it < s.heap.objs.size := by obtain ⟨_, q, _⟩ := hit; exact Heap.lt_size q
    refine wpAny_pyNext_enum_itemD (Draws.tupleY (by have := I.ok.hd hc; simpa using this) it a hai its.toArray) he ⟨hit, p⟩ (by rw [List.size_toArray]; exact (List.getElem?_eq_some_iff.mp hu).1) hne (by simp [hne, hea]) fun x' h' tk hx' ho st' hT hsz hk => ?_
    have exu : x' = u := by
      have : its.toArray[i]? = some u := by simpa using hu
      rw [this] at hx'
      cases hx'
      rfl
    subst exu
    have hit' := st'.1
    refine ⟨_, rfl, wpAny_letOwnedTupleGo_enum (s := { s with heap := h', toks := tk + 1 }) ho fun h'' he' sb => ?_⟩
    have hT2 : h''.get? s.heap.objs.size = some { cls := .type "tuple", data := .seq #[.int i tk, x'] } := (sb.2 _ (Nat.ne_of_gt hel)).trans hT
    have new : ObjOk X.prog X.w (upd H s.heap.objs.size (.tup [.int (i : Nat), x])) h'' s.heap.objs.size (.tup [.int (i : Nat), x]) :=
      ⟨by show 2 ≤ sizeLine; decide, [.int i tk, x'], .cons ⟨_, rfl⟩ (.cons ru .nil), ⟨_, hT2, rfl, _, rfl⟩⟩
    have I1 : Inv X pins σ (upd H s.heap.objs.size (.tup [.int (i : Nat), x])) { s with heap := h'', toks := tk + 1 } :=
      I.turnedNew (ch := [e, it]) (fun b ob hb q => (sb.2 b (fun z => hb (by simp [z]))).trans (hk b ob (fun z => hb (by simp [z])) (fun z => hb (by simp [z])) q)) hf (Nat.le_refl _) new
    refine ⟨.ref s.heap.objs.size, _, I1, rfl, ⟨_, x, rfl, I.hok.fresh (Nat.le_refl _), rfl, fun ys hy => by rw [I.tuple_inj hy hq]; exact hx⟩, ⟨⟨x', ?_⟩, yt_iter_at hit' fun o q => (sb.2 it (Ne.symm hne)).trans q, hne, hai, hea⟩, fun b hb => ?_⟩
    · have e1 : ((i + 1 : Nat) : Int) = (i : Int) + 1 := by omega
      rw [e1]; exact he'
    · have hb' : b < s.heap.objs.size := by
        have e' : b = e ∨ b = it := by simpa using hb
        rcases e' with z | z
        · rw [z]; exact hel
        · rw [z]; exact hil
      rw [upd_ne (Nat.ne_of_lt hb')]
      exact (hf b hb).1
  done := by
    intro X hP hw hK hc i pins s σ H E I hf st hg
    subst hP hw hK
    obtain ⟨⟨old, he⟩, hit, hne, hai, hea⟩ := st
    obtain ⟨xs, hq, hx⟩ := hg
    obtain ⟨its, rv, p, hz⟩ := I.tuple hq
    obtain ⟨f0, f1, f2, f3, f4, f5⟩ := hf it (by simp)
    have hl := rv.length
    unfold pyNext
    have hT : s.TypeIs (.ref e) "enumerate" := ⟨_, he, rfl⟩
    refine wpAny_bind (wpAny_attempt (wpAny_callSpecial?_slot (name := Str.ofString "__next__") hT F.slot_enumerate_next
      (wpAny_call_entry F.slot_enumerate_next hT F.entry_enumerate_next ?_ (F.args_enumerate_next_1 _))))
    show wpAny _ _ (field (.ref e) 2 >>= _) _ _ _
    refine wpAny_bind (wpAny_field he rfl (x := .ref it) rfl ?_)
    refine wpAny_bind (yt_next_end (by have := I.ok.hd hc; simpa using this) hit p (by simp; omega) fun h' x eb hx' => ?_)
    obtain ⟨o, ho, hc'⟩ := hx'
    refine wpAny_bind (wpAny_isInstance (T := "StopIteration") (b := true) ⟨o, ho, hc'⟩ isSubtype_stop ?_)
    exact wpAny_pure ⟨rfl, I.turned (t' := s.toks) (fun b o hb q => eb b o hb q) f0 f1 f3 f4 f5⟩
  self := fun A i s Q E st h => let ⟨⟨_, he⟩, _⟩ := st; wpAny_pyIter_enum he h
def iEnumT (K : PySem.W.Frag) (ta : TA) : TI := fun σ H R => ta σ H fun vs H1 => ∃ a xs, vs = [.ref a] ∧ SqT K H1 a xs ∧ R (IteT K a) H1
theorem pi_enumT {X : Cx} {e : Expr} {ta : TA} {p pos tpos : Pos} {elts : List Expr} {kk : Nat} (hg : Gl X "enumerate") (hm : X.mg "enumerate" = none) (ha : PA X [e] ta) (hs : starEach [e] X.env = [(false, eval e X.env)] := by rfl) :
    PI X (.Tuple elts kk tpos) (.Call (.Name "enumerate" p) [e] [] pos) (iEnumT X.K ta) := by
  refine ⟨fun pins s σ H R I h => ?_⟩
  refine Call_ (ld_blt I hg hm boot_enumerate (PyProof.Rows.callWith_type1 (thn (ha.run pos pins s σ H _ I h) fun us s1 ⟨vs, H1, I1, r1, q1⟩ => ?_) hs rfl))
  obtain ⟨a, xs, ex, hq, q⟩ := q1
  subst ex
  cases r1 with
  | cons r rr =>
    cases rr
    cases r
    obtain ⟨its, rv, p', hz⟩ := I1.tuple hq
    have hal : a < s1.heap.objs.size := by obtain ⟨o, ho, _⟩ := p'; exact Heap.lt_size ho
    refine yt_call_enum p' fun h' he hit hsz hk => wpAny_pyIter_enum he ?_
    have I2 : Inv X pins σ H1 { s1 with heap := h' } := I1.kept (t' := s1.toks) hk
    refine ⟨s1.heap.objs.size + 1, [s1.heap.objs.size + 1, s1.heap.objs.size], _, _, H1, rfl, I2, turn_enumT a (s1.heap.objs.size + 1) s1.heap.objs.size, ⟨⟨.none, he⟩, hit, Nat.succ_ne_self _, Nat.ne_of_lt hal, Nat.ne_of_gt (Nat.lt_succ_of_lt hal)⟩, fun b hb => ?_, q⟩
    have e' : b = s1.heap.objs.size + 1 ∨ b = s1.heap.objs.size := by simpa using hb
    have hle : s1.heap.objs.size ≤ b := by
      rcases e' with z | z
      · rw [z]; exact Nat.le_add_right _ _
      · rw [z]; exact Nat.le_refl _
    exact I1.fpOk hle (I1.hok.fresh hle)
theorem walk_enumT {K : PySem.W.Frag} {a : Addr} {xs : List V} : Walk (IteT K a) xs.length (fun H => SqT K H a xs) (YPair (fun i => some (.int (i : Nat))) (fun i => xs[i]?)) where
  goes := fun i H h q => ⟨xs, xs[i], q, List.getElem?_eq_getElem h⟩
  stops := fun H q => ⟨xs, q, Nat.le_refl _⟩
  yields := fun i H v H' h q ⟨T, x, e1, e2, e3, e4⟩ => ⟨T, .int (i : Nat), x, e1, e2, e3, rfl, e4 xs q⟩
end L2
namespace Y
open PySem PySem.Spec PyProof.Rows L2
section
variable {W : Wd} {S : Sco} {T : TC W S} {Γ Δ : Ctx} {Ω Ω' : OCtx} {J : JE} {e a b c : Expr} {es : List Expr} {pos p p2 : Pos} {α β γ : Type} {enc : α → D} {enb : β → D} {Z : Dz} {sts : List Stmt} {st : Stmt}
theorem i_enumT {J : List (Int × α) → OCtx → Prop} {elts : List Expr} {kk : Nat} {tpos : Pos} (i : Nat) (hm : W.mg "enumerate" = none) (h : WV T Γ (dU enc) a Ω fun xs Ω1 => xs.length ≤ sizeLine → J (enumL xs) Ω1) (hg : S.gl[i]? = some ("enumerate" : Str) := by rfl)
    (hs : starEach [a] T.X.env = [(false, eval a T.X.env)] := by rfl) : WI T Γ (.Tuple elts kk tpos) (dT2 D.int enc) (.Call (.Name "enumerate" p) [a] [] pos) Ω J := fun σ H H0 hs0 sl => by
  refine of_pi (pi_enumT (T.gl hg) (T.free hm) (pa_cons pe_sem pa_nil hs) hs) (sem_mono (h σ H H0 hs0 sl) fun v H1 ⟨H01, a, Ω1, s1, hs1, ka, xs, ea, j⟩ => ?_)
  subst ea
  cases ka with
  | @tup q vs _ lz hq l =>
    have hl : vs.length = xs.length := by rw [l.length, List.length_map]
    refine ⟨q, vs, rfl, by rw [T.K]; exact SameT hs1.sub hq, H01, Ω1, enumL xs, s1, hs1, ?_, j (by rw [← hl]; exact lz)⟩
    rw [enumL_length, ← hl]
    refine walk_enumT.mono (fun Hx z => by rw [T.K]; exact SameT z hq) fun i Hx x H' hi z ⟨q', x1, y1, e1, e2, e3, e4, e5⟩ => ?_
    cases e4
    obtain ⟨d, e6, r⟩ := l.getV e5
    rw [List.getElem?_map] at e6
    cases e7 : xs[i]? with
    | none => rw [e7] at e6; cases e6
    | some y =>
      rw [e7] at e6
      cases e6
      refine ⟨_, enumL_get e7, .inr ⟨q', _, e2, e3, e1, fun Hy s n => ?_⟩⟩
      exact is_tup n two_line (.cons (.int _) (.cons (r.mono s) .nil))
/-- for c in a text -/
def chrs (z : Str) : List Str := z.cps.toList.map fun c => ⟨#[c]⟩
theorem i_str {J : List Str → OCtx → Prop} {tg : Expr} (h : WV T Γ D.str e Ω fun z Ω1 => J (chrs z) Ω1) : WI T Γ tg D.str e Ω J := fun σ H H0 hs0 sl => by
  refine of_pi (pi_str pe_sem) (sem_mono (h σ H H0 hs0 sl) fun v H1 ⟨H01, a, Ω1, s1, hs1, ka, z, ea, j⟩ => ?_)
  subst ea
  cases isS ka
  refine ⟨z, rfl, H01, Ω1, chrs z, s1, hs1, ?_, j⟩
  have hl : (chrs z).length = z.cps.size := by simp [chrs]
  rw [hl]
  refine walk_str.mono (fun _ _ => trivial) fun i Hx x H' hi z' ⟨e1, c, e2, e3⟩ => ⟨⟨#[c]⟩, ?_, .inl ⟨e1, by rw [e3]; exact .str _⟩⟩
  unfold chrs
  rw [List.getElem?_map, Array.getElem?_toList, e2]
  rfl
end
end Y
namespace Y
open PySem PySem.Spec PyProof.Rows L2
/-! Y10: instances: made, read, stored; freezing; changes of owned lists. -/
section
variable {X : Cx} {CX : CXT} {k : Nat} {f C : Addr} {fd : FuncData} {ps : List Str} {sp : Sp} {dvs : List V} {ds : List Value} {E : L2.St → XK} {x : Str} {p pos : Pos} {e : Expr} {es : List Expr} {t : TA}
theorem run_makeSD {pins : List (Addr × Obj)} {σ : L2.St} {H : Hp} {s : Shared} {Q : VK} {us : List Value} {vs : List V} (M : Mk X.K C f) (F : FnOk X.prog X.w X.K X.mg X.base CX k f fd ps sp) (hr : Room (k + 1) X.A) (hb : Binds X.K fd ps ds) (hd : Vals dvs ds)
    (hx : PassesAt CX X σ (E σ)) (I : Inv X pins σ H s) (r : Vals vs us)
    (h : ∀ x dx, H x = none → H dx = none → dx ≠ x → sp (.ref x :: (vs ++ dvs)) (upd (upd H dx (.own x)) x (.ins C dx [])) (fun v H2 => v = .non ∧ Q (.ref x) H2) (E σ)) :
    wpAny (model X.prog X.w) X.A (call (.ref C) us) (EP X pins σ Q) X.xe s := by
  have hq := h (s.heap.objs.size + 1) s.heap.objs.size (I.hok.fresh (Nat.le_succ _)) (I.hok.fresh (Nat.le_refl _)) (Nat.ne_of_lt (Nat.lt_succ_self _))
  have I2 := Inv.made (C := C) I
  have r2 : Vals (V.ref (s.heap.objs.size + 1) :: (vs ++ dvs)) (Value.ref (s.heap.objs.size + 1) :: (us ++ ds)) := .cons rfl (r.append hd)
  have hl : (Value.ref (s.heap.objs.size + 1) :: us ++ ds).length = ps.length := by
    have e := r2.length
    rw [F.len _ _ _ _ hq] at e
    exact e.symm
  refine wpAny_call (make_map (f := f) I.kIn M.makes M.init (beq_iff_eq.mp M.fn) (codeAny_mono (F.run _ X.stack _ _ ⟨Value.ref (s.heap.objs.size + 1) :: us, []⟩ (Value.ref (s.heap.objs.size + 1) :: (us ++ ds)) _ _ (E σ) (hr.make C us [])
    (I2.env0.make C us []) (hb _ (Value.ref (s.heap.objs.size + 1) :: us) I2.kIn hl) r2 hq) fun r s' hq' => ?_))
  cases r with
  | error e => exact hx pins _ _ e s' I2 hq'
  | ok fl =>
    cases fl with
    | ret u =>
      obtain ⟨v, H', I3, rv, ev, q3⟩ := I2.after hq'
      subst ev
      exact ⟨rv, ⟨V.ref (s.heap.objs.size + 1), H', I3, rfl, q3⟩⟩
    | next => exact False.elim hq'
    | brk => exact False.elim hq'
    | cont => exact False.elim hq'
def tMakeSD (C : Addr) (sp : Sp) (dvs : List V) (E : L2.St → XK) (t : TA) : TE := fun σ H Q => t σ H fun vs H1 => ∀ x dx, H1 x = none → H1 dx = none → dx ≠ x →
  sp (.ref x :: (vs ++ dvs)) (upd (upd H1 dx (.own x)) x (.ins C dx [])) (fun v H2 => v = .non ∧ Q (.ref x) H2) (E σ)
theorem pe_makeSD (M : Mk X.K C f) (F : FnOk X.prog X.w X.K X.mg X.base CX k f fd ps sp) (hr : Room (k + 1) X.A) (hg : Gl X x) (hm : X.mg x = some (.ref C)) (hb : Binds X.K fd ps ds) (hd : Vals dvs ds) (hx : ∀ σ, PassesAt CX X σ (E σ))
    (ha : PA X (e :: es) t) (hdb : (x == ("__debug__" : Str)) = false := by decide) (he : starEach (e :: es) X.env = (false, eval e X.env) :: starEach es X.env := by rfl) (hpl : (backTo pos (starEach es X.env)).any (·.1) = false := by rfl) :
    PE X (.Call (.Name x p) (e :: es) [] pos) (tMakeSD C sp dvs E t) := by
  refine ⟨fun pins s σ H Q I h => ?_⟩
  refine wpAny_Call_Name_kw (ld_glob I hg hm ?_ hdb)
  refine PySem.W.callWith_K (h₀ := X.base) I.ok.mod.kin M.kp (thn (ha.run pos pins s σ H _ I h) fun us s1 ⟨vs, H1, I1, r, q⟩ => ⟨I1.kIn, ?_⟩) he hpl
  exact run_makeSD M F hr hb hd (hx σ) I1 r q
theorem pe_makeSD0 (M : Mk X.K C f) (F : FnOk X.prog X.w X.K X.mg X.base CX k f fd ps sp) (hr : Room (k + 1) X.A) (hg : Gl X x) (hm : X.mg x = some (.ref C)) (hb : Binds X.K fd ps ds) (hd : Vals dvs ds) (hx : ∀ σ, PassesAt CX X σ (E σ))
    (hdb : (x == ("__debug__" : Str)) = false := by decide) : PE X (.Call (.Name x p) [] [] pos) (tMakeSD C sp dvs E tNil) := by
  refine ⟨fun pins s σ H Q I h => ?_⟩
  refine wpAny_Call_Name_kw (ld_glob I hg hm ?_ hdb)
  exact PySem.W.callWith_K0 I.kIn M.kp (run_makeSD (us := []) M F hr hb hd (hx σ) I .nil h)
end
section
variable {W : Wd} {S : Sco} {T : TC W S} {Γ Δ : Ctx} {Ω Ω' : OCtx} {J : JE} {e a b c o : Expr} {es : List Expr} {pos p p2 apos cpos : Pos} {α β γ : Type} {enc : α → D} {enb : β → D} {Z : Dz} {sts : List Stmt} {st : Stmt}
/-- what is shown at C(..), the arguments known -/
def MakeK {α β : Type} (T : TC W S) (Γ : Ctx) (s : Spc α β) (c : String) (as : List As) (Ω1 : OCtx) (J : List (String × As) → OCtx → Prop) : Prop := ∃ x0, ∀ q, s.pre x0 (.own q :: as) [(q, .ins c [])] ∧
  Run (s.mir x0) (fun r => ∀ a Ω2, s.post x0 r [(q, .ins c [])] a Ω2 → a = .dat .non ∧ ∃ fs, Ω2 = [(q, .ins c fs)] ∧ J fs Ω1) (fun e => T.xj e Γ Ω1)
/-- the new instance, owned -/
abbrev JI (T : TC W S) (c : String) (J : List (String × As) → OCtx → Prop) : JE := fun a Ω' => ∃ q fs Ω1, a = .own q ∧ T.G.He q = none ∧ Ω' = (q, .ins c fs) :: Ω1 ∧ J fs Ω1
theorem MakeK.go {α β : Type} {s : Spc α β} {c : String} {σ : L2.St} {Ω1 : OCtx} {H01 H1 H0 : Hp} {vs : List V} {as : List As} {J : List (String × As) → OCtx → Prop} (h : MakeK T Γ s c as Ω1 J) (s1 : Same H0 H01) (hs1 : Hs W.K T.G Ω1 H01 H1) (sl : Sl W.K Γ H01 σ) (ka : AsL W.K H01 vs as)
    {x dx : Addr} (nx : H1 x = none) (nd : H1 dx = none) (ne : dx ≠ x) :
    spOf W.K s (.ref x :: vs) (upd (upd H1 dx (.own x)) x (.ins (He.ga W.K (Str.ofString c)) dx [])) (fun v H2 => v = .non ∧ QE W.K T.G (JI T c J) H0 (.ref x) H2) (L2.WE (WOf W.K T.G T.xj) σ) := by
  obtain ⟨x0, h⟩ := h
  obtain ⟨hp, hm⟩ := h x
  have hs2 := hs1.alloc (o := .own x) nd
  have nx2 : upd H1 dx (.own x) x = none := by rw [upd_ne (Ne.symm ne)]; exact nx
  have hs3 : Hs W.K T.G ((x, OD.ins c []) :: Ω1) (upd H01 dx (.own x)) (upd (upd H1 dx (.own x)) x (.ins (He.ga W.K (Str.ofString c)) dx [])) := hs2.allocOwn nx2 ⟨dx, [], rfl, .nil⟩
  have sd : Same H01 (upd H01 dx (.own x)) := same_upd (hs1.free0 nd)
  have hin : ∀ e ∈ [(x, OD.ins c [])], e ∈ ((x, OD.ins c []) :: Ω1) := fun e m => by
    cases List.mem_singleton.mp m
    exact List.mem_cons_self ..
  refine call_go (Ωp := [(x, OD.ins c [])]) (Ωx := Ω1) hs3 (sl.mono sd) (.cons (show AsOk W.K (upd H01 dx (.own x)) (.own x) (.ref x) from rfl) (ka.mono sd)) hp hin (by simp) (fun q u m => .inr ⟨List.mem_cons_of_mem _ m, fun z => ?_⟩) hs1.nd (hm.mono (fun r q a Ω2 v H' H0' z1 z2 z3 => ?_) fun _ z => z)
  · have z' : q = x := by simpa using z
    subst z'
    exact hs1.notIn nx u m
  · obtain ⟨e1, fs, e2, j⟩ := q a Ω2 z1
    subst e1 e2
    obtain ⟨h1, _⟩ := hs3.backN (Ωn := []) (ΩN := (x, OD.ins c fs) :: Ω1) hin z2 (Back.one (Ωn := []) (Ω1 := (x, OD.ins c []) :: Ω1) (j := 0) (od' := OD.ins c fs) rfl)
    exact ⟨isN z3, H0', .own x, _, (s1.trans sd).trans z2.base, h1, rfl, x, fs, Ω1, rfl, hs1.free nx, rfl, j⟩
/-- C(..) -/
theorem e_make {α β : Type} {s : Spc α β} {k i : Nat} {f : Addr} {x : Str} {c : String} {J : List (String × As) → OCtx → Prop} (F : FnY W k f (spOf W.K s)) (hM : Mk W.K (He.ga W.K (Str.ofString c)) f) (hm : W.mg x = some (.ref (He.ga W.K (Str.ofString c)))) (hg : S.gl[i]? = some x)
    (h : WA T Γ (e :: es) Ω fun as Ω1 => MakeK T Γ s c as Ω1 J)
    (hk : k + 1 ≤ S.lv := by decide) (hc : S.calm = true := by rfl)
    (he : starEach (e :: es) T.X.env = (false, eval e T.X.env) :: starEach es T.X.env := by exact star_c rfl) (hpl : (backTo pos (starEach es T.X.env)).any (·.1) = false := by exact plain_of rfl) : WE T Γ (.Call (.Name x p) (e :: es) [] pos) Ω (JI T c J) := fun σ H H0 hs sl => by
  obtain ⟨⟨fd, ps, ds, dvs, sp0, f1, f2, f3, f4⟩, kp⟩ := F
  have hW := T.hW
  have g := T.gl hg
  have tk := T.tk
  have hr : Room (k + 1) T.X.A := (T.room hc).mono hk
  have core : ∀ (W' : Wd) (eW : (⟨T.X.prog, T.X.w, T.X.K, T.X.mg, T.X.base⟩ : Wd) = W') , FnOk W'.P W'.w W'.K W'.mg W'.base (L2.CX W'.P W'.w) k f fd ps sp0 → Binds W'.K fd ps ds → W'.mg x = some (.ref (He.ga W.K (Str.ofString c))) → Mk W'.K (He.ga W.K (Str.ofString c)) f →
      PE T.X (.Call (.Name x p) (e :: es) [] pos) (tMakeSD (He.ga W.K (Str.ofString c)) sp0 dvs (L2.WE (WOf W.K T.G T.xj)) (semA T.X (e :: es))) := fun W' eW a b c d => by
    subst eW
    exact pe_makeSD d a hr g c b f3 (fun σ => passAt tk σ) pa_sem (T.ok.glo i x hg).2.1 he hpl
  refine of_pe (core W hW f1 f2 hm hM) (semA_mono (h σ H H0 hs sl) fun vs H1 ⟨H01, as, Ω1, s1, hs1, ka, ck⟩ => fun x dx n1 n2 n3 => ?_)
  rw [← List.cons_append]
  exact f4 _ _ _ _ (ck.go s1 hs1 (sl.mono s1) ka n1 n2 n3)
theorem e_make0 {α β : Type} {s : Spc α β} {k i : Nat} {f : Addr} {x : Str} {c : String} {J : List (String × As) → OCtx → Prop} (F : FnY W k f (spOf W.K s)) (hM : Mk W.K (He.ga W.K (Str.ofString c)) f) (hm : W.mg x = some (.ref (He.ga W.K (Str.ofString c)))) (hg : S.gl[i]? = some x)
    (h : MakeK T Γ s c [] Ω J) (hk : k + 1 ≤ S.lv := by decide) (hc : S.calm = true := by rfl) : WE T Γ (.Call (.Name x p) [] [] pos) Ω (JI T c J) := fun σ H H0 hs sl => by
  obtain ⟨⟨fd, ps, ds, dvs, sp0, f1, f2, f3, f4⟩, kp⟩ := F
  have hW := T.hW
  have g := T.gl hg
  have tk := T.tk
  have hr : Room (k + 1) T.X.A := (T.room hc).mono hk
  have core : ∀ (W' : Wd) (eW : (⟨T.X.prog, T.X.w, T.X.K, T.X.mg, T.X.base⟩ : Wd) = W') , FnOk W'.P W'.w W'.K W'.mg W'.base (L2.CX W'.P W'.w) k f fd ps sp0 → Binds W'.K fd ps ds → W'.mg x = some (.ref (He.ga W.K (Str.ofString c))) → Mk W'.K (He.ga W.K (Str.ofString c)) f →
      PE T.X (.Call (.Name x p) [] [] pos) (tMakeSD (He.ga W.K (Str.ofString c)) sp0 dvs (L2.WE (WOf W.K T.G T.xj)) tNil) := fun W' eW a b c d => by
    subst eW
    exact pe_makeSD0 d a hr g c b f3 (fun σ => passAt tk σ) (T.ok.glo i x hg).2.1
  refine of_pe (core W hW f1 f2 hm hM) fun x dx n1 n2 n3 => ?_
  exact f4 [V.ref x] _ _ _ (h.go (Same.refl _) hs sl .nil n1 n2 n3)
def datF (ds : List (String × D)) : List (String × As) := ds.map fun q => (q.1, As.dat q.2)
theorem Hs.freezeI0 {K : PySem.W.Frag} {G : En} {Ω : OCtx} {H0 H : Hp} {q : Addr} {c : String} {ds : List (String × D)} (h : Hs K G ((q, .ins c (datF ds)) :: Ω) H0 H) (hn : G.He q = none) : ∃ H0', Same H0 H0' ∧ Hs K G Ω H0' H ∧ Is K H0' (.ref q) (.obj c ds) := by
  have hi : ((q, OD.ins c (datF ds)) :: Ω)[0]? = some (q, .ins c (datF ds)) := rfl
  obtain ⟨ho, e, k⟩ := h.at_ hi
  obtain ⟨dx, vs, rfl, l⟩ := k
  have n0 := (h.own q _ (List.mem_of_getElem? hi)).2.1
  exact ⟨_, same_upd n0, h.freeze hi e hn, .obj upd_same ((AsF.dat l).mono (same_upd n0))⟩
/-- C(..) as data -/
theorem v_make {J : α → OCtx → Prop} {c : String} (h : WE T Γ e Ω (JI T c fun fs Ω1 => ∃ ds y, fs = datF ds ∧ enc y = .obj c ds ∧ J y Ω1)) : WV T Γ enc e Ω J := fun σ H H0 hs sl => sem_mono (h σ H H0 hs sl) fun v H1 ⟨H01, a, Ω1, s1, hs1, ka, q, fs, Ω2, e1, e2, e3, ds, y, e4, e5, j⟩ => by
  subst e1 e3 e4
  obtain ⟨H02, s2, hs2, r⟩ := hs1.freezeI0 e2
  cases (show v = .ref q from ka)
  exact ⟨H02, .dat (enc y), Ω2, s1.trans s2, hs2, by rw [e5]; exact r, y, rfl, j⟩
/-- .. owned -/
theorem o_make {c : String} (h : WE T Γ e Ω (JI T c fun fs Ω1 => ∀ q, T.G.He q = none → J (.own q) ((q, .ins c fs) :: Ω1))) : WE T Γ e Ω J := WE.imp h fun a Ω' ⟨q, fs, Ω1, e1, e2, e3, j⟩ => by
  subst e1 e3
  exact j q e2
/-! ### attributes -/
theorem lookup_F {K : PySem.W.Frag} {H : Hp} {f : String} {d : D} : ∀ {fs : List (Str × V)} {ds : List (String × D)}, IsF K H fs ds → ds.lookup f = some d → ∃ v, fs.lookup (Str.ofString f) = some v ∧ Is K H v d
  | _, _, .nil, e => nomatch e
  | _, _, .cons (f := g) h l, e => by
    rw [List.lookup_cons] at e ⊢
    by_cases q : f = g
    · subst q
      simp at e ⊢
      subst e
      exact h
    · have q1 : (f == g) = false := by simpa using q
      have q2 : (Str.ofString f == Str.ofString g) = false := beq_eq_false_iff_ne.mpr fun z => q (ofString_inj z)
      rw [q1] at e
      rw [q2]
      exact lookup_F l e
theorem lookup_AF {K : PySem.W.Frag} {H : Hp} {f : String} {d : As} : ∀ {fs : List (Str × V)} {ds : List (String × As)}, AsF K H fs ds → ds.lookup f = some d → ∃ v, fs.lookup (Str.ofString f) = some v ∧ AsOk K H d v
  | _, _, .nil, e => nomatch e
  | (f', v) :: fs, (g, a) :: ds, .cons h l, e => by
    obtain ⟨h1, h2⟩ := h
    replace h1 : f' = Str.ofString g := h1
    subst h1
    rw [List.lookup_cons] at e ⊢
    by_cases q : f = g
    · subst q
      simp at e ⊢
      subst e
      exact h2
    · have q1 : (f == g) = false := by simpa using q
      have q2 : (Str.ofString f == Str.ofString g) = false := beq_eq_false_iff_ne.mpr fun z => q (ofString_inj z)
      rw [q1] at e
      rw [q2]
      exact lookup_AF l e
/-- how a field is read off the data -/
def FldOf (enc : α → D) (c f : String) (enb : β → D) (g : α → β) : Prop := ∀ x, ∃ ds, enc x = .obj c ds ∧ ds.lookup f = some (enb (g x))
/-- what the written part says of a class and its attribute -/
structure ClsF (W : Wd) (c f : String) : Prop where
  cls : Cls W.K (He.ga W.K (Str.ofString c))
  no : NoAttr W.K (He.ga W.K (Str.ofString c)) (Str.ofString f)
theorem v_fld {J : β → OCtx → Prop} {c f : String} {g : α → β} (hF : FldOf enc c f enb g) (hC : ClsF W c f) (h : WV T Γ enc o Ω fun x Ω1 => J (g x) Ω1)
    (hb : attributeBase o (Str.ofString f) T.X.env (eval o T.X.env) = eval o T.X.env := by rfl) : WV T Γ enb (.Attribute o (Str.ofString f) pos) Ω J := fun σ H H0 hs sl => by
  refine of_pe (pe_fld pe_sem hb) (sem_mono (h σ H H0 hs sl) fun v H1 ⟨H01, ax, Ω1, s1, hs1, ka, x, ex, j⟩ => ?_)
  subst ex
  obtain ⟨ds, e1, e2⟩ := hF x
  have ka' : Is W.K H01 v (.obj c ds) := by rw [← e1]; exact ka
  cases ka' with
  | obj hq l =>
    obtain ⟨w, e3, r⟩ := lookup_F l e2
    exact ⟨_, _, _, _, w, rfl, hs1.sub _ _ hq, by rw [T.K]; exact hC.cls, by rw [T.K]; exact hC.no, e3, .mk s1 hs1 r j⟩
/-- a field of an owned instance -/
theorem e_fldO {c f : String} {d : As} (i j : Nat) {x : Str} {q : Addr} {fs : List (String × As)} (hΓ : Γ[i]? = some (some (.own q))) (hΩ : Ω[j]? = some (q, .ins c fs)) (hf : fs.lookup f = some d) (k : J d Ω) (hC : ClsF W c f)
    (hN : S.N[i]? = some x := by rfl) (hv : S.vl.elem i = true := by rfl)
    (hb : attributeBase (.Name x p) (Str.ofString f) T.X.env (eval (.Name x p) T.X.env) = eval (.Name x p) T.X.env := by rfl) : WE T Γ (.Attribute (.Name x p) (Str.ofString f) pos) Ω J := fun σ H H0 hs sl => by
  refine of_pe (pe_fld pe_sem hb) (sem_mono (e_var (T := T) (Γ := Γ) (J := fun a Ω' => a = .own q ∧ Ω' = Ω) i hN hv hΓ ⟨rfl, rfl⟩ σ H H0 hs sl) fun v H1 ⟨H01, ax, Ω1, s1, hs1, ka, e1, e2⟩ => ?_)
  subst e1 e2
  obtain ⟨ho, z1, z2⟩ := hs1.at_ hΩ
  obtain ⟨dx, vs, rfl, l⟩ := z2
  obtain ⟨w, e3, r⟩ := lookup_AF l hf
  exact ⟨q, _, dx, vs, w, ka, z1, by rw [T.K]; exact hC.cls, by rw [T.K]; exact hC.no, e3, H01, d, _, s1, hs1, r, k⟩
def putA (f : String) (v : As) : List (String × As) → List (String × As)
  | [] => [(f, v)]
  | (g, x) :: r => if g = f then (g, v) :: r else (g, x) :: putA f v r
theorem put_AF {K : PySem.W.Frag} {H : Hp} {f : String} {d : As} {v : V} (h : AsOk K H d v) : ∀ {fs : List (Str × V)} {ds : List (String × As)}, AsF K H fs ds → AsF K H (putF (Str.ofString f) v fs) (putA f d ds)
  | _, _, .nil => .cons ⟨rfl, h⟩ .nil
  | (f', w) :: fs, (g, a) :: ds, .cons h0 l => by
    obtain ⟨h1, h2⟩ := h0
    replace h1 : f' = Str.ofString g := h1
    subst h1
    by_cases q : g = f
    · subst q
      unfold putF putA
      rw [if_pos rfl, if_pos rfl]
      exact .cons ⟨rfl, h⟩ l
    · unfold putF putA
      rw [if_neg (fun z => q (ofString_inj z)), if_neg q]
      exact .cons ⟨rfl, h2⟩ (put_AF h l)
/-- self.f = e of an owned instance -/
theorem s_fld {c f : String} (i j : Nat) {x : Str} {q : Addr} {pos' : Pos} (hC : ClsF W c f) (hΓ : Γ[i]? = some (some (.own q)))
    (h : WE T Γ e Ω fun a Ω1 => ∃ fs fs' : List (String × As), Ω1[j]? = some (q, .ins c fs) ∧ fs.length < 900 ∧ putA f a fs = fs' ∧ Z.nx Γ (Ω1.set j (q, .ins c fs')))
    (hN : S.N[i]? = some x := by rfl) (hv : S.vl.elem i = true := by rfl)
    (hsw : swapsWith e (some (.Attribute (.Name x p) (Str.ofString f) pos')) pos.line T.X.env = pure false := by rfl) : WS T Γ (.Assign [.Attribute (.Name x p) (Str.ofString f) pos'] e pos) Ω Z := fun σ H H0 hs sl => by
  refine of_ps (ps_fld pe_sem pe_sem hsw) (sem_mono (h σ H H0 hs sl) fun v H1 ⟨H01, ax, Ω1, s1, hs1, ka, fs, fs', e1, e2, e3, k⟩ => ?_)
  subst e3
  refine sem_mono (e_var (T := T) (Γ := Γ) (J := fun a Ω' => a = .own q ∧ Ω' = Ω1) i hN hv hΓ ⟨rfl, rfl⟩ σ H1 H01 hs1 (sl.mono s1)) fun u H2 ⟨H02, ay, Ω2, s2, hs2, kb, e4, e5⟩ => ?_
  subst e4 e5
  obtain ⟨ho, z1, z2⟩ := hs2.at_ e1
  obtain ⟨dx, vs, rfl, l⟩ := z2
  have hl : vs.length = fs.length := Paired.length l
  refine ⟨q, _, dx, vs, kb, z1, by rw [T.K]; exact hC.cls, by rw [T.K]; exact hC.no, by omega, Γ, _, H02, s1.trans s2, hs2.write (od' := .ins c (putA f ax fs)) e1 ⟨dx, _, rfl, put_AF (ka.mono s2) l⟩, (sl.mono s1).mono s2, k⟩

/-! ### freezing -/
theorem Hs.freezeL {K : PySem.W.Frag} {G : En} {Ω : OCtx} {H0 H : Hp} {q : Addr} {xs : List α} {j : Nat} (h : Hs K G Ω H0 H) (hi : Ω[j]? = some (q, oL enc xs)) (hn : G.He q = none) : ∃ H0', Same H0 H0' ∧ Hs K G (Ω.eraseIdx j) H0' H ∧ Is K H0' (.ref q) (dL enc xs) := by
  obtain ⟨ho, e, k⟩ := h.at_ hi
  obtain ⟨vs, rfl, z, l⟩ := asL_oL k
  have n0 := (h.own q _ (List.mem_of_getElem? hi)).2.1
  exact ⟨_, same_upd n0, h.freeze hi e hn, .lst z upd_same (l.mono (same_upd n0))⟩
/-- a slot's owned list stands from here on -/
theorem s_frz (i j : Nat) {q : Addr} {xs : List α} (hΓ : Γ[i]? = some (some (.own q))) (hΩ : Ω[j]? = some (q, oL enc xs)) (hq : T.G.He q = none) (h : WSs T (Γ.set i (some (.dat (dL enc xs)))) sts (Ω.eraseIdx j) Z) : WSs T Γ sts Ω Z := fun σ H H0 hs sl => by
  obtain ⟨H0', s1, hs1, r⟩ := hs.freezeL hΩ hq
  obtain ⟨v, e1, e2⟩ := (sl.mono s1).at_ i _ hΓ
  have sl2 := (sl.mono s1).set (i := i) (v := v) (a := .dat (dL enc xs)) (by cases (show v = .ref q from e2); exact r)
  have e3 : σ.set i (some v) = σ := by
    refine List.ext_getElem? fun n => ?_
    rw [List.getElem?_set]
    by_cases w : i = n
    · subst w
      have l : i < σ.length := (List.getElem?_eq_some_iff.mp e1).1
      rw [e1]
      simp [l]
    · simp [w]
  rw [e3] at sl2
  exact semSs_up s1 (h σ H H0' hs1 sl2)
theorem s_drop (j : Nat) (h : WSs T Γ sts (Ω.eraseIdx j) Z) : WSs T Γ sts Ω Z := fun σ H H0 hs sl => h σ H H0 (hs.drop j) sl

/-! ### methods of an owned list -/
theorem lm_go {r : V → List V → Hp → VK → Prop} {id : String} {name x : Str} (slot : Slot "list" name id) (hty : typeOf (.builtin id) = pure (.type "method_descriptor")) (hm : MtR T.X id r) (i j : Nat) {q : Addr} {as0 : List As} {JJ : List As → OCtx → Prop}
    (hΓ : Γ[i]? = some (some (.own q))) (hΩ : Ω[j]? = some (q, .lst as0)) (h : WA T Γ (e :: es) Ω JJ)
    (k : ∀ as Ω1 vs H1 H01 H0, Same H0 H01 → Hs W.K T.G Ω1 H01 H1 → AsL W.K H01 vs as → JJ as Ω1 → r (.ref q) vs H1 (QE W.K T.G J H0))
    (hN : S.N[i]? = some x) (hv : S.vl.elem i = true)
    (hbase : attributeBase (.Name x p) name T.X.env (eval (.Name x p) T.X.env) = eval (.Name x p) T.X.env)
    (hfew : ((backTo cpos (starEach (e :: es) T.X.env)).all (fun x => !x.1) && (backToKw cpos (keywordEach [] T.X.env)).all (fun x => x.1.isSome)
      && decide ((e :: es).length + ([] : List Keyword).length + (if ([] : List Keyword).isEmpty then 0 else 1) < 30)) = true)
    (hline : (apos.endLine == cpos.line) = true) (hst : starEach (e :: es) T.X.env = (false, eval e T.X.env) :: starEach es T.X.env) (hplain : (backTo cpos (starEach es T.X.env)).any (·.1) = false) :
    WE T Γ (.Call (.Attribute (.Name x p) name apos) (e :: es) [] cpos) Ω J := fun σ H H0 hs sl => by
  refine of_pe (pe_bm PySem.F.plainAttrs_list slot hty hm pe_sem pa_sem hbase hfew hline hst hplain) ?_
  refine sem_mono (e_var (T := T) (Γ := Γ) (J := fun a Ω' => a = .own q ∧ Ω' = Ω) i hN hv hΓ ⟨rfl, rfl⟩ σ H H0 hs sl) fun v H1 ⟨H01, ax, Ω1, s1, hs1, ka, e1, e2⟩ => ?_
  subst e1 e2
  obtain rfl : v = .ref q := ka
  obtain ⟨ho, z1, z2⟩ := hs1.at_ hΩ
  obtain ⟨vs, rfl, lz, l⟩ := z2
  refine ⟨.inl ⟨rfl, vs, SqL.of z1⟩, semA_mono (h σ H1 H01 hs1 (sl.mono s1)) fun us H2 ⟨H02, as, Ω2, s2, hs2, kb, jj⟩ => ?_⟩
  exact k as Ω2 us H2 H02 H0 (s1.trans s2) hs2 kb jj
theorem lm0_go {r : V → List V → Hp → VK → Prop} {id : String} {name x : Str} (slot : Slot "list" name id) (hty : typeOf (.builtin id) = pure (.type "method_descriptor")) (hm : MtR T.X id r) (i j : Nat) {q : Addr} {as0 : List As}
    (hΓ : Γ[i]? = some (some (.own q))) (hΩ : Ω[j]? = some (q, .lst as0))
    (k : ∀ H1 H01 H0, Same H0 H01 → Hs W.K T.G Ω H01 H1 → r (.ref q) [] H1 (QE W.K T.G J H0))
    (hN : S.N[i]? = some x) (hv : S.vl.elem i = true)
    (hbase : attributeBase (.Name x p) name T.X.env (eval (.Name x p) T.X.env) = eval (.Name x p) T.X.env) (hline : (apos.endLine == cpos.line) = true) :
    WE T Γ (.Call (.Attribute (.Name x p) name apos) [] [] cpos) Ω J := fun σ H H0 hs sl => by
  refine of_pe (pe_bm0 PySem.F.plainAttrs_list slot hty hm pe_sem hbase hline) ?_
  refine sem_mono (e_var (T := T) (Γ := Γ) (J := fun a Ω' => a = .own q ∧ Ω' = Ω) i hN hv hΓ ⟨rfl, rfl⟩ σ H H0 hs sl) fun v H1 ⟨H01, ax, Ω1, s1, hs1, ka, e1, e2⟩ => ?_
  subst e1 e2
  obtain rfl : v = .ref q := ka
  obtain ⟨ho, z1, z2⟩ := hs1.at_ hΩ
  obtain ⟨vs, rfl, lz, l⟩ := z2
  exact ⟨.inl ⟨rfl, vs, SqL.of z1⟩, k _ _ _ s1 hs1⟩
def appM (xs : List α) (x : α) : M (List α) := chk (decide (xs.length < sizeLine)) (.ok (xs ++ [x]))
theorem isL_one {K : PySem.W.Frag} {H : Hp} {v : V} {d : D} (h : Is K H v d) : IsL K H [v] [d] := .cons h .nil
/-- xs.append(y) -/
theorem v_append {J : Unit → OCtx → Prop} {Ψ : Exc → Prop} (i j : Nat) {x : Str} {q : Addr} {xs0 : List α} (hΓ : Γ[i]? = some (some (.own q))) (hΩ : Ω[j]? = some (q, oL enc xs0))
    (h : WV T Γ enc e Ω fun y Ω1 => ∃ xs : List α, Ω1[j]? = some (q, oL enc xs) ∧ Run (appM xs y) (fun ys => J () (Ω1.set j (q, oL enc ys))) Ψ)
    (hN : S.N[i]? = some x := by rfl) (hv : S.vl.elem i = true := by rfl)
    (hbase : attributeBase (.Name x p) ("append" : Str) T.X.env (eval (.Name x p) T.X.env) = eval (.Name x p) T.X.env := by rfl)
    (hfew : ((backTo cpos (starEach (e :: []) T.X.env)).all (fun x => !x.1) && (backToKw cpos (keywordEach [] T.X.env)).all (fun x => x.1.isSome)
      && decide ((e :: []).length + ([] : List Keyword).length + (if ([] : List Keyword).isEmpty then 0 else 1) < 30)) = true := by rfl)
    (hline : (apos.endLine == cpos.line) = true := by rfl) (hst : starEach (e :: []) T.X.env = (false, eval e T.X.env) :: starEach [] T.X.env := by rfl) (hplain : (backTo cpos (starEach [] T.X.env)).any (·.1) = false := by rfl) :
    WV T Γ dN (.Call (.Attribute (.Name x p) ("append" : Str) apos) [e] [] cpos) Ω J :=
  lm_go (JJ := fun as Ω1 => ∃ y xs, as = [.dat (enc y)] ∧ Ω1[j]? = some (q, oL enc xs) ∧ Run (appM xs y) (fun ys => J () (Ω1.set j (q, oL enc ys))) Ψ) PySem.F.slot_list_append PySem.F.type_list_append mt_append i j hΓ hΩ
    (a_v (h.imp fun y Ω1 ⟨xs, e1, r⟩ => a_nil ⟨y, xs, rfl, e1, r⟩) hst)
    (fun as Ω1 vs H1 H01 H0 s1 hs1 ka ⟨y, xs, e1, e2, hr⟩ => by
      subst e1
      obtain ⟨v, rfl, kv⟩ : ∃ v, vs = [v] ∧ Is W.K H01 v (enc y) := by
        cases ka with
        | cons h t => cases t; exact ⟨_, rfl, h⟩
      obtain ⟨ho, z1, z2⟩ := hs1.at_ e2
      obtain ⟨ws, rfl, lz, l⟩ := asL_oL z2
      obtain ⟨h1, h2⟩ := chk_ok hr
      have h1 := of_decide_eq_true h1
      have hl : ws.length = xs.length := by rw [l.length, List.length_map]
      exact ⟨q, ws, v, rfl, rfl, z1, by omega, H01, .dat .non, _, s1, hs1.write e2 (oL_ok (xs := xs ++ [y]) (by simp; omega) (by rw [List.map_append]; exact l.append (isL_one kv))), Is.non, (), rfl, h2⟩)
    hN hv hbase hfew hline hst hplain
/-- xs.reverse() -/
theorem v_reverse {J : Unit → OCtx → Prop} (i j : Nat) {x : Str} {q : Addr} {xs : List α} (hΓ : Γ[i]? = some (some (.own q))) (hΩ : Ω[j]? = some (q, oL enc xs)) (k : J () (Ω.set j (q, oL enc xs.reverse)))
    (hN : S.N[i]? = some x := by rfl) (hv : S.vl.elem i = true := by rfl)
    (hbase : attributeBase (.Name x p) ("reverse" : Str) T.X.env (eval (.Name x p) T.X.env) = eval (.Name x p) T.X.env := by rfl) (hline : (apos.endLine == cpos.line) = true := by rfl) :
    WV T Γ dN (.Call (.Attribute (.Name x p) ("reverse" : Str) apos) [] [] cpos) Ω J :=
  lm0_go PySem.F.slot_list_reverse PySem.F.type_list_reverse mt_reverse i j hΓ hΩ
    (fun H1 H01 H0 s1 hs1 => by
      obtain ⟨ho, z1, z2⟩ := hs1.at_ hΩ
      obtain ⟨ws, rfl, lz, l⟩ := asL_oL z2
      exact ⟨q, ws, rfl, rfl, z1, H01, .dat .non, _, s1, hs1.write hΩ (oL_ok (xs := xs.reverse) (by simp; exact lz) (by rw [List.map_reverse]; exact l.reverse)), Is.non, (), rfl, k⟩) hN hv hbase hline
/-- xs.pop() -/
def popM (xs : List α) : M (α × List α) := match xs.getLast? with
  | some x => .ok (x, xs.dropLast)
  | none => .stuck
theorem IsL.dropLast {K : PySem.W.Frag} {H : Hp} {vs : List V} {ds : List D} (l : IsL K H vs ds) : IsL K H vs.dropLast ds.dropLast := by
  rw [List.dropLast_eq_take, List.dropLast_eq_take, l.length]
  exact l.take _
theorem v_pop {J : α → OCtx → Prop} {Ψ : Exc → Prop} (i j : Nat) {x : Str} {q : Addr} {xs : List α} (hΓ : Γ[i]? = some (some (.own q))) (hΩ : Ω[j]? = some (q, oL enc xs)) (k : Run (popM xs) (fun r => J r.1 (Ω.set j (q, oL enc r.2))) Ψ)
    (hN : S.N[i]? = some x := by rfl) (hv : S.vl.elem i = true := by rfl)
    (hbase : attributeBase (.Name x p) ("pop" : Str) T.X.env (eval (.Name x p) T.X.env) = eval (.Name x p) T.X.env := by rfl) (hline : (apos.endLine == cpos.line) = true := by rfl) :
    WV T Γ enc (.Call (.Attribute (.Name x p) ("pop" : Str) apos) [] [] cpos) Ω J :=
  lm0_go PySem.F.slot_list_pop PySem.F.type_list_pop mt_pop i j hΓ hΩ
    (fun H1 H01 H0 s1 hs1 => by
      obtain ⟨ho, z1, z2⟩ := hs1.at_ hΩ
      obtain ⟨ws, rfl, lz, l⟩ := asL_oL z2
      unfold popM at k
      cases e : xs.getLast? with
      | none => rw [e] at k; exact k.no.elim
      | some y =>
        rw [e] at k
        have hl : ws.length = xs.length := by rw [l.length, List.length_map]
        rw [List.getLast?_eq_getElem?] at e
        obtain ⟨u, e1, r⟩ := l.get (i := ws.length - 1) (x := enc y) (by rw [hl, List.getElem?_map, e]; rfl)
        exact ⟨q, ws, u, rfl, rfl, z1, e1, H01, .dat (enc y), _, s1, hs1.write hΩ (oL_ok (xs := xs.dropLast) (by simp; omega) (by rw [List.map_dropLast]; exact l.dropLast)), r, y, rfl, k.get⟩) hN hv hbase hline

/-! ### unpacking -/
theorem IsL.one {K : PySem.W.Frag} {H : Hp} {v : V} {d : D} (h : Is K H v d) : IsL K H [v] [d] := .cons h .nil
/-- (x, y) = e, .. where e is data -/
theorem s_asgG {tg : Expr} (h : WV T Γ enc e Ω fun x Ω1 => WG T Γ tg (enc x) fun Γ' => Z.nx Γ' Ω1) (hs : swapsWithSole [tg] e pos.line T.X.env = pure false := by rfl) (hw : swappedStores [tg] e T.X.env = pure none := by rfl) (h1 : (assignEach [tg] T.X.env).map (·.2) = [assign tg T.X.env] := by rfl) : WS T Γ (.Assign [tg] e pos) Ω Z := fun σ H H0 hs0 sl => by
  refine of_ps (ps_asg pe_sem pg_sem hs hw h1) (sem_mono (h σ H H0 hs0 sl) fun v H1 ⟨H01, ax, Ω1, s1, hs1, ka, x, ex, g⟩ => ?_)
  subst ex
  refine .mk fun pins s u I r => thn ((g σ H1 H01 v hs1.sub (sl.mono s1) ka).run pins s u I r) fun _ s' ⟨σ', H', I', e1, e2, Γ', sl', k⟩ => ⟨σ', H', I', ?_⟩
  subst e1
  exact ⟨Γ', Ω1, H01, s1, hs1, sl', k⟩
/-- a, b = x, y into two plain names -/
theorem s_par {i j : Nat} {x y : Str} {px py pt pt2 : Pos} {kt k2 : Nat} (h : WA T Γ [a, b] Ω fun as Ω1 => ∃ u v, as = [u, v] ∧ Z.nx ((Γ.set i (some u)).set j (some v)) Ω1)
    (hi : S.N[i]? = some x := by rfl) (hj : S.N[j]? = some y := by rfl) (hij : i ≠ j := by decide) (hx : S.sc.names.lookup x = some .local := by rfl) (hy : S.sc.names.lookup y = some .local := by rfl) (hc : S.calm = true := by rfl)
    (hw : ∀ env : Env, env.scope = S.sc → swappedStores [.Tuple [.Name x px, .Name y py] kt pt] (.Tuple [a, b] k2 pt2) env = pure (some [x, y]) := by (intro env h; cases env; dsimp only at h; subst h; rfl))
    (hs : swapsWithSole [.Tuple [.Name x px, .Name y py] kt pt] (.Tuple [a, b] k2 pt2) pos.line T.X.env = pure false := by rfl) :
    WS T Γ (.Assign [.Tuple [.Name x px, .Name y py] kt pt] (.Tuple [a, b] k2 pt2) pos) Ω Z := fun σ H H0 hs0 sl => by
  refine of_ps (ps_par (T.calm hc) (by rw [T.hN]; exact T.ok.nd) (by rw [T.hN]; exact hi) (by rw [T.hN]; exact hj) hij (by rw [T.hsc]; exact hx) (by rw [T.hsc]; exact hy) pa_sem (hw _ T.hsc) hs) (semA_mono (h σ H H0 hs0 sl) fun vs H1 ⟨H01, as, Ω1, s1, hs1, ka, u, v, e1, k⟩ => ?_)
  subst e1
  cases ka with
  | cons h1 t =>
    cases t with
    | cons h2 t2 =>
      cases t2
      exact ⟨_, _, rfl, _, Ω1, H01, s1, hs1, ((sl.mono s1).set h1).set h2, k⟩
/-! ### tuples joined and cut -/
def catU (xs ys : List α) : M (List α) := chk (decide (xs.length + ys.length ≤ sizeLine)) (.ok (xs ++ ys))
theorem v_catU {J : List α → OCtx → Prop} {Ψ : Exc → Prop} (h : WV T Γ (dU enc) a Ω fun xs Ω1 => WV T Γ (dU enc) b Ω1 fun ys Ω2 => Run (catU xs ys) (fun zs => J zs Ω2) Ψ) : WV T Γ (dU enc) (.BinOp a .Add b pos) Ω J := fun σ H H0 hs sl =>
  of_pe (pe_op op_catA pe_sem pe_sem) (two hs sl h fun xs ys v u H2 H02 Ω2 j s hs2 r1 r2 => by
    obtain ⟨h1, h2⟩ := chk_ok j
    have h1 := of_decide_eq_true h1
    have r1' := r1
    have r2' := r2
    cases r1 with
    | @tup p vs _ z1 q1 l1 =>
      cases r2 with
      | @tup q us _ z2 q2 l2 =>
        have n1 : vs.length = xs.length := by rw [l1.length, List.length_map]
        have n2 : us.length = ys.length := by rw [l2.length, List.length_map]
        refine ⟨p, q, vs, us, rfl, rfl, by rw [T.K]; exact SameT hs2.sub q1, by rw [T.K]; exact SameT hs2.sub q2, by omega, fun e => ?_, fun e1 e2 => ?_, fun _ _ r n => ?_⟩
        · have : xs = [] := by
            apply List.eq_nil_of_length_eq_zero
            rw [← n1, e]; rfl
          subst this
          exact .mk (enc := dU enc) s hs2 r2' h2
        · have : ys = [] := by
            apply List.eq_nil_of_length_eq_zero
            rw [← n2, e2]; rfl
          subst this
          rw [List.append_nil] at h2
          exact .mk (enc := dU enc) s hs2 r1' h2
        · exact .new s hs2 n (is_tup (ds := (xs ++ ys).map enc) (hs2.free0 n) (by rw [List.length_append]; omega) (by rw [List.map_append]; exact l1.append l2)) ⟨xs ++ ys, rfl, h2⟩)
end
end Y
/-! YX: an own exception over ValueError whose __init__ says super().__init__(..) ahead of its fields. -/
namespace Y
open PySem PySem.Spec PyProof.Rows L2
/-- the environment of a def that closes over __class__ -/
abbrev senv (qual : Str) (scope : Scope) (L f : Addr) (cd : Value) (cc : Addr) : Env := PySem.W.ksEnv qual scope L f cd cc
def cxS (CX : CXT) (P : Program) (w : World) (K : PySem.W.Frag) (mg : Str → Option Value) (base : Heap) (N : List Str) (qual : Str) (scope : Scope) (f : Addr) (cd : Value) (cc : Addr) (A : Around) (outer : List Env) (s : Shared) (H : Hp) (E : XK) : Cx where
  prog := P
  w := w
  K := K
  mg := mg
  base := base
  A := A.deeper (senv qual scope s.heap.objs.size f cd cc)
  N := N
  s_0 := s
  H_0 := H
  env := senv qual scope s.heap.objs.size f cd cc
  outer := outer
  stack := senv qual scope s.heap.objs.size f cd cc :: outer
  ex := []
  calm := true
  fn := fun x => !(x == ("__class__" : Str))
  pn := []
  xe := fun e s' => wpAny (model P w) (A.deeper (senv qual scope s.heap.objs.size f cd cc)) (leaving (senv qual scope s.heap.objs.size f cd cc) e) (fun _ s'' => CX outer H s E e s'') (fun e' s'' => CX outer H s E e' s'') s'
/-- parameters are plain, nothing is a cell, __class__ alone is free -/
structure SScope (N ps : List Str) (sc : Scope) : Prop where
  kind : sc.kind = .function
  co : sc.isCoroutine = false
  gen : sc.isGenerator = false
  nd : N.Nodup
  pre : N.take ps.length = ps
  par : ∀ x ∈ ps, sc.names.lookup x = some .local
  nocell : ∀ y ∈ sc.names, y.2 ≠ .cell
  free : ∀ y ∈ sc.names, y.2 = .free → y.1 = "__class__"
  cls : sc.names.lookup ("__class__" : Str) = some .free
  sup : sc.names.lookup ("super" : Str) = some .globalImplicit
theorem zip_sub : ∀ (ps : List Str) (us : List Value), ((ps.zip us).map (·.1)).Sublist ps
  | [], _ => by simp
  | _ :: _, [] => by simp
  | p :: ps, u :: us => (zip_sub ps us).cons₂ p
theorem zip_lookup : ∀ {ps : List Str} {us : List Value} {i : Nat} {y : Str} {u : Value}, ps.Nodup → ps[i]? = some y → us[i]? = some u → (ps.zip us).reverse.lookup y = some u := by
  intro ps us i y u nd h1 h2
  have key : ∀ {l : List (Str × Value)}, (l.map (·.1)).Nodup → (y, u) ∈ l → l.lookup y = some u := by
    intro l
    induction l with
    | nil => intro _ m; cases m
    | cons p l ih =>
      intro nd m
      obtain ⟨a, b⟩ := p
      rw [List.lookup_cons]
      rcases List.mem_cons.mp m with e | m
      · cases e
        simp
      · have ne : y ≠ a := fun z => (List.nodup_cons.mp nd).1 (List.mem_map.mpr ⟨(y, u), m, z⟩)
        have : (y == a) = false := by simpa using ne
        rw [this]
        exact ih (List.nodup_cons.mp nd).2 m
  refine key ?_ (List.mem_reverse.mpr (List.mem_iff_getElem?.mpr ⟨i, ?_⟩))
  · rw [List.map_reverse]
    exact List.pairwise_reverse.mpr (((zip_sub ps us).nodup nd).imp fun h => h.symm)
  · rw [List.getElem?_zip_eq_some]
    exact ⟨h1, h2⟩
section
variable {CX : CXT} {P : Program} {w : World} {K : PySem.W.Frag} {mg : Str → Option Value} {base : Heap} {N ps : List Str} {qual : Str} {scope : Scope} {f cc : Addr} {cd : Value} {A : Around} {outer : List Env} {s : Shared} {H : Hp} {E : XK}
theorem inv_S {oc : Obj} {us : List Value} {vs : List V} {h1 : Heap} {tk : Nat} (S : SScope N ps scope) (hd : A.handled = none) (e0 : Env0 P w K mg base A outer s H) (hl : vs.length = ps.length) (r : Vals vs us)
    (hcell : K.lookup cc = some oc) (hco : ∃ v, oc.data = .cell v) (hns : h1.Ns s.heap.objs.size (fun x => (ps.zip us).reverse.lookup x)) (hk : ∀ b o, s.heap.get? b = some o → h1.get? b = some o) :
    Inv (cxS CX P w K mg base N qual scope f cd cc A outer s H E) [] (L2.start N vs) H { s with heap := h1, toks := tk } := by
  have hpl : ps.length ≤ N.length := by have := congrArg List.length S.pre; rw [List.length_take] at this; omega
  have noA : ∀ b : Addr, b ∉ (cxS CX P w K mg base N qual scope f cd cc A outer s H E).ex := fun b z => absurd (show b ∈ ([] : List Addr) from z) (by simp)
  have one : ∀ {x : Str} {c : Addr}, (cxS CX P w K mg base N qual scope f cd cc A outer s H E).env.cells.lookup x = some c → x = "__class__" ∧ c = cc := fun {x c} e => by
    have e' : List.lookup x [(("__class__" : Str), cc)] = some c := e
    rw [List.lookup_cons] at e'
    by_cases q : x = ("__class__" : Str)
    · subst q
      simp at e'
      exact ⟨rfl, e'.symm⟩
    · have : (x == ("__class__" : Str)) = false := by simpa using q
      rw [this] at e'
      cases e'
  have KX : K.In base := e0.mod.kin
  have cb : base.get? cc = some oc := KX _ _ hcell
  refine ⟨⟨e0.mod, S.kind, rfl, rfl, Nat.le_refl _, fun y z c h1 h2 => (one h1).1.trans (one h2).1.symm, fun y hy => ?_, fun y c h1 h2 => ?_, fun _ => hd, Around.frames_deeper e0.frames, .inr ⟨rfl, rfl⟩, fun b z => absurd z (noA b), e0.bs, e0.bsz, fun b _ _ => noA b, fun b z => absurd z (noA b), e0.funs, e0.frf⟩,
    rfl, e0.bare, Un.kept hk, ⟨_, hns, fun i y v h1 h2 h3 => ?_⟩, fun y c h => ?_, e0.hok.fresh (Nat.le_refl _), fun y c h => ?_, fun p hp => absurd (show p ∈ ([] : List (Addr × Obj)) from hp) (by simp), e0.hok.kept hk, ?_⟩
  · refine ⟨cc, ?_⟩
    have hy' : scope.names.lookup y = some .cell ∨ scope.names.lookup y = some .free := hy
    have e : y = "__class__" := by
      rcases hy' with q | q
      · exact absurd rfl (S.nocell _ (PySem.mem_of_lookup q))
      · exact S.free _ (PySem.mem_of_lookup q) rfl
    subst e
    show List.lookup _ [(("__class__" : Str), cc)] = _
    simp
  · obtain ⟨rfl, rfl⟩ := one h2
    have : (!((("__class__" : Str)) == ("__class__" : Str))) = true := h1
    simp at this
  · have hi : i < vs.length := by
      unfold L2.start at h2
      by_cases hi : i < vs.length
      · exact hi
      · rw [List.getElem?_append_right (by simpa using hi)] at h2
        rw [List.getElem?_replicate] at h2
        split at h2 <;> cases h2
    have ha : vs[i]? = some v := by
      unfold L2.start at h2
      rw [List.getElem?_append_left (by simpa using hi), List.getElem?_map] at h2
      cases e : vs[i]? with
      | none => rw [e] at h2; cases h2
      | some a => rw [e] at h2; cases h2; rfl
    obtain ⟨u, hu, rv⟩ := r.get ha
    have hp : ps[i]? = some y := by
      rw [← S.pre, List.getElem?_take_of_lt (by omega)]; exact h1
    have ndP : ps.Nodup := by rw [← S.pre]; exact S.nd.sublist (List.take_sublist _ _)
    exact ⟨u, rv, .inl ⟨S.par y (List.mem_of_getElem? hp), zip_lookup ndP hp hu⟩⟩
  · obtain ⟨rfl, rfl⟩ := one h
    obtain ⟨v, hv⟩ := hco
    exact ⟨v, oc, hk _ _ (e0.bs _ _ cb).1, hv⟩
  · obtain ⟨rfl, rfl⟩ := one h
    exact (e0.bs _ _ cb).2
  · unfold L2.start
    show _ = N.length
    rw [List.length_append, List.length_map, List.length_replicate]
    omega
end
/-- what the written part says of an exception's class C and of D, whose __init__ is the def at f -/
structure SupC (P : Program) (K : PySem.W.Frag) (C f cc cda : Addr) (ar : Arg) : Prop where
  oex : OexC K C
  fd : ∃ oc od fd osl, K.lookup f = some ⟨oc, od, .func fd, osl⟩ ∧ (fd.params.posonlyargs ++ fd.params.args).head? = some ar
  code : ∃ ccl cdd vs ccs file tf, K.lookup cda = some ⟨ccl, cdd, .fields vs, ccs⟩ ∧ vs[2]? = some (.str file tf) ∧ ((P.main.file : Str) == file) = true
  D : ∃ D cl cld csl cdD cd, K.lookup cc = some ⟨cl, cld, .cell (some (.ref D)), csl⟩ ∧ PySem.W.clsIn K D = some cdD ∧ PySem.W.mroIn K C (.ref D) = some true ∧ PySem.W.clsIn K C = some cd ∧ PySem.W.alongIn K "__init__" ((cd.mro.dropWhile (· != .ref D)).drop 1) = some (some (.builtin "ValueError.__init__"))
  ve : PySem.W.subIn K (.ref C) (.type "ValueError") = some true
  no : PySem.W.nsIn K cStatics "thirdparty.any" = some none
  top : (P.main.scope.names.lookup ("super" : Str)).isSome = false
theorem boot_super : bootBuiltins "super" = some (.type "super") := by decide +kernel
section
variable {X : Cx} {pins : List (Addr × Obj)} {σ : L2.St} {H : Hp} {s : Shared}
/-- a new untracked object at the end of the heap may be pinned -/
theorem pin_push (I : Inv X pins σ H s) {o : Obj} (hf : o.isFreed = false) (ho : ∀ v, o.data ≠ .cell v) (tk : Nat) : Inv X [(s.heap.objs.size, o)] σ H { s with heap := s.heap.push o, toks := tk } := by
  have I2 : Inv X pins σ H { s with heap := s.heap.push o, toks := tk } := I.kept (t' := tk) fun b u e => Heap.get?_push_of_some _ e
  refine I2.pins_of fun p hp => ?_
  have e := List.mem_singleton.mp hp
  subst e
  exact ⟨Heap.get?_push_size _ hf, I.hok.fresh (Nat.le_refl _), fun z => absurd I.lt (by rw [← z]; exact Nat.lt_irrefl _), I.nofs (Nat.le_refl _), ho⟩
/-- super().__init__(e, ..), an exception being made; the frame known -/
theorem super_init {qual : Str} {scope : Scope} {f cc cda a C : Addr} {body : List Stmt} {ar : Arg} {e : Expr} {es : List Expr} {ta : TA} {p0 p1 p2 pos pos' : Pos} {pl : Sem Bool} {Q : Shared → Prop} {i : Nat}
    (hX : X.env = senv qual scope X.env.locals f (.ref cda) cc) (SC : SupC X.prog X.K C f cc cda ar) (hsup : scope.names.lookup ("super" : Str) = some .globalImplicit) (hcls : scope.names.lookup ("__class__" : Str) = some .free) (hm : X.mg "super" = none)
    (hloc : scope.names.lookup ar.arg = some .local) (hi : X.N[i]? = some ar.arg) (hσ : σ[i]? = some (some (.ref a))) (ea : H a = some (exo a C none))
    (ha : PA X (e :: es) ta) (I : Inv X pins σ H s) (ht : ta σ H fun ws H1 => ws.length ≤ 1000 ∧ H1 a = some (exo a C none) ∧ ∀ s1, Inv X [] σ H1 s1 → Q s1)
    (hev : eval (.Call (.Attribute (.Call (.Name "super" p0) [] [] p1) "__init__" p2) (e :: es) [] pos) X.env = (do
      let ov ← attributeBase (.Call (.Name "super" p0) [] [] p1) "__init__" X.env (eval (.Call (.Name "super" p0) [] [] p1) X.env)
      standAt p2.atName
      let (f, first) ← holding [ov] (getMethod ov "__init__" pl)
      callWith pos f first (backTo pos (starEach (e :: es) X.env)) []) := by rfl)
    (hit : interactive X.env = false := by rfl) (hsw : swapsWith (.Call (.Attribute (.Call (.Name "super" p0) [] [] p1) "__init__" p2) (e :: es) [] pos) none pos'.line X.env = pure false := by rfl)
    (hst : starEach (e :: es) X.env = (false, eval e X.env) :: starEach es X.env := by rfl) (hpl : (backTo pos (starEach es X.env)).any (·.1) = false := by rfl) :
    _root_.PySem.wpAt (model X.prog X.w) X.A (.func body X.env) (exec (.Expr (.Call (.Attribute (.Call (.Name "super" p0) [] [] p1) "__init__" p2) (e :: es) [] pos) pos') X.env) (fun fl s' => fl = .next ∧ Q s') X.xe s := by
  obtain ⟨oc, od, fd, osl, hf, hp⟩ := SC.fd
  obtain ⟨ccl, cdd, vs, ccs, file, tf, hcode, hvs, hfile⟩ := SC.code
  obtain ⟨D, cl, cld, csl, cdD, cdC, hcell, hD, hsub, hC, hal⟩ := SC.D
  have kx : X.K.In s.heap := I.kIn
  have hk : X.env.scope.kind = .function := I.ok.kind
  obtain ⟨oD, hD1, hD2⟩ : ∃ oD, s.heap.get? D = some oD ∧ oD.data = .cls cdD := by
    unfold PySem.W.clsIn at hD
    split at hD
    · rename_i c d cd' sl ho
      cases hD
      exact ⟨_, kx _ _ ho, rfl⟩
    · cases hD
  obtain ⟨t1, ho⟩ := exo_at I.hok ea
  have IA : PySem.W.InstAt s.heap a ({ cls := .ref C, dict := none, data := .fields #[.ref t1, .none, .none, .none, .bool false, .none] } : Obj) C none := ⟨ho, rfl, rfl, trivial⟩
  have sc : X.env.scope = scope := by rw [hX]
  have k1 : X.env.kindOf "super" = some .globalImplicit := by show X.env.scope.names.lookup _ = _; rw [sc]; exact hsup
  have k2 : X.env.kindOf "__class__" = some .free := by show X.env.scope.names.lookup _ = _; rw [sc]; exact hcls
  have k3 : X.env.kindOf ar.arg = some .local := by show X.env.scope.names.lookup _ = _; rw [sc]; exact hloc
  obtain ⟨m, hns, hlk⟩ := I.loc
  obtain ⟨u, ru, lk⟩ := hlk i ar.arg (.ref a) hi hσ (.inl k3)
  obtain rfl : u = Value.ref a := ru
  have hv : m ar.arg = some (.ref a) := by
    rcases lk with ⟨_, q⟩ | ⟨q, _⟩
    · exact q
    · rw [k3] at q
      rcases q with q | q <;> cases q
  obtain ⟨mb, hb1, hb2⟩ := I.mod.blt
  refine PySem.ks_wpAt_Expr_any (PySem.ks_wpAt_MethodCall (pl := pl) ?_ hev) hit hsw
  refine PySem.ks_wpAt_super_base (env := X.env) (f := f) (cc := cda) k1 k2 rfl (by rw [hX]) (kx _ _ hf) rfl hp (by rw [hX]) (kx _ _ hcode) rfl hvs hfile SC.top ?_
  refine PySem.W.ks_loadName_global hk k1 (Calls.loadGlobal_builtin (by rw [I.ok.glob]; exact I.mod.glob.keeps I.bk) hm (by rw [I.ok.blt]; exact hb1.keeps I.bk) ((hb2 "super" (by decide)).trans boot_super) ⟨rfl, ?_⟩)
  refine wpAny_loadName_free (c := cc) hk k2 (by rw [hX]; show List.lookup _ [(("__class__" : Str), cc)] = _; simp) ⟨_, kx _ _ hcell, rfl⟩ ?_
  refine wpAny_loadName_local hk k3 hns hv ?_
  obtain ⟨hh, g, d, t, os⟩ := s
  refine PySem.ks_wpAny_isType_cls hD1 hD2 ⟨rfl, ?_⟩
  refine PySem.ks_wpAny_call_super hD1 hD2 IA.at_ IA.cls (fun c e => nomatch e) (PySem.W.looks_mroIn kx hsub) (fun h' hso k => ?_)
  have I2 : Inv X pins σ H ⟨h', g, d, t, os⟩ := I.kept (t' := t) k
  have kx2 : X.K.In h' := I2.kIn
  have IA2 : PySem.W.InstAt h' a ({ cls := .ref C, dict := none, data := .fields #[.ref t1, .none, .none, .none, .bool false, .none] } : Obj) C none := ⟨k _ _ ho, rfl, rfl, trivial⟩
  have hlC : PySem.W.Looks (model X.prog X.w) h' (mroOf (.ref C)) cdC.mro := fun A Q E s k q => wpAny_bind ((PySem.W.looks_clsIn kx2 hC) A _ E s k (wpAny_pure q))
  have hI2 : PySem.W.Looks (model X.prog X.w) h' (isInstance (.ref a) (.type "ValueError")) true := IA2.type.andThen (PySem.W.looks_subIn kx2 SC.ve)
  refine PySem.W.kxs_getMethod PySem.W.kxs_ValueError hso (PySem.W.looks_opaque kx2 SC.no) hlC rfl kx2 hal hI2 (PySem.W.ks_ne kx2 IA2 hC) (by decide) ?_
  have I3 := pin_push I2 (o := PySem.W.kxs_mw "ValueError.__init__" a) rfl (fun v z => nomatch z) (t + 1)
  have hA := ha.run pos _ _ σ H _ I3 ht
  show wpAny _ _ (callWith pos (.ref h'.objs.size) [] (backTo pos (starEach (e :: es) X.env)) []) _ _ _
  have hA' : wpAny (model X.prog X.w) X.A (spliced (backTo pos (starEach (e :: es) X.env))) (fun us s1 => PySem.W.KxsAt "ValueError.__init__" h'.objs.size a s1.heap ∧ wpAny (model X.prog X.w) X.A (call (.ref h'.objs.size) us) (fun _ s' => Flow.next = .next ∧ Q s') X.xe s1) X.xe { heap := h'.push (PySem.W.kxs_mw "ValueError.__init__" a), gens := g, drawn := d, toks := t + 1, os := os } := by
    refine thn hA fun us s1 ⟨ws, H1, I4, rws, hz, ea1, q⟩ => ?_
    have hu : s1.heap.get? h'.objs.size = some (PySem.W.kxs_mw "ValueError.__init__" a) := (I4.pin (h'.objs.size, PySem.W.kxs_mw "ValueError.__init__" a) (by simp)).1
    refine ⟨hu, ?_⟩
    obtain ⟨nm, q0, N0, bs, bm, sn, sub, ab, col, dd, x0, x1, x2, x3, x5, hCo, hbm⟩ := SC.oex.cls
    obtain ⟨t2, ho2⟩ := exo_at I4.hok ea1
    have hlen : us.length ≤ sizeLine := by rw [← Paired.length rws, sizeLine_eq]; omega
    obtain ⟨h4, g4, d4, t4, os4⟩ := s1
    refine wpAny_call (codeAny_of_tree ?_)
    show wpAny _ X.A.in1 (callAny (.ref h'.objs.size) ⟨us, []⟩) _ _ _
    simp only [callAny]
    refine wpAny_bind (wpAny_load hu ?_)
    simp only [PySem.W.kxs_mw, show (Value.type "method-wrapper" == Value.type "method" || Value.type "method-wrapper" == Value.type "builtin_function_or_method" || Value.type "method-wrapper" == Value.type "method-wrapper") = true by decide, if_true]
    refine PySem.W.KFB.if_so (by decide) ?_
    refine wpAny_bind (PySem.W.check_bound_init F.excBase_ValueError.toExcCallFacts (I4.kIn _ _ hCo) ho2 rfl ?_)
    refine wpAny_bind (wpAny_pure (wpAny_pure ?_))
    refine ⟨plainId_quiet F.excBase_ValueError.init.plain _, codeAny_builtin F.excBase_ValueError.initEntry ?_⟩
    refine PySem.W.exc_init_tree (cls := .ref C) (t0 := t2) (dv := none) (c2 := .none) (c3 := .none) (b4 := .bool false) ho2 hlen fun h5 k5 hx5 _ => ⟨trivial, q _ ?_⟩
    have J := I4.write (t' := t4) (x := a) (e := a) (o := exo a C none) (by rw [ea1]; exact True.intro) (.inl rfl) k5 ⟨_, hx5⟩ (exo_ok hx5)
    have eu : upd H1 a (exo a C none) = H1 := by
      funext b
      by_cases hb : b = a
      · rw [hb, upd_same, ea1]
      · rw [upd_ne hb]
    rw [eu] at J
    exact J.pins_of fun p hp => absurd hp (by simp)
  rw [hst] at hA' ⊢
  refine PySem.W.kxs_callWith (i := "ValueError.__init__") (x := a) (by show (false || (backTo pos (starEach es X.env)).any (·.1)) = false; rw [hpl]; rfl) ?_
  exact PySem.Calls.evalArgs_plain hA'
end
end Y
/-! Y11: raise of own exceptions with fields. -/
namespace Y
open PySem PySem.Spec PyProof.Rows L2
section
variable {CX : CXT} {P : Program} {w : World} {K : PySem.W.Frag} {mg : Str → Option Value} {base : Heap} {N ps : List Str} {qual : Str} {scope : Scope} {f cc : Addr} {cd : Value} {A : Around} {outer : List Env} {s : Shared} {H : Hp} {E : XK}
/-- a def that closes over __class__, by its body, its frame known -/
theorem fn_ofS {k : Nat} {name : Str} {params : Arguments} {body : List Stmt} {dV kV doc pm cdv ct oc : Value} {an od : Option Addr} {osl : Array (Option Value)} {sp : Sp} {occ : Obj}
    (lk : K.lookup f = some ⟨oc, od, .func (PySem.W.ksFn name qual params body scope dV kV doc pm an cdv ct cc), osl⟩) (hcd : PySem.W.codeIn K cdv qual = true) (S : SScope N ps scope) (hcell : K.lookup cc = some occ) (hco : ∃ v, occ.data = .cell v)
    (len : ∀ vs H Q E, sp vs H Q E → vs.length = ps.length)
    (hbody : ∀ (A : Around) (outer : List Env) (s : Shared) (H : Hp) (vs : List V) (Q : VK) (E : XK), Room k (A.deeper (senv qual scope s.heap.objs.size f cdv cc)) → sp vs H Q E → ∀ s1, Inv (cxS CX P w K mg base N qual scope f cdv cc A outer s H E) [] (L2.start N vs) H s1 →
      _root_.PySem.wpAt (model P w) (A.deeper (senv qual scope s.heap.objs.size f cdv cc)) (.func body (senv qual scope s.heap.objs.size f cdv cc)) (execs body (senv qual scope s.heap.objs.size f cdv cc))
        (SP (cxS CX P w K mg base N qual scope f cdv cc A outer s H E) [] { nx := fun _ H' => Q .non H', rt := Q }) (cxS CX P w K mg base N qual scope f cdv cc A outer s H E).xe s1) :
    FnOk P w K mg base CX (k + 1) f (PySem.W.ksFn name qual params body scope dV kV doc pm an cdv ct cc) ps sp := by
  refine ⟨len, fun A outer s H args us vs Q E hr e0 hb r hsp => ?_⟩
  have hl := len _ _ _ _ hsp
  have KX : K.In s.heap := e0.mod.kin.keeps fun b o e => (e0.bs b o e).1
  have lim : s.heap.NoLimit := e0.mod.nolimit.keeps fun b o e => (e0.bs b o e).1
  refine PySem.ks_codeAny_call_defAt (fd := PySem.W.ksFn name qual params body scope dV kV doc pm an cdv ct cc) (body := body) (binds := ps.zip us) hr.depth (KX _ _ lk) rfl lim (PySem.W.codeRec_of KX hcd) rfl hb S.nocell (fun x hx => S.par x.1 (List.of_mem_zip hx).1) (fun h₀ hns hk => ?_) S.co S.gen S.kind
  have I := inv_S (CX := CX) (P := P) (w := w) (mg := mg) (qual := qual) (f := f) (cd := cdv) (A := A) (outer := outer) (E := E) (tk := s.toks + (ps.zip us).length) S hr.hd e0 hl r hcell hco hns hk
  refine PySem.ks_wpAt_mono (hbody A outer s H vs Q E (hr.deeper _) hsp _ I) (fun fl s' hs => ?_) fun _ _ x => x
  have fin : ∀ {σ' : L2.St} {H' : Hp} {v : V} {u : Value}, Inv (cxS CX P w K mg base N qual scope f cdv cc A outer s H E) [] σ' H' s' → RelV v u → Q v H' → CE outer P w H s Q u s' :=
    fun {σ' H' v u} J rv q => ⟨v, H', J.os, J.bare, J.base, J.hok, rv, q⟩
  cases fl with
  | ret u =>
    obtain ⟨v, σ', H', J, rv, q⟩ := hs
    exact fin J rv q
  | next =>
    obtain ⟨σ', H', J, q⟩ := hs
    exact fin (v := V.non) (u := Value.none) J rfl q
  | brk =>
    obtain ⟨_, _, _, q⟩ := hs
    exact False.elim q
  | cont =>
    obtain ⟨_, _, _, q⟩ := hs
    exact False.elim q
end
/-! ### the shape of such an __init__ -/
inductive Prts (N : List Str) : List Expr → List (Str ⊕ Nat) → Prop
  | nil : Prts N [] []
  | con {x : Str} {j : Nat} {pos : Pos} {es : List Expr} {l : List (Str ⊕ Nat)} : Prts N es l → Prts N (.Constant (.str x) j pos :: es) (.inl x :: l)
  | fmt {x : Str} {pos pos' : Pos} {es : List Expr} {l : List (Str ⊕ Nat)} (i : Nat) : N[i]? = some x → Prts N es l → Prts N (.FormattedValue (.Name x pos') (-1) none pos :: es) (.inr i :: l)
inductive Flds (N : List Str) (self : Str) : List Stmt → List (String × Nat) → Prop
  | nil : Flds N self [] []
  | cons {f : String} {x : Str} {p p' q pos : Pos} {sts : List Stmt} {l : List (String × Nat)} (i : Nat) : N[i]? = some x → Flds N self sts l → Flds N self (.Assign [.Attribute (.Name self p) (Str.ofString f) p'] (.Name x q) pos :: sts) ((f, i) :: l)
/-- the text can be laid: ds the parameters behind self -/
def fmtB (ds : List D) : List (Str ⊕ Nat) → Str → Bool
  | [], _ => true
  | .inl x :: r, acc => decide ((acc ++ x).length ≤ sizeLine) && fmtB ds r (acc ++ x)
  | .inr i :: r, acc => match i with
    | 0 => false
    | i + 1 => match ds[i]? with
      | some (.str y) => decide (y.length ≤ sizeLine) && (decide ((acc ++ y).length ≤ sizeLine) && fmtB ds r (acc ++ y))
      | some (.int n) => decide (n.natAbs.log2 < 1920) && (decide ((acc ++ (toString n : Str)).length ≤ sizeLine) && fmtB ds r (acc ++ (toString n : Str)))
      | _ => false
def fldD (ds : List D) : List (String × Nat) → List (String × D) → List (String × D)
  | [], acc => acc
  | (f, i) :: r, acc => fldD ds r ((f, match i with | 0 => .non | i + 1 => ds.getD i .non) :: acc)
def fldV (vs : List V) : List (String × Nat) → List (Str × V) → List (Str × V)
  | [], acc => acc
  | (f, i) :: r, acc => fldV vs r ((Str.ofString f, match i with | 0 => .non | i + 1 => vs.getD i .non) :: acc)
theorem fldV_is {K : PySem.W.Frag} {H : Hp} {vs : List V} {ds : List D} (l : IsL K H vs ds) : ∀ (fl : List (String × Nat)) {fs : List (Str × V)} {gs : List (String × D)}, IsF K H fs gs → IsF K H (fldV vs fl fs) (fldD ds fl gs)
  | [], _, _, h => h
  | (f, 0) :: r, _, _, h => fldV_is l r (.cons .non h)
  | (f, i + 1) :: r, fs, gs, h => by
    refine fldV_is l r (.cons ?_ h)
    show Is K H (vs.getD i .non) (ds.getD i .non)
    by_cases q : i < ds.length
    · obtain ⟨u, e1, e2⟩ := l.get (i := i) (x := ds[i]) (List.getElem?_eq_getElem q)
      rw [List.getD_eq_getElem?_getD, List.getD_eq_getElem?_getD, e1, List.getElem?_eq_getElem q]
      exact e2
    · have q' : vs.length ≤ i := by rw [l.length]; omega
      rw [List.getD_eq_getElem?_getD, List.getD_eq_getElem?_getD, List.getElem?_eq_none (by omega), List.getElem?_eq_none (by omega)]
      exact .non
/-- the promise of such an __init__ -/
def spX (K : PySem.W.Frag) (C : Addr) (n : Nat) (parts : List (Str ⊕ Nat)) (fl : List (String × Nat)) : Sp := fun vs H Q _ => ∃ (a : Addr) (ys : List V) (ds : List D) (H1 : Hp), vs = .ref a :: ys ∧ ys.length = n ∧ H1 a = none ∧ H = upd H1 a (exo a C none) ∧ (∃ H0, IsL K H0 ys ds) ∧ fmtB ds parts Str.empty = true ∧
  ∀ (d : Addr) (H2 : Hp), H1 d = none → d ≠ a → H2 a = some (exo a C (some d)) → H2 d = some (exd d (fldV ys fl [])) → (∀ b, b ≠ a → b ≠ d → H2 b = H1 b) → Q .non H2
section
variable {X : Cx} {self : Str} {σ : L2.St} {a : Addr} {C : Addr} {ys : List V} {ds : List D}
theorem var_ok {i : Nat} {x : Str} {v : V} {pos : Pos} (hN : X.N[i]? = some x) (hv : Vis X.env.scope x) (h1 : (x == ("__debug__" : Str)) = false) (h2 : (x == ("__classdict__" : Str)) = false) (hσ : σ[i]? = some (some v)) {H : Hp} {Q : VK} (q : Q v H) : sem X (.Name x pos) σ H Q :=
  of_pe (pe_var hN hv h1 h2) ⟨v, hσ, q⟩
theorem prts_run {K : PySem.W.Frag} {H0 : Hp} (l : IsL K H0 ys ds) (hall : ∀ (i : Nat) (x : Str), X.N[i]? = some x → Vis X.env.scope x ∧ (x == ("__debug__" : Str)) = false ∧ (x == ("__classdict__" : Str)) = false) (hσ : ∀ (i : Nat) (v : V), ys[i]? = some v → σ[i + 1]? = some (some v)) :
    ∀ {es : List Expr} {parts : List (Str ⊕ Nat)}, Prts X.N es parts → ∃ ts, PJ X es ts ∧ ∀ (acc : Str) (H : Hp) (Q : Str → Hp → Prop), fmtB ds parts acc = true → (∀ out, Q out H) → tJs ts acc σ H Q := by
  intro es parts h
  induction h with
  | nil => exact ⟨[], .nil, fun acc H Q _ q => q acc⟩
  | @con x j pos es l' h ih =>
    obtain ⟨ts, p1, p2⟩ := ih
    refine ⟨_ :: ts, .cons pe_str p1, fun acc H Q hb q => ?_⟩
    obtain ⟨b1, b2⟩ := Bool.and_eq_true_iff.mp (show (_ && _) = true from hb)
    exact ⟨x, rfl, of_decide_eq_true b1, p2 _ H Q b2 q⟩
  | @fmt x pos pos' es l' i hi h ih =>
    obtain ⟨ts, p1, p2⟩ := ih
    obtain ⟨v1, v2, v3⟩ := hall i x hi
    refine ⟨_ :: ts, .cons (pe_fmt (pe_var hi v1 v2 v3)) p1, fun acc H Q hb q => ?_⟩
    cases i with
    | zero => exact absurd (show false = true from hb) Bool.false_ne_true
    | succ i =>
      cases e : ds[i]? with
      | none =>
        unfold fmtB at hb
        simp [e] at hb
      | some d =>
        obtain ⟨u, e1, r⟩ := l.get e
        refine ⟨u, hσ i u e1, ?_⟩
        cases d with
        | str y =>
          unfold fmtB at hb
          simp only [e, Bool.and_eq_true] at hb
          obtain ⟨c1, c2, c3⟩ := hb
          cases isS r
          exact .inl ⟨y, rfl, of_decide_eq_true c1, y, rfl, of_decide_eq_true c2, p2 _ H Q c3 q⟩
        | int n =>
          unfold fmtB at hb
          simp only [e, Bool.and_eq_true] at hb
          obtain ⟨c1, c2, c3⟩ := hb
          cases isI r
          exact .inr ⟨n, rfl, of_decide_eq_true c1, _, rfl, of_decide_eq_true c2, p2 _ H Q c3 q⟩
        | _ =>
          unfold fmtB at hb
          simp [e] at hb
theorem ost_step {f : String} {x : Str} {i : Nat} {p p' q pos : Pos} {D0 : Ends} {H : Hp} {y : V} (hself : X.N[0]? = some self) (hall : ∀ (i : Nat) (x : Str), X.N[i]? = some x → Vis X.env.scope x ∧ (x == ("__debug__" : Str)) = false ∧ (x == ("__classdict__" : Str)) = false) (h0 : σ[0]? = some (some (.ref a)))
    (hi : X.N[i]? = some x) (hy : σ[i]? = some (some y)) (T : OexC X.K C) (hno : PySem.W.findIn X.K (.ref C) (Str.ofString f) = some none)
    (h : (H a = some (exo a C none) ∧ ∀ dx, H dx = none → dx ≠ a → D0.nx σ (upd (upd H dx (exd dx [(Str.ofString f, y)])) a (exo a C (some dx)))) ∨
      ∃ (dx : Addr) (fs : List (Str × V)), H a = some (exo a C (some dx)) ∧ H dx = some (exd dx fs) ∧ fs.length ≤ 900 ∧ D0.nx σ (upd H dx (exd dx ((Str.ofString f, y) :: fs))))
    (hs : swapsWith (.Name x q) (some (.Attribute (.Name self p) (Str.ofString f) p')) pos.line X.env = pure false := by rfl) :
    semS X (.Assign [.Attribute (.Name self p) (Str.ofString f) p'] (.Name x q) pos) D0 σ H := by
  obtain ⟨v1, v2, v3⟩ := hall i x hi
  obtain ⟨w1, w2, w3⟩ := hall 0 self hself
  refine of_ps (ps_ost (pe_var hself w1 w2 w3) (pe_var hi v1 v2 v3) hs) ⟨y, hy, .ref a, h0, a, C, rfl, T, hno, h⟩
theorem flds_old (hself : X.N[0]? = some self) (hall : ∀ (i : Nat) (x : Str), X.N[i]? = some x → Vis X.env.scope x ∧ (x == ("__debug__" : Str)) = false ∧ (x == ("__classdict__" : Str)) = false) (h0 : σ[0]? = some (some (.ref a)))
    (hσ : ∀ (i : Nat) (v : V), ys[i]? = some v → σ[i + 1]? = some (some v)) (hlen : X.N.length = ys.length + 1) (T : OexC X.K C) : ∀ {sts : List Stmt} {fl : List (String × Nat)}, Flds X.N self sts fl → (∀ q ∈ fl, q.2 ≠ 0 ∧ PySem.W.findIn X.K (.ref C) (Str.ofString q.1) = some none) →
    ∀ (H : Hp) (dx : Addr) (fs : List (Str × V)) (D0 : Ends), H a = some (exo a C (some dx)) → H dx = some (exd dx fs) → dx ≠ a → fs.length + fl.length ≤ 900 →
      (∀ H2, H2 a = some (exo a C (some dx)) → H2 dx = some (exd dx (fldV ys fl fs)) → (∀ b, b ≠ a → b ≠ dx → H2 b = H b) → D0.nx σ H2) → semSs X sts D0 σ H := by
  intro sts fl h
  induction h with
  | nil => exact fun _ H dx fs D0 e1 e2 ne hl k => of_pss pss_nil (k H e1 e2 fun _ _ _ => rfl)
  | @cons f x p p' q pos sts l i hi h ih =>
    intro hno H dx fs D0 e1 e2 ne hl k
    obtain ⟨i0, hno1⟩ := hno (f, i) (List.mem_cons_self ..)
    obtain ⟨j, rfl⟩ : ∃ j, i = j + 1 := ⟨i - 1, by have : i ≠ 0 := i0; omega⟩
    have hj : j < ys.length := by have := (List.getElem?_eq_some_iff.mp hi).1; omega
    have ey : ys[j]? = some (ys.getD j .non) := by rw [List.getD_eq_getElem?_getD, List.getElem?_eq_getElem hj]; rfl
    refine of_pss (pss_cons ps_sem pss_sem) (ost_step (y := ys.getD j .non) hself hall h0 hi (hσ j _ ey) T hno1 (.inr ⟨dx, fs, e1, e2, by simp at hl; omega, ?_⟩) ?_)
    · refine ih (fun q hq => hno q (List.mem_cons_of_mem _ hq)) _ dx ((Str.ofString f, ys.getD j .non) :: fs) D0 (by rw [upd_ne (Ne.symm ne)]; exact e1) upd_same ne (by simp at hl ⊢; omega) fun H2 k1 k2 k3 => k H2 k1 k2 fun b b1 b2 => by rw [k3 b b1 b2, upd_ne b2]
    · rfl
theorem flds_new (hself : X.N[0]? = some self) (hall : ∀ (i : Nat) (x : Str), X.N[i]? = some x → Vis X.env.scope x ∧ (x == ("__debug__" : Str)) = false ∧ (x == ("__classdict__" : Str)) = false) (h0 : σ[0]? = some (some (.ref a)))
    (hσ : ∀ (i : Nat) (v : V), ys[i]? = some v → σ[i + 1]? = some (some v)) (hlen : X.N.length = ys.length + 1) (T : OexC X.K C) {sts : List Stmt} {fl : List (String × Nat)} (h : Flds X.N self sts fl) (hne : fl ≠ []) (hno : ∀ q ∈ fl, q.2 ≠ 0 ∧ PySem.W.findIn X.K (.ref C) (Str.ofString q.1) = some none)
    (hl : fl.length ≤ 900) {H H1 : Hp} {D0 : Ends} (e0 : H1 a = none) (eH : H = upd H1 a (exo a C none))
    (k : ∀ (d : Addr) (H2 : Hp), H1 d = none → d ≠ a → H2 a = some (exo a C (some d)) → H2 d = some (exd d (fldV ys fl [])) → (∀ b, b ≠ a → b ≠ d → H2 b = H1 b) → D0.nx σ H2) : semSs X sts D0 σ H := by
  cases h with
  | nil => exact absurd rfl hne
  | @cons f x p p' q pos sts l i hi h =>
    subst eH
    obtain ⟨i0, hno1⟩ := hno (f, i) (List.mem_cons_self ..)
    obtain ⟨j, rfl⟩ : ∃ j, i = j + 1 := ⟨i - 1, by have : i ≠ 0 := i0; omega⟩
    have hj : j < ys.length := by have := (List.getElem?_eq_some_iff.mp hi).1; omega
    have ey : ys[j]? = some (ys.getD j .non) := by rw [List.getD_eq_getElem?_getD, List.getElem?_eq_getElem hj]; rfl
    refine of_pss (pss_cons ps_sem pss_sem) (ost_step (y := ys.getD j .non) hself hall h0 hi (hσ j _ ey) T hno1 (.inl ⟨upd_same, fun dx n ne => ?_⟩) ?_)
    · have n1 : H1 dx = none := by rw [upd_ne ne] at n; exact n
      refine flds_old hself hall h0 hσ hlen T h (fun q hq => hno q (List.mem_cons_of_mem _ hq)) _ dx [(Str.ofString f, ys.getD j .non)] D0 upd_same (by rw [upd_ne ne]; exact upd_same) ne (by simp at hl ⊢; omega) fun H2 k1 k2 k3 => k dx H2 n1 ne k1 k2 fun b b1 b2 => by rw [k3 b b1 b2, upd_ne b1, upd_ne b2, upd_ne b1]
    · rfl
end
/-- what is known of an own exception's class: c, with the def of its __init__ -/
structure ExcCls (W : Wd) (c : String) (n : Nat) (parts : List (Str ⊕ Nat)) (fl : List (String × Nat)) : Prop where
  ex : ∃ (f cc cda : Addr) (ar : Arg) (name qual : Str) (params : Arguments) (body : List Stmt) (scope : Scope) (kV doc pm ct oc : Value) (an od : Option Addr) (osl : Array (Option Value)) (N : List Str) (occ : Obj)
      (p0 p1 p2 p3 p4 p5 : Pos) (v1 v2 : Expr) (vr : List Expr) (rest : List Stmt),
    W.K.lookup f = some ⟨oc, od, .func (PySem.W.ksFn name qual params body scope .none kV doc pm an (.ref cda) ct cc), osl⟩ ∧ PySem.W.codeIn W.K (.ref cda) qual = true ∧ SScope N N scope ∧ W.K.lookup cc = some occ ∧ (∃ v, occ.data = .cell v) ∧ N.length = n + 1 ∧ N[0]? = some ar.arg ∧
    (∀ x ∈ N, (x == ("__debug__" : Str)) = false ∧ (x == ("__classdict__" : Str)) = false) ∧ SupC W.P W.K (He.ga W.K (Str.ofString c)) f cc cda ar ∧ W.mg "super" = none ∧
    body = .Expr (.Call (.Attribute (.Call (.Name "super" p0) [] [] p1) "__init__" p2) [.JoinedStr (v1 :: v2 :: vr) p3] [] p4) p5 :: rest ∧ Prts N (v1 :: v2 :: vr) parts ∧ Flds N ar.arg rest fl ∧
    PySem.W.findIn W.K (.ref (He.ga W.K (Str.ofString c))) "__init__" = some (some (.ref f)) ∧ PySem.W.typeIn W.K (.ref f) = some (.type "function") ∧
    (∃ pl : Env → Sem Bool, ∀ env : Env, eval (.Call (.Attribute (.Call (.Name "super" p0) [] [] p1) "__init__" p2) [.JoinedStr (v1 :: v2 :: vr) p3] [] p4) env = (do
      let ov ← attributeBase (.Call (.Name "super" p0) [] [] p1) "__init__" env (eval (.Call (.Name "super" p0) [] [] p1) env)
      standAt p2.atName
      let (f, first) ← holding [ov] (getMethod ov "__init__" (pl env))
      callWith p4 f first (backTo p4 (starEach [.JoinedStr (v1 :: v2 :: vr) p3] env)) [])) ∧
    (∀ (cdv ct : Value) (us : List Value), us.length = n + 1 → bindArgs (PySem.W.ksFn name qual params body scope .none kV doc pm an cdv ct cc) ⟨us, []⟩ = pure (N.zip us))
  fl0 : fl ≠ [] ∧ fl.length ≤ 900 ∧ ∀ q ∈ fl, q.2 ≠ 0 ∧ PySem.W.findIn W.K (.ref (He.ga W.K (Str.ofString c))) (Str.ofString q.1) = some none
theorem ExcCls.fn {W : Wd} {c : String} {n : Nat} {parts : List (Str ⊕ Nat)} {fl : List (String × Nat)} (h : ExcCls W c n parts fl) (k : Nat) : ∃ f fd N, PySem.W.findIn W.K (.ref (He.ga W.K (Str.ofString c))) "__init__" = some (some (.ref f)) ∧ PySem.W.typeIn W.K (.ref f) = some (.type "function") ∧ OexC W.K (He.ga W.K (Str.ofString c)) ∧
    FnOk W.P W.w W.K W.mg W.base (L2.CX W.P W.w) (k + 1) f fd N (spX W.K (He.ga W.K (Str.ofString c)) n parts fl) ∧ Binds W.K fd N [] := by
  obtain ⟨f, cc, cda, ar, name, qual, params, body, scope, kV, doc, pm, ct, oc, an, od, osl, N, occ, p0, p1, p2, p3, p4, p5, v1, v2, vr, rest, lk, hcd, S, hcell, hco, hN, h0, hnm, SC, hsup, hbody, hp, hf, hi, ht, ⟨pl, hpl⟩, hb⟩ := h.ex
  obtain ⟨fl1, fl2, fl3⟩ := h.fl0
  refine ⟨f, _, N, hi, ht, SC.oex, fn_ofS lk hcd S hcell hco (fun vs H Q E q => ?_) (fun A outer s H vs Q E hr hsp s1 I => ?_), Binds.all fun us hl => hb _ _ us (by rw [hl, hN])⟩
  · obtain ⟨a, ys, ds, H1, rfl, hl, _⟩ := q
    simp [hl, hN]
  · obtain ⟨a, ys, ds, H1, rfl, hl, e0, eH, ⟨H0, l⟩, hfm, kq⟩ := hsp
    let X := cxS (L2.CX W.P W.w) W.P W.w W.K W.mg W.base N qual scope f (.ref cda) cc A outer s H E
    have hlen : X.N.length = ys.length + 1 := by show N.length = _; rw [hN, hl]
    have hst : L2.start N (.ref a :: ys) = (.ref a :: ys).map some := by
      unfold L2.start
      have : N.length - (V.ref a :: ys).length = 0 := by simp; omega
      rw [this]
      simp
    have hall : ∀ (i : Nat) (x : Str), X.N[i]? = some x → Vis X.env.scope x ∧ (x == ("__debug__" : Str)) = false ∧ (x == ("__classdict__" : Str)) = false := fun i x e => by
      have m : x ∈ N := List.mem_of_getElem? e
      exact ⟨.inl (S.par x m), hnm x m⟩
    have hσ0 : (L2.start N (.ref a :: ys))[0]? = some (some (.ref a)) := by rw [hst]; rfl
    have hσ : ∀ (i : Nat) (v : V), ys[i]? = some v → (L2.start N (.ref a :: ys))[i + 1]? = some (some v) := fun i v e => by rw [hst]; simp [e]
    obtain ⟨ts, pj, run⟩ := prts_run (X := X) (σ := L2.start N (.ref a :: ys)) l hall hσ hp
    have pa : PA X [.JoinedStr (v1 :: v2 :: vr) p3] _ := pa_cons (pe_joined pj) pa_nil rfl
    subst hbody
    refine PySem.ks_wpAt_execs_cons (PySem.ks_wpAt_mono (super_init (X := X) (f := f) (cc := cc) (cda := cda) (a := a) (C := He.ga W.K (Str.ofString c)) (i := 0) (Q := fun s' => wpAny (model X.prog X.w) X.A (execs rest X.env) (SP X [] { nx := fun _ H' => Q .non H', rt := Q }) X.xe s') rfl SC S.sup S.cls hsup (S.par _ (List.mem_of_getElem? h0)) h0 hσ0 (by rw [eH]; exact upd_same) pa I ?_ (hpl X.env) I.quiet) (fun fl' s' hq => ?_) fun _ _ x => x)
    · refine run Str.empty H _ hfm fun out => ?_
      refine ⟨by show (1 : Nat) ≤ 1000; omega, by rw [eH]; exact upd_same, fun s2 I2 => ?_⟩
      exact (flds_new (X := X) (self := ar.arg) (σ := L2.start N (.ref a :: ys)) (a := a) (C := He.ga W.K (Str.ofString c)) (ys := ys) (D0 := { nx := fun _ H' => Q .non H', rt := Q }) h0 hall hσ0 hσ hlen SC.oex hf fl1 fl3 fl2 e0 eH kq).run [] s2 I2
    · obtain ⟨e1, e2⟩ := hq
      subst e1
      exact wpAt_of_wpAny e2
end Y
/-! Y12: raise, try .. except X as e, what an except suite may ask of e. -/
namespace PySem.W
open PySem PySem.Spec PySem.Calls PyProof.Rows
section
variable {prog : Program} {w : World} {A : Around} {E : Value → Shared → Prop} {s : Shared} {K : Frag} {x D : Addr} {ox : Obj} {od : Option Obj}
theorem findObj_dataY {C : Addr} {name : Str} {a g : Value} (hc : (clsIn K C).isSome = true) (ha : findIn K (.ref C) name = some (some a)) (hg : specialIn K a "__get__" = some (some g)) (ht : takesIn K a = some true) : findObj K C od name = some (.bind g a) := by
  obtain ⟨cd, hc⟩ := Option.isSome_iff_exists.mp hc
  unfold findObj
  rw [hc, Option.bind_some, ha, Option.bind_some]
  simp [hg, ht]
theorem y_class {Q : Option Value → Shared → Prop} (hga : findIn K (.ref D) "__getattribute__" = some (some (.builtin "BaseException.__getattribute__"))) (hgt : findIn K (.ref D) "__getattr__" = some none) (hsub : subIn K (.ref D) (.type "BaseException") = some true)
    (hdct : hasDictIn K D = true) (ha : findIn K (.ref D) "__class__" = some (some (.builtin "object.__class__")))
    (hn : specialIn K (.builtin "object.__class__") "__get__" = some (some (.builtin "getset_descriptor.__get__"))) (htk : takesIn K (.builtin "object.__class__") = some true) (hm : mroIn K D (.type "object") = some true)
    (X : K.In s.heap) (I : InstAt s.heap x ox D od) (h : Q (some (.ref D)) { s with toks := s.toks + 1 }) : wpAny (model prog w) A (getAttr? (.ref x) "__class__") Q E s := by
  have hf : findObj K D od "__class__" = some (.bind (.builtin "getset_descriptor.__get__") (.builtin "object.__class__")) := findObj_dataY (by obtain ⟨cd, hc, _⟩ := any_some hdct; rw [hc]; rfl) ha hn htk
  obtain ⟨hp, g, d, t, os⟩ := s
  have L0 := I.type (M := model prog w)
  have L1 := looks_findIn (M := model prog w) X hga
  have L2 := looks_findIn (M := model prog w) X hgt
  have L3 := looks_find (M := model prog w) X I hf
  have sub : Looks (model prog w) hp (isInstance (.ref x) (.type "BaseException")) true := L0.andThen (looks_subIn X hsub)
  have hx0 : (false && onTheHeap (Value.builtin "BaseException.__getattribute__")) = false := rfl
  have hx2 : (Value.builtin "BaseException.__getattribute__" == Value.builtin "object.__getattribute__") = false := by decide +kernel
  have hx1 : (onTheHeap (Value.ref D) && Value.builtin "BaseException.__getattribute__" == Value.builtin "object.__getattribute__") = false := by rw [hx2]; rfl
  unfold getAttr? getAttrBy? getAttrBy
  refine wpAny_bind (wpAny_mkText (wpAny_bind (wpAny_attempt (wpAny_holding (wpAny_bind (L0.at (wpAny_bind (L1.at ?_))))))))
  show wpAny _ _ (if (onTheHeap (Value.ref D) && Value.builtin "BaseException.__getattribute__" == Value.builtin "object.__getattribute__") = true then _ else _) _ _ _
  rw [hx1, if_neg Bool.false_ne_true]
  unfold getAttrByItsOwn hookBefore
  refine wpAny_bind ?_
  rw [if_pos (show onTheHeap (Value.ref D) = true from rfl)]
  refine L2.at ?_
  refine wpAny_bind (wpAny_attempt (wpAny_holding ?_))
  unfold callGetattribute
  rw [hx0, if_neg Bool.false_ne_true]
  unfold boundAndCalled
  rw [PySem.F.excAttr_ValueError.ga.bind (.ref x)]
  refine wpAny_bind (wpAny_pure ?_)
  show wpAny _ _ (call (.builtin "BaseException.__getattribute__") [.ref x, .str "__class__" t]) _ _ _
  refine wpAny_call (codeAny_call_builtin PySem.F.excAttr_ValueError.ga.plain PySem.F.entry_bexc_ga ?_)
  refine @check_slot (model prog w) _ _ ⟨hp, g, d, t + 1, os⟩ "BaseException.__getattribute__" "BaseException" "__getattribute__" (.ref x) [.str "__class__" t] [] _ (by decide +kernel) (by decide +kernel) sub (PySem.F.args_bexc_ga (.ref x) (.str "__class__" t)) ?_
  unfold Builtin.«object.__getattribute__»
  refine wpAny_bind (wpAny_of_eq (a := ((Value.ref x : Value), [Value.str "__class__" t])) (by first | rfl | (simp only [slotArgs]; rfl)) ?_)
  refine wpAny_bind (wpAny_pure (wpAny_bind (L0.at (wpAny_bind (L3.at ?_)))))
  show wpAny _ _ (holding [Value.builtin "object.__class__"] (call (.builtin "getset_descriptor.__get__") [.builtin "object.__class__", .ref x, .ref D]) >>= ret) _ _ _
  refine wpAny_bind (wpAny_holding (wpAny_call (class_get (s := ⟨hp, g, d, t + 1, os⟩) (ox := ox) (od := od) X I hm ?_)))
  refine wpAny_pure ?_
  show wpAny _ _ (handedOut (.ref D)) _ _ _
  rw [handedOut_of (v := .ref D) rfl]
  first
    | exact wpAny_pure (wpAny_pure h)
    | exact wpAny_pure h
    | exact wpAny_pure (wpAny_bind (wpAny_pure (wpAny_pure h)))
theorem y_kit (hga : findIn K (.ref D) "__getattribute__" = some (some (.builtin "BaseException.__getattribute__"))) (hgt : findIn K (.ref D) "__getattr__" = some none) (hsub : subIn K (.ref D) (.type "BaseException") = some true) (hdct : hasDictIn K D = true) (ha : findIn K (.ref D) "__class__" = some (some (.builtin "object.__class__")))
    (hn : specialIn K (.builtin "object.__class__") "__get__" = some (some (.builtin "getset_descriptor.__get__"))) (htk : takesIn K (.builtin "object.__class__") = some true) (hm : mroIn K D (.type "object") = some true) :
    KitX K (.ref x) (.ref D) (fun h => InstAt h x ox D od) where
  ty := fun _ _ _ I => I.type
  it := fun _ _ X _ => by
    obtain ⟨cdD, hcD, _⟩ := any_some hdct
    unfold clsIn at hcD
    split at hcD
    · rename_i c' d' cd' sl' ho
      intro A' Q' E' s' k q
      unfold isType loadHead
      exact wpAny_bind (wpAny_loadPart (k _ _ (X _ _ ho)) (wpAny_pure q))
    · cases hcD
  ne := fun h tp dd its n sl X htp => by
    obtain ⟨cdD, hcD, _⟩ := any_some hdct
    refine Bool.eq_false_iff.mpr fun q => ?_
    have e : D = tp := Value.ref.inj (beq_iff_eq.mp q)
    subst e
    unfold clsIn at hcD
    split at hcD
    · rename_i c' d' cd' sl' ho
      have z := (X _ _ ho).symm.trans htp
      cases z
    · cases hcD
  ca := fun X I k => y_class hga hgt hsub hdct ha hn htk hm X I k
end
end PySem.W
namespace Y
open PySem PySem.Spec PyProof.Rows L2
section
variable {W : Wd} {S : Sco} {T : TC W S} {Γ Δ : Ctx} {Ω Ω' : OCtx} {J : JE} {e a b c o : Expr} {es : List Expr} {pos p p2 apos cpos : Pos} {α β γ : Type} {enc : α → D} {enb : β → D} {Z : Dz} {sts : List Stmt} {st : Stmt}
/-- raise C(..): C's __init__ keeps its parameters as fields -/
theorem s_raise {c : String} {n : Nat} {parts : List (Str ⊕ Nat)} {fl : List (String × Nat)} {x : Str} {pos' : Pos} (i : Nat) (hE : ExcCls W c n parts fl) (hm : W.mg x = some (.ref (He.ga W.K (Str.ofString c)))) (hg : S.gl[i]? = some x)
    (h : WA T Γ (e :: es) Ω fun as Ω1 => ∃ ds : List D, as = ds.map As.dat ∧ ds.length = n ∧ fmtB ds parts Str.empty = true ∧ T.xj ⟨c, fldD ds fl []⟩ Γ Ω1)
    (hn : n ≤ 1000 := by decide) (hk : 2 ≤ S.lv := by decide) (hc : S.calm = true := by rfl)
    (he : starEach (e :: es) T.X.env = (false, eval e T.X.env) :: starEach es T.X.env := by exact star_c rfl) (hpl : (backTo pos (starEach es T.X.env)).any (·.1) = false := by exact plain_of rfl) : WS T Γ (.Raise (some (.Call (.Name x p) (e :: es) [] pos)) none pos') Ω Z := fun σ H H0 hs sl => by
  obtain ⟨f, fd, N, f1, f2, f3, f4, f5⟩ := hE.fn 0
  have hW := T.hW
  have hr : Room 2 T.X.A := (T.room hc).mono hk
  have g := T.gl hg
  have core : ∀ (W' : Wd) (eW : (⟨T.X.prog, T.X.w, T.X.K, T.X.mg, T.X.base⟩ : Wd) = W') (C : Addr) (sp : Sp), PySem.W.findIn W'.K (.ref C) "__init__" = some (some (.ref f)) → PySem.W.typeIn W'.K (.ref f) = some (.type "function") → OexC W'.K C →
      FnOk W'.P W'.w W'.K W'.mg W'.base (L2.CX W'.P W'.w) 1 f fd N sp → Binds W'.K fd N [] → W'.mg x = some (.ref C) → PMk T.X (.Call (.Name x p) (e :: es) [] pos) (tMkO C sp [] (semA T.X (e :: es))) := fun W' eW C sp a1 a2 a3 a4 a5 a6 => by
    subst eW
    exact pmk_oex a3 a1 a2 a4 hr a5 .nil (passes_call T.tk fun _ _ _ _ z => z.elim) g a6 pa_sem (T.ok.glo i x hg).2.1 he hpl
  refine of_ps (ps_raise (T.calm hc) T.tk (core W hW _ _ f1 f2 f3 f4 f5 hm)) ?_
  refine semA_mono (h σ H H0 hs sl) fun vs H1 ⟨H01, as, Ω1, s1, hs1, ka, ds, e1, hl, hf, hx⟩ => ?_
  subst e1
  have l : IsL W.K H01 vs ds := AsL.dat ka
  have ln : vs.length = n := l.length.trans hl
  refine ⟨by omega, fun a na => ?_⟩
  refine ⟨a, vs, ds, H1, by rw [List.append_nil], ln, na, rfl, ⟨H01, l⟩, hf, fun d H2 n1 ne k1 k2 k3 => ⟨rfl, d, _, k1, k2, n1, ?_⟩⟩
  have eH : upd (del H2 a) d (.xd (fldV vs fl [])) = upd H1 d (.xd (fldV vs fl [])) := by
    funext b
    by_cases hb : b = d
    · subst hb
      rw [upd_same, upd_same]
    · rw [upd_ne hb, upd_ne hb]
      by_cases hba : b = a
      · subst hba
        rw [del_same, na]
      · rw [del_ne hba, k3 b hba hb]
  rw [eH]
  have sd := same_upd (o := HO.xd (fldV vs fl [])) (hs1.free0 n1)
  exact ⟨_, Γ, Ω1, _, ⟨rfl, .inr ⟨d, _, rfl, upd_same, fldV_is (l.mono sd) fl .nil⟩⟩, hs1.alloc n1, (sl.mono s1).mono sd, hx⟩

/-! ### try -/
/-- caught: the classes that are known, those that are named -/
def catchM {α : Type} (m : M α) (known named : String → Bool) (h : Exc → M α) : M α := match m with
  | .ok a => .ok a
  | .exc e => chk (known e.cls) (bif named e.cls then h e else .exc e)
  | .stuck => .stuck
theorem catch_run {α : Type} {m : M α} {known named : String → Bool} {h : Exc → M α} {Φ : α → Prop} {Ψ : Exc → Prop} (q : Run (catchM m known named h) Φ Ψ) :
    Run m Φ (fun e => known e.cls = true ∧ (named e.cls = true → Run (h e) Φ Ψ) ∧ (named e.cls = false → Ψ e)) := by
  cases m with
  | ok a => exact .ok (Run.get q)
  | stuck => exact (Run.no (Φ := Φ) (Ψ := Ψ) q).elim
  | exc e =>
    obtain ⟨h1, h2⟩ := Run.chk q
    refine .exc ⟨h1, fun n => ?_, fun n => ?_⟩
    · rw [n] at h2; exact h2
    · rw [n] at h2; exact h2.getE
/-- the suite runs where a is handled -/
def InS (T : TC W S) (a : Addr) (cls : Value) (d : Option Addr) : Prop := ∃ (X' : Cx) (oe : Obj) (pn : List (Addr × Obj)), T.X = X'.suite a ((a, oe) :: pn) ∧ Zc cls d oe ∧ ∃ vs, oe.data = .fields vs
abbrev Sco.hot (S : Sco) : Sco := { S with calm := false }
/-- what is known of the clause's class -/
def Catches (W : Wd) (x : Str) (known named : String → Bool) : Prop := ∃ c : Value, ((W.mg x = some c ∧ x ≠ "__name__") ∨ (W.mg x = none ∧ bootBuiltins x = some c ∧ x ≠ "__name__")) ∧ ∀ s, known s = true → PySem.W.exmOne W.K (.ref (He.ga W.K (Str.ofString s))) c = some (named s)
theorem s_try {n x : Str} {b₀ : Stmt} {body suite : List Stmt} {np pos' : Pos} {known named : String → Bool} (i gi : Nat) (hn : Catches W x known named) (hg : S.gl[gi]? = some x) (Δh : Ctx) (Ωh : OCtx) (Ψ : Exc → Prop) (tt : TopT T)
    (hb : ∀ T' : TC W S, T'.G.He = T.G.He → TopT T' → (∀ e Γ' Ω', Ψ e → List.Sublist Ωh Ω' → Le Γ' Δh → T'.xj e Γ' Ω') → WSs T' Γ body Ω Z)
    (hk : ∀ e, Ψ e → known e.cls = true) (hno : ∀ e Γ' Ω', Ψ e → named e.cls = false → List.Sublist Ωh Ω' → Le Γ' Δh → T.xj e Γ' Ω')
    (hyes : ∀ e, Ψ e → named e.cls = true → ∀ (T' : TC W S.hot) (a : Addr) (d : Option Addr), T'.G = T.G → InS T' a (.ref (He.ga W.K (Str.ofString e.cls))) d → WSs T' (Δh.set i (some (.exc a d e.fs))) (b₀ :: suite) Ωh { nx := fun Γ' Ω' => Z.nx (Γ'.set i none) Ω', rt := Z.rt, bk := fun Γ' Ω' => Z.bk (Γ'.set i none) Ω', ct := fun Γ' Ω' => Z.ct (Γ'.set i none) Ω' })
    (hi : S.N[i]? = some n := by rfl) (hl : S.sc.names.lookup n = some .local := by rfl) : WS T Γ (.Try body [.ExceptHandler (some (.Name x np)) (some n) (b₀ :: suite) pos'] [] [] pos) Ω Z := fun σ H H0 hs sl => by
  obtain ⟨cv, hcv, hex⟩ := hn
  have nm : Names T.X x cv := ⟨T.gl hg, (T.ok.glo gi x hg).2.1, by
    rw [T.mg]
    rcases hcv with ⟨h1, _⟩ | h
    · exact .inl h1
    · exact .inr h⟩
  let ts : Addr → Value → Option Addr → TS := fun a cls d D σ H => ∀ (oe : Obj) (pn : List (Addr × Obj)), Zc cls d oe → (∃ vs, oe.data = .fields vs) → semSs (T.X.suite a ((a, oe) :: pn)) (b₀ :: suite) D σ H
  let tb : L2.WX → TS := fun W' D σ H => ∀ (pn : List (Addr × Obj)) (xe : Value → Shared → Prop), Takes (T.X.tr pn xe) W' → PassesOwn (model T.X.prog T.X.w) T.X.A T.X.env xe → semSs (T.X.tr pn xe) body D σ H
  refine of_ps (ps_try_as (tb := tb) (ts := ts) (i := i) tt.1 tt.2 (by rw [T.hN]; exact T.ok.nd) (by rw [T.hN]; exact hi) (by show T.X.env.scope.names.lookup n = _; rw [T.hsc]; exact hl) nm T.tk
    (fun W' pn xe tk ps => ⟨fun pins s σ H D I q => (q pn xe tk ps).run pins s I⟩) (fun a oe cls d pn hz hf => ⟨fun pins s σ H D I q => (q oe pn hz hf).run pins s I⟩)) ?_
  intro pn xe tk ps
  let G' : En := { T.G with H0c := H0 }
  have toG : ∀ {Ω1 : OCtx} {H01 H1 : Hp}, Hs W.K G' Ω1 H01 H1 → Hs W.K T.G Ω1 H01 H1 := fun {Ω1 H01 H1} h => ⟨h.sub, hs.base.trans h.base, fun b o e => by
    rcases h.new b o e with q | q
    · exact hs.new b o q
    · exact .inr q, h.keep, h.ownT, h.own, h.nd⟩
  have ofG : Hs W.K G' Ω H0 H := ⟨hs.sub, Same.refl _, fun b o e => .inl e, hs.keep, hs.ownT, hs.own, hs.nd⟩
  let xj' : XJ := fun e Γ' Ω' => Ψ e ∧ List.Sublist Ωh Ω' ∧ Le Γ' Δh
  let T' : TC W S := {
    X := T.X.tr pn xe
    G := G'
    xj := xj'
    tk := tk.imp fun cls d σ' H' ⟨e, Γ', Ω', H0', ⟨e1, e2⟩, hs', sl', ψ, sub, le⟩ => by
      subst e1
      refine ⟨named e.cls, by rw [T.K]; exact hex _ (hk e ψ), fun hb1 a na oe pn' hz hf => ?_, fun hb1 => ⟨e, Γ', Ω', H0', ⟨rfl, e2⟩, toG hs', sl', hno e Γ' Ω' ψ hb1 sub le⟩⟩
      let T2 : TC W S.hot := {
        X := T.X.suite a ((a, oe) :: pn')
        G := T.G
        xj := fun _ _ _ => False
        tk := fun u s' x => by
          obtain ⟨_, _, _, _, _, _, _, _, _, _, _, _, _, _, _, _, w⟩ := x
          obtain ⟨_, _, _, _, _, _, _, z⟩ := w
          exact z.elim
        hW := T.hW
        hN := T.hN
        hsc := T.hsc
        ok := ⟨T.ok.kind, T.ok.nd, T.ok.vis, T.ok.loc, T.ok.glo⟩
        hf := T.hf
        hc := rfl
        room := fun z => Bool.noConfusion z
        pso := PassesOwn.never }
      have sl2 := (sl'.weak le).set (i := i) (v := .ref a) (a := .exc a d e.fs) ⟨rfl, e2⟩
      have q := hyes e ψ hb1 T2 a d rfl ⟨T.X, oe, pn', rfl, hz, hf⟩ _ H' H0' ((toG hs').sublist sub) sl2
      have st : ∀ (P : Ctx → OCtx → Prop) σ1 H1, Dz.st W.K T.G H0' (fun Γ'' Ω'' => P (Γ''.set i none) Ω'') σ1 H1 → Dz.st W.K T.G H0 P (σ1.set i none) H1 := fun P σ1 H1 ⟨Γ1, Ω1, H01, s1, h1, l1, z⟩ => ⟨Γ1.set i none, Ω1, H01, hs'.base.trans s1, h1, l1.setN, z⟩
      exact semSs_mono q (st _) (fun v H1 z => z) (st _) (st _)
    hW := T.hW
    hN := T.hN
    hsc := T.hsc
    ok := T.ok
    hf := T.hf
    hc := T.hc
    room := T.room
    pso := ps }
  have q := hb T' rfl tt (fun e Γ' Ω' ψ sub le => ⟨ψ, sub, le⟩) σ H H0 ofG sl
  have st : ∀ (P : Ctx → OCtx → Prop) σ1 H1, Dz.st W.K G' H0 P σ1 H1 → Dz.st W.K T.G H0 P σ1 H1 := fun P σ1 H1 ⟨Γ1, Ω1, H01, s1, h1, l1, z⟩ => ⟨Γ1, Ω1, H01, s1, toG h1, l1, z⟩
  exact semSs_mono q (st _) (fun v H1 ⟨a, Ω1, H01, h1, z⟩ => ⟨a, Ω1, H01, toG h1, z⟩) (st _) (st _)
end
end Y
/-! Y13: e.f, isinstance in an except suite; isinstance of data. -/
namespace Y
open PySem PySem.Spec PyProof.Rows L2
section
variable {X : Cx}
/-- isinstance(e, c), e the exception that the suite holds, with or without a dict -/
def rIsY (K : PySem.W.Frag) (D a : Addr) (d : Option Addr) : List V → Hp → VK → Prop := fun xs H Q => ∃ (c : V) (cv : Value) (b : Bool), xs = [.ref a, c] ∧ (∀ u, RelV c u → u = cv) ∧ PySem.W.kitOne K (.ref D) cv = some b ∧ (d = none ∨ ∃ dd vs, d = some dd ∧ H dd = some (.xd vs)) ∧ Q (.bl b) H
theorem call_isY {a D : Addr} {d : Option Addr} {oe : Obj} {pn : List (Addr × Obj)} (C : ExcC X.K D) (hz : Zc (.ref D) d oe) (hf : ∃ vs, oe.data = .fields vs) : CallR (X.suite a ((a, oe) :: pn)) (.builtin "isinstance") (rIsY X.K D a d) := by
  intro pins s σ H xs us Q I r h
  obtain ⟨c, cv, b, rfl, hcv, e, hd, q⟩ := h
  cases r with
  | cons rx rr =>
    cases rr with
    | cons rt rr =>
      cases rr
      cases rx
      have ec := hcv _ rt
      subst ec
      obtain ⟨hget, _⟩ := I.pin (a, oe) (List.mem_append.mpr (.inl List.mem_cons_self))
      obtain ⟨vs, hv⟩ := hf
      have J : ∃ od, PySem.W.InstAt s.heap a oe D od := by
        rcases hd with hd | ⟨dd, ws, hd, hx⟩
        · refine ⟨none, hget, hz.1, by unfold PySem.W.notCls; rw [hv] <;> rfl, ?_⟩
          rw [hz.2, hd]
          trivial
        · have hx' : ObjOk (X.suite a ((a, oe) :: pn)).prog (X.suite a ((a, oe) :: pn)).w H s.heap dd (.xd ws) := I.hok dd _ hx
          obtain ⟨mA, hns, hr⟩ := hx'
          obtain ⟨od, ho, hl⟩ := lookIn_ns hns
          refine ⟨some od, hget, hz.1, by unfold PySem.W.notCls; rw [hv] <;> rfl, ?_⟩
          rw [hz.2, hd]
          exact ho
      obtain ⟨od, J⟩ := J
      exact PySem.W.kia_one (PySem.W.y_kit C.hg C.hk C.hs C.hd C.ha C.hn C.ht C.hm) I.kIn J e (fun z => nomatch z) fun tk => ⟨.bl b, H, I.kept (t' := tk) fun _ _ z => z, rfl, q⟩
end
/-- the name of a class: an own one, a built-in one -/
inductive IsCls (W : Wd) (x : Str) : V → Value → Prop
  | own (C : Addr) : W.mg x = some (.ref C) → x ≠ "__name__" → IsCls W x (.ref C) (.ref C)
  | ty (t : String) : W.mg x = none → bootBuiltins x = some (.type t) → x ≠ "__name__" → IsCls W x (.ty t) (.type t)
section
variable {W : Wd} {S : Sco} {T : TC W S} {Γ Δ : Ctx} {Ω Ω' : OCtx} {J : JE} {e a b c o : Expr} {es : List Expr} {pos p p2 apos cpos : Pos} {α β γ : Type} {enc : α → D} {enb : β → D} {Z : Dz} {sts : List Stmt} {st : Stmt}
theorem IsCls.pe {x : Str} {c : V} {cv : Value} (h : IsCls W x c cv) {gi : Nat} (hg : S.gl[gi]? = some x) : PE T.X (.Name x p) (tC c) := by
  have dn := (T.ok.glo gi x hg).2.1
  cases h with
  | own C hm hn => exact pe_glob (T.gl hg) (by rw [T.mg]; exact hm) rfl dn
  | ty t hm hv hn => exact pe_bltn (T.gl hg) (T.free hm) hv rfl hn dn
theorem IsCls.eq {x : Str} {c : V} {cv : Value} (h : IsCls W x c cv) {u : Value} (r : RelV c u) : u = cv := by
  cases h with
  | own C hm hn => exact r
  | ty t hm hv hn => exact r
theorem IsCls.clsV {x : Str} {c : V} {cv : Value} (h : IsCls W x c cv) : ClsV c cv := by
  cases h with
  | own C hm hn => exact .own C
  | ty t hm hv hn => exact .ty t
theorem boot_isi : bootBuiltins "isinstance" = some (.builtin "isinstance") := by decide +kernel
/-- isinstance(e, C) in e's suite -/
theorem v_isE {J : Bool → OCtx → Prop} {D0 : Addr} {d : Option Addr} {a0 : Addr} {fs : List (String × D)} {n x : Str} {cv : Value} {cc : V} {r : Bool} (i gi ii : Nat) (hin : InS T a0 (.ref D0) d) (hC : ExcC W.K D0) (hk : IsCls W x cc cv) (hkit : PySem.W.kitOne W.K (.ref D0) cv = some r) (hm : W.mg "isinstance" = none)
    (hΓ : Γ[i]? = some (some (.exc a0 d fs))) (k : J r Ω) (hgx : S.gl[gi]? = some x) (hg : S.gl[ii]? = some ("isinstance" : Str) := by rfl) (hN : S.N[i]? = some n := by rfl) (hv : S.vl.elem i = true := by rfl)
    (he : starEach (.Name n p2 :: [.Name x apos]) T.X.env = (false, eval (.Name n p2) T.X.env) :: starEach [.Name x apos] T.X.env := by rfl) (he2 : starEach (.Name x apos :: []) T.X.env = (false, eval (.Name x apos) T.X.env) :: starEach [] T.X.env := by rfl)
    (hpl : (backTo pos (starEach [.Name x apos] T.X.env)).any (·.1) = false := by rfl) : WV T Γ D.bl (.Call (.Name "isinstance" p) [.Name n p2, .Name x apos] [] pos) Ω J := fun σ H H0 hs sl => by
  obtain ⟨X', oe, pn, eX, hz, hf⟩ := hin
  have hcr : CallR T.X (.builtin "isinstance") (rIsY W.K D0 a0 d) := by
    have hK := T.K
    rw [eX] at hK ⊢
    have hK' : X'.K = W.K := hK
    rw [← hK'] at hC ⊢
    exact call_isY hC hz hf
  refine of_pe (pe_callB hcr (T.gl hg) (T.free hm) boot_isi (pa_cons pe_sem (pa_cons (hk.pe hgx) pa_nil he2) he) (T.ok.glo ii _ hg).2.2 (T.ok.glo ii _ hg).2.1 he hpl) ?_
  refine sem_mono (e_var (T := T) (Γ := Γ) (J := fun a Ω' => a = .exc a0 d fs ∧ Ω' = Ω) i hN hv hΓ ⟨rfl, rfl⟩ σ H H0 hs sl) fun v H1 ⟨H01, ax, Ω1, s1, hs1, ka, e1, e2⟩ => ?_
  subst e1 e2
  obtain ⟨rfl, hd⟩ := ka
  refine ⟨cc, cv, r, rfl, fun u ru => hk.eq ru, hkit, ?_, .mk (enc := D.bl) s1 hs1 (.bl _) k⟩
  rcases hd with ⟨_, hd⟩ | ⟨dd, vs, hd, hx, _⟩
  · exact .inl hd
  · exact .inr ⟨dd, vs, hd, hs1.sub _ _ hx⟩
/-- e.f in e's suite -/
theorem v_xf {J : α → OCtx → Prop} {D0 : Addr} {d : Option Addr} {a0 : Addr} {fs : List (String × D)} {n : Str} {f : String} {y : α} (i : Nat) (hin : InS T a0 (.ref D0) d) (hX : XfC W.K D0) (hno : PySem.W.findIn W.K (.ref D0) (Str.ofString f) = some none)
    (hΓ : Γ[i]? = some (some (.exc a0 d fs))) (hf : fs.lookup f = some (enc y)) (k : J y Ω) (hN : S.N[i]? = some n := by rfl) (hv : S.vl.elem i = true := by rfl)
    (hb : ∀ env : Env, attributeBase (.Name n p) (Str.ofString f) env (eval (.Name n p) env) = eval (.Name n p) env := by intro _; rfl) : WV T Γ enc (.Attribute (.Name n p) (Str.ofString f) pos) Ω J := fun σ H H0 hs sl => by
  obtain ⟨X', oe, pn, eX, hz, hfl⟩ := hin
  have hK := T.K
  have pe : PE T.X (.Attribute (.Name n p) (Str.ofString f) pos) (tXf a0 (.ref D0) d D0 (Str.ofString f) (sem T.X (.Name n p))) := by
    have hp : PE (X'.suite a0 ((a0, oe) :: pn)) (.Name n p) (sem T.X (.Name n p)) := by rw [← eX]; exact pe_sem
    rw [eX] at hK
    have hK' : X'.K = W.K := hK
    have q := pe_xf (X := X') (pos := pos) (by rw [hK']; exact hX) (by rw [hK']; exact hno) hz hfl hp (hb X'.env)
    rw [← eX] at q
    exact q
  refine of_pe pe (sem_mono (e_var (T := T) (Γ := Γ) (J := fun a Ω' => a = .exc a0 d fs ∧ Ω' = Ω) i hN hv hΓ ⟨rfl, rfl⟩ σ H H0 hs sl) fun v H1 ⟨H01, ax, Ω1, s1, hs1, ka, e1, e2⟩ => ?_)
  subst e1 e2
  obtain ⟨rfl, hd⟩ := ka
  rcases hd with ⟨hd, _⟩ | ⟨dd, vs, hd, hx, l⟩
  · subst hd
    cases hf
  · obtain ⟨w, e3, r⟩ := lookup_F l hf
    exact ⟨rfl, rfl, dd, vs, w, hd, hs1.sub _ _ hx, e3, .mk s1 hs1 r k⟩
/-! ### isinstance of data -/
def tyD : D → Option String
  | .non => some "NoneType"
  | .bl _ => some "bool"
  | .int _ => some "int"
  | .str _ => some "str"
  | .tup _ => some "tuple"
  | .lst _ => some "list"
  | _ => none
def tyE (K : PySem.W.Frag) (t c : String) (r : Bool) : Prop := PySem.W.kitOne K (.type t) (.type c) = some r
theorem SqT_ty {K : PySem.W.Frag} {H : Hp} {a : Addr} {xs : List V} (h : SqT K H a xs) : TyX K H (.ref a) (.type "tuple") := by
  rcases h with (h | ⟨o, h⟩) | ⟨o, its, n, hk, hc, hs, hz, r⟩
  · exact .base (.tup h)
  · exact .fTuple h
  · exact .kTuple hk hc
theorem Is.tyX {K : PySem.W.Frag} {H0 H : Hp} (s : Same H0 H) {v : V} {d : D} {t : String} (h : Is K H0 v d) (e : tyD d = some t) : TyX K H v (.type t) := by
  cases h with
  | non => cases e; exact .base .non
  | bl b => cases e; exact .base (.bl b)
  | int i => cases e; exact .base (.int i)
  | str x => cases e; exact .base (.str x)
  | lst z h l => cases e; exact .base (.lst (s _ _ h))
  | sqs z h l => cases e
  | tup z h l => cases e; exact SqT_ty (SameT s h)
  | dk h l => cases e
  | dt h l => cases e
  | obj h l => cases e
/-- isinstance(e, T), e data, T a built-in type -/
theorem v_isi {J : Bool → OCtx → Prop} {x : Str} {cc : V} {cv : Value} (gi ii : Nat) (hm : W.mg "isinstance" = none) (hk : IsCls W x cc cv) (h : WD T Γ e Ω fun d Ω1 => ∃ t r, tyD d = some t ∧ PySem.W.kitOne W.K (.type t) cv = some r ∧ J r Ω1)
    (hgx : S.gl[gi]? = some x) (hg : S.gl[ii]? = some ("isinstance" : Str) := by rfl)
    (he : starEach (e :: [.Name x apos]) T.X.env = (false, eval e T.X.env) :: starEach [.Name x apos] T.X.env := by rfl) (he2 : starEach (.Name x apos :: []) T.X.env = (false, eval (.Name x apos) T.X.env) :: starEach [] T.X.env := by rfl)
    (hpl : (backTo pos (starEach [.Name x apos] T.X.env)).any (·.1) = false := by rfl) : WV T Γ D.bl (.Call (.Name "isinstance" p) [e, .Name x apos] [] pos) Ω J := fun σ H H0 hs sl => by
  refine of_pe (pe_callB call_isi (T.gl hg) (T.free hm) boot_isi (pa_cons pe_sem (pa_cons (hk.pe hgx) pa_nil he2) he) (T.ok.glo ii _ hg).2.2 (T.ok.glo ii _ hg).2.1 he hpl) ?_
  refine sem_mono (h σ H H0 hs sl) fun v H1 ⟨H01, ax, Ω1, s1, hs1, ka, d, hd, t, r, e1, e2, j⟩ => ?_
  have ty : TyX T.X.K H1 v (.type t) := by
    rw [T.K]
    rcases hd with rfl | ⟨q, i, ds, rfl, hq, rfl⟩
    · exact Is.tyX hs1.sub ka e1
    · obtain ⟨ho, z1, z2⟩ := hs1.at_ hq
      obtain ⟨vs, rfl, lz, l⟩ := z2
      cases (show v = .ref q from ka)
      cases e1
      exact .base (.lst z1)
  exact ⟨v, cc, .type t, cv, r, rfl, hk.clsV, ty, by rw [T.K]; exact e2, .mk (enc := D.bl) s1 hs1 (.bl _) j⟩
end
theorem kit_tt (K : PySem.W.Frag) : (∀ t ∈ ["NoneType", "bool", "int", "str", "list", "tuple", "dict"], ∀ c ∈ ["bool", "int", "str", "list", "tuple", "dict"], PySem.W.kitOne K (.type t) (.type c) = some (decide (t = c) || (decide (t = "bool") && decide (c = "int")))) := by
  intro t ht c hc
  simp only [List.mem_cons, List.not_mem_nil, or_false] at ht hc
  rcases ht with rfl | rfl | rfl | rfl | rfl | rfl | rfl <;> rcases hc with rfl | rfl | rfl | rfl | rfl | rfl <;> kernel_rfl
end Y
/-! YS: set(xs) of a list or a tuple of ints or texts; len(set(xs)), sorted(set(xs)). -/
namespace YS
open PySem PySem.Spec PyProof.Rows L2
section
variable {P : Program} {w : World} {A : Around} {E : Value → Shared → Prop} {s : Shared}
theorem update_gen {I : Addr} {fp wr : List Addr} {G : Array GenState → Array GenState → Prop} {n : Nat} {Pv : Nat → Value → Prop} {St : Nat → Shared → Prop} {R : Result → Shared → Prop}
    (W : WalksS P w A.in1 I fp wr G n Pv St) (S : Addr) (hSf : S ∉ fp) (Z : Nat → Heap → Prop) (hZ : ∀ i h h', Z i h → (∀ o, h.get? S = some o → h'.get? S = some o) → Z i h')
    (hadd : ∀ i v (s : Shared) (Q : Bool → Shared → Prop) (A' : Around) (E' : Value → Shared → Prop), i < n → Pv i v → Z i s.heap → (∀ b h' tk, s.toks ≤ tk → Heap.SameBut S s.heap h' → Z (i + 1) h' → Q b { s with heap := h', toks := tk }) → wpAny (model P w) A' (setAdd S v) Q E' s) :
    ∀ (k i : Nat) (s : Shared), n - i = k → i ≤ n → St i s → Z i s.heap → (∀ s', Moved (S :: wr) G s s' → Z n s'.heap → R (.ok (.ret .none)) s') → codeAny (model P w) A (.builtin "set.update.loop" ⟨[.ref S, .ref I], []⟩) R s := by
  have hSw : S ∉ wr := fun h => hSf (W.sub _ h)
  have hsub : ∀ b ∈ wr, b ∈ S :: wr := fun b hb => List.mem_cons_of_mem _ hb
  intro k
  induction k with
  | zero =>
    intro i s hk' hi hst hS hR
    have hin : i = n := by omega
    subst hin
    refine codeAny_builtin F.entry_set_update_loop ?_
    rw [Around.under_plainId F.plain_set_update_loop _]
    show wpAny _ A.in1 (pyNext (.ref I) >>= _) _ _ s
    refine wpAny_bind (W.done s _ _ hst fun s' hm => ?_)
    show wpAny _ A.in1 (ret Value.none) _ _ s'
    exact wpAny_pure (hR s' (hm.mono hsub) (hZ _ _ _ hS fun o e => hm.heap S o hSw e))
  | succ k ih =>
    intro i s hk' hi hst hS hR
    have hlt : i < n := by omega
    refine codeAny_builtin F.entry_set_update_loop ?_
    rw [Around.under_plainId F.plain_set_update_loop _]
    show wpAny _ A.in1 (pyNext (.ref I) >>= _) _ _ s
    refine wpAny_bind (W.item i s _ _ hlt hst fun v s' hP hst' hm => ?_)
    have hS' := hZ _ _ _ hS fun o e => hm.heap S o hSw e
    show wpAny _ A.in1 (holding [v] (setAdd S v) >>= _) _ _ s'
    refine wpAny_bind (wpAny_holding (hadd i v s' _ _ _ hlt hP hS' fun b h' tk htk hsb hS3 => ?_))
    refine wpAny_pure ⟨plainId_quiet F.plain_set_update_loop _, ih (i + 1) _ (by omega) hlt (W.frame _ s' _ _ hst' htk fun b hb o e => ?_) hS3 fun s'' hm'' hS'' => ?_⟩
    · rw [hsb.2 b (fun h : b = S => hSf (by rw [← h]; exact hb))]; exact e
    · refine hR s'' (Moved.trans W.gtrans ((hm.mono hsub).then_heap htk fun b o hb e => ?_) hm'') hS''
      rw [hsb.2 b (fun h : b = S => hb (by rw [h]; exact List.mem_cons_self))]; exact e

set_option maxHeartbeats 6400000 in
theorem call_list {l : Addr} {items : Array Value} (Z : Nat → Heap → Prop) {Q : Value → Shared → Prop} (hh : A.handled = none) (hl : s.heap.IsList l items)
    (hZ : ∀ i h h', Z i h → (∀ o, h.get? s.heap.objs.size = some o → h'.get? s.heap.objs.size = some o) → Z i h') (hZ0 : ∀ h : Heap, h.get? s.heap.objs.size = some { cls := .type "set", dict := none, data := .set #[] 0 (.fresh 0 0 (!w.params.followText "set-order")) } → Z 0 h)
    (hadd : ∀ i v (s' : Shared) (Q : Bool → Shared → Prop) (A' : Around) (E' : Value → Shared → Prop), i < items.size → items[i]? = some v → Z i s'.heap → (∀ b h' tk, s'.toks ≤ tk → Heap.SameBut s.heap.objs.size s'.heap h' → Z (i + 1) h' → Q b { s' with heap := h', toks := tk }) → wpAny (model P w) A' (setAdd s.heap.objs.size v) Q E' s')
    (h : ∀ (h' : Heap) (tk : Nat), Z items.size h' → (∀ b o, s.heap.get? b = some o → h'.get? b = some o) → Q (.ref s.heap.objs.size) { s with heap := h', toks := tk }) :
    wpAny (model P w) A (call (.type "set") [.ref l]) Q E s := by
  obtain ⟨c, tl, hmro⟩ := F.called_set.mro
  have hmade := F.called_set.made
  have hsub := F.called_set.sub
  refine wpAny_call (codeAny_of_tree ?_)
  show wpAny _ _ (callAny (.type "set") _) _ _ _
  refine wpAny_pure ⟨Code.quiet_builtin _ (by decide +kernel), codeAny_builtin F.entry_type_call ?_⟩
  rw [Around.under_plain (weight_type_call_type "set" [.ref l] []) rfl]
  have h1 := F.called_set.notType
  have h2 := F.called_set.canCreate
  have hct := F.typeCall_set_1 (.ref l)
  repeat (any_goals (first | assumption | wp_step))
  refine codeAny_mono (code_set_led1 (.ref l) (E := E) (Q₁ := fun obj s₁ => obj = .ref s.heap.objs.size ∧ s₁ = { s with heap := s.heap.push { cls := .type "set", dict := none, data := .set #[] 0 (.fresh 0 0 (!w.params.followText "set-order")) } }) ⟨rfl, rfl⟩) fun r s₁ hr => ?_
  cases r with
  | error e => exact hr
  | ok fl =>
    cases fl with
    | ret obj =>
      obtain ⟨rfl, rfl⟩ := hr
      have hS : (s.heap.push { cls := .type "set", dict := none, data := .set #[] 0 (.fresh 0 0 (!w.params.followText "set-order")) }).get? s.heap.objs.size = some { cls := .type "set", dict := none, data := .set #[] 0 (.fresh 0 0 (!w.params.followText "set-order")) } := Heap.get?_push_size _ rfl
      have hT : Shared.TypeIs { s with heap := s.heap.push { cls := .type "set", dict := none, data := .set #[] 0 (.fresh 0 0 (!w.params.followText "set-order")) } } (.ref s.heap.objs.size) "set" := ⟨_, hS, rfl⟩
      have hli := F.called_set.init.lookup
      have hbi := F.called_set.init.bind (.ref s.heap.objs.size)
      repeat (any_goals (first | assumption | wp_step))
      refine codeAny_mono (codeAny_call_builtin (R := wants (fun r s₂ => r = .none ∧ ∃ h' tk, s₂ = { s with heap := h', toks := tk } ∧ Z items.size h' ∧
          (∀ b o, s.heap.get? b = some o → h'.get? b = some o)) E) F.called_set.init.plain F.entry_set_init (check_set_init_1 hT ?_)) fun r₂ s₂ hr₂ => ?_
      · obtain ⟨ol, hol, hcl, nl, hdl⟩ := hl
        obtain ⟨ocls, odict, odata, oslots⟩ := ol
        simp only at hcl hdl
        subst hcl; subst hdl
        have hol' : (s.heap.push { cls := .type "set", dict := none, data := .set #[] 0 (.fresh 0 0 (!w.params.followText "set-order")) }).get? l = some { cls := .type "list", dict := odict, data := .seq items nl, slots := oslots } := Heap.get?_push_of_some _ hol
        have hsls := PySem.F.sub_list_set
        have hslf := PySem.F.sub_list_frozenset
        have hne : (Value.type "list" == Value.type "dict") = false := by decide
        have hl1 : (s.heap.push { cls := .type "set", dict := none, data := .set #[] 0 (.fresh 0 0 (!w.params.followText "set-order")) }).IsList l items := ⟨_, hol', rfl, nl, rfl⟩
        unfold Builtin.«set.__init__» noKeywords Builtin.Frozenset.updateFrom
        generalize hPI : pyIter = PI
        wp_walk
        subst hPI
        refine wpAny_pyIter_list hl1 ?_
        refine wpAny_bind (wpAny_runValue ?_)
        have hlS : l < s.heap.objs.size := Heap.lt_size hol
        have hh3 : A.in1.in1.in1.handled = none := by simp [hh]
        have hneI : l ≠ (s.heap.push { cls := .type "set", dict := none, data := .set #[] 0 (.fresh 0 0 (!w.params.followText "set-order")) }).objs.size := by
          rw [Heap.size_push]; exact Nat.ne_of_lt (Nat.lt_succ_of_lt hlS)
        have hSf : s.heap.objs.size ∉ [(s.heap.push { cls := .type "set", dict := none, data := .set #[] 0 (.fresh 0 0 (!w.params.followText "set-order")) }).objs.size, l] := by
          rw [Heap.size_push]; simp only [List.mem_cons, List.mem_singleton, List.not_mem_nil, or_false, not_or]
          exact ⟨Nat.ne_of_lt (Nat.lt_succ_self _), Nat.ne_of_gt hlS⟩
        refine update_gen ((Walks.list hh3 _ l hneI items).toS) s.heap.objs.size
          hSf Z hZ hadd (items.size - 0) 0 _ (by omega) (Nat.zero_le _)
          ⟨⟨_, Heap.get?_push_size _ rfl, rfl, rfl⟩, (hl1.push _)⟩ ?hS0 ?hR
        case hS0 =>
          have hget : ((s.heap.push { cls := .type "set", dict := none, data := .set #[] 0 (.fresh 0 0 (!w.params.followText "set-order")) }).push { cls := .type "list_iterator", data := .fields #[.ref l, .int 0 0] }).get? s.heap.objs.size
              = some { cls := .type "set", dict := none, data := .set #[] 0 (.fresh 0 0 (!w.params.followText "set-order")) } := Heap.get?_push_of_some _ hS
          exact hZ0 _ hget
        case hR =>
          intro s' hm hS'
          obtain ⟨h', g2, d', tk', os'⟩ := s'
          have eg : g2 = s.gens := hm.gens
          have ed : d' = s.drawn := hm.drawn
          have eo : os' = s.os := hm.os
          subst eg; subst ed; subst eo
          show wpAny _ _ _ _ _ _
          refine wpAny_pure ?_
          show wpAny _ _ (ret Value.none) _ _ _
          refine wpAny_pure ⟨rfl, h', tk', rfl, hS', fun b o e => ?_⟩
          have hb0 : b < s.heap.objs.size := Heap.lt_size e
          have hb1 : b ≠ s.heap.objs.size := Nat.ne_of_lt hb0
          have hb2 : b ≠ (s.heap.push { cls := .type "set", dict := none, data := .set #[] 0 (.fresh 0 0 (!w.params.followText "set-order")) }).objs.size := by
            rw [Heap.size_push]; exact Nat.ne_of_lt (Nat.lt_succ_of_lt hb0)
          exact hm.heap b o (by simp only [List.mem_cons, List.mem_singleton, List.not_mem_nil, or_false, not_or]; exact ⟨hb1, hb2⟩) (Heap.get?_push_of_some _ (Heap.get?_push_of_some _ e))
      · cases r₂ with
        | error e => exact hr₂
        | ok fl₂ =>
          cases fl₂ with
          | ret r =>
            obtain ⟨rfl, h', tk, rfl, hS', hk'⟩ := hr₂
            repeat (any_goals (first | assumption | wp_step))
            exact h _ _ hS' hk'
          | _ => exact hr₂.elim
    | _ => exact hr.elim

set_option maxHeartbeats 6400000 in
theorem call_tuple {l : Addr} {items : Array Value} (Z : Nat → Heap → Prop) {Q : Value → Shared → Prop} (hh : A.handled = none) (hl : s.heap.IsTuple l items)
    (hZ : ∀ i h h', Z i h → (∀ o, h.get? s.heap.objs.size = some o → h'.get? s.heap.objs.size = some o) → Z i h') (hZ0 : ∀ h : Heap, h.get? s.heap.objs.size = some { cls := .type "set", dict := none, data := .set #[] 0 (.fresh 0 0 (!w.params.followText "set-order")) } → Z 0 h)
    (hadd : ∀ i v (s' : Shared) (Q : Bool → Shared → Prop) (A' : Around) (E' : Value → Shared → Prop), i < items.size → items[i]? = some v → Z i s'.heap → (∀ b h' tk, s'.toks ≤ tk → Heap.SameBut s.heap.objs.size s'.heap h' → Z (i + 1) h' → Q b { s' with heap := h', toks := tk }) → wpAny (model P w) A' (setAdd s.heap.objs.size v) Q E' s')
    (h : ∀ (h' : Heap) (tk : Nat), Z items.size h' → (∀ b o, s.heap.get? b = some o → h'.get? b = some o) → Q (.ref s.heap.objs.size) { s with heap := h', toks := tk }) :
    wpAny (model P w) A (call (.type "set") [.ref l]) Q E s := by
  obtain ⟨c, tl, hmro⟩ := F.called_set.mro
  have hmade := F.called_set.made
  have hsub := F.called_set.sub
  refine wpAny_call (codeAny_of_tree ?_)
  show wpAny _ _ (callAny (.type "set") _) _ _ _
  refine wpAny_pure ⟨Code.quiet_builtin _ (by decide +kernel), codeAny_builtin F.entry_type_call ?_⟩
  rw [Around.under_plain (weight_type_call_type "set" [.ref l] []) rfl]
  have h1 := F.called_set.notType
  have h2 := F.called_set.canCreate
  have hct := F.typeCall_set_1 (.ref l)
  repeat (any_goals (first | assumption | wp_step))
  refine codeAny_mono (code_set_led1 (.ref l) (E := E) (Q₁ := fun obj s₁ => obj = .ref s.heap.objs.size ∧ s₁ = { s with heap := s.heap.push { cls := .type "set", dict := none, data := .set #[] 0 (.fresh 0 0 (!w.params.followText "set-order")) } }) ⟨rfl, rfl⟩) fun r s₁ hr => ?_
  cases r with
  | error e => exact hr
  | ok fl =>
    cases fl with
    | ret obj =>
      obtain ⟨rfl, rfl⟩ := hr
      have hS : (s.heap.push { cls := .type "set", dict := none, data := .set #[] 0 (.fresh 0 0 (!w.params.followText "set-order")) }).get? s.heap.objs.size = some { cls := .type "set", dict := none, data := .set #[] 0 (.fresh 0 0 (!w.params.followText "set-order")) } := Heap.get?_push_size _ rfl
      have hT : Shared.TypeIs { s with heap := s.heap.push { cls := .type "set", dict := none, data := .set #[] 0 (.fresh 0 0 (!w.params.followText "set-order")) } } (.ref s.heap.objs.size) "set" := ⟨_, hS, rfl⟩
      have hli := F.called_set.init.lookup
      have hbi := F.called_set.init.bind (.ref s.heap.objs.size)
      repeat (any_goals (first | assumption | wp_step))
      refine codeAny_mono (codeAny_call_builtin (R := wants (fun r s₂ => r = .none ∧ ∃ h' tk, s₂ = { s with heap := h', toks := tk } ∧ Z items.size h' ∧
          (∀ b o, s.heap.get? b = some o → h'.get? b = some o)) E) F.called_set.init.plain F.entry_set_init (check_set_init_1 hT ?_)) fun r₂ s₂ hr₂ => ?_
      · obtain ⟨ol, hol, hcl, nl, hdl⟩ := hl
        obtain ⟨ocls, odict, odata, oslots⟩ := ol
        simp only at hcl hdl
        subst hcl; subst hdl
        have hol' : (s.heap.push { cls := .type "set", dict := none, data := .set #[] 0 (.fresh 0 0 (!w.params.followText "set-order")) }).get? l = some { cls := .type "tuple", dict := odict, data := .seq items nl, slots := oslots } := Heap.get?_push_of_some _ hol
        have hsls := PySem.F.sub_tuple_set
        have hslf := PySem.F.sub_tuple_frozenset
        have hne : (Value.type "tuple" == Value.type "dict") = false := by decide
        have hl1 : (s.heap.push { cls := .type "set", dict := none, data := .set #[] 0 (.fresh 0 0 (!w.params.followText "set-order")) }).IsTuple l items := ⟨_, hol', rfl, nl, rfl⟩
        unfold Builtin.«set.__init__» noKeywords Builtin.Frozenset.updateFrom
        generalize hPI : pyIter = PI
        wp_walk
        subst hPI
        refine wpAny_pyIter_tuple hl1 ?_
        refine wpAny_bind (wpAny_runValue ?_)
        have hlS : l < s.heap.objs.size := Heap.lt_size hol
        have hh3 : A.in1.in1.in1.handled = none := by simp [hh]
        have hneI : l ≠ (s.heap.push { cls := .type "set", dict := none, data := .set #[] 0 (.fresh 0 0 (!w.params.followText "set-order")) }).objs.size := by
          rw [Heap.size_push]; exact Nat.ne_of_lt (Nat.lt_succ_of_lt hlS)
        have hSf : s.heap.objs.size ∉ [(s.heap.push { cls := .type "set", dict := none, data := .set #[] 0 (.fresh 0 0 (!w.params.followText "set-order")) }).objs.size, l] := by
          rw [Heap.size_push]; simp only [List.mem_cons, List.mem_singleton, List.not_mem_nil, or_false, not_or]
          exact ⟨Nat.ne_of_lt (Nat.lt_succ_self _), Nat.ne_of_gt hlS⟩
        refine update_gen ((Walks.tuple hh3 _ l hneI items).toS) s.heap.objs.size
          hSf Z hZ hadd (items.size - 0) 0 _ (by omega) (Nat.zero_le _)
          ⟨⟨_, Heap.get?_push_size _ rfl, rfl, rfl⟩, (hl1.push _)⟩ ?hS0 ?hR
        case hS0 =>
          have hget : ((s.heap.push { cls := .type "set", dict := none, data := .set #[] 0 (.fresh 0 0 (!w.params.followText "set-order")) }).push { cls := .type "tuple_iterator", data := .fields #[.ref l, .int 0 0] }).get? s.heap.objs.size
              = some { cls := .type "set", dict := none, data := .set #[] 0 (.fresh 0 0 (!w.params.followText "set-order")) } := Heap.get?_push_of_some _ hS
          exact hZ0 _ hget
        case hR =>
          intro s' hm hS'
          obtain ⟨h', g2, d', tk', os'⟩ := s'
          have eg : g2 = s.gens := hm.gens
          have ed : d' = s.drawn := hm.drawn
          have eo : os' = s.os := hm.os
          subst eg; subst ed; subst eo
          show wpAny _ _ _ _ _ _
          refine wpAny_pure ?_
          show wpAny _ _ (ret Value.none) _ _ _
          refine wpAny_pure ⟨rfl, h', tk', rfl, hS', fun b o e => ?_⟩
          have hb0 : b < s.heap.objs.size := Heap.lt_size e
          have hb1 : b ≠ s.heap.objs.size := Nat.ne_of_lt hb0
          have hb2 : b ≠ (s.heap.push { cls := .type "set", dict := none, data := .set #[] 0 (.fresh 0 0 (!w.params.followText "set-order")) }).objs.size := by
            rw [Heap.size_push]; exact Nat.ne_of_lt (Nat.lt_succ_of_lt hb0)
          exact hm.heap b o (by simp only [List.mem_cons, List.mem_singleton, List.not_mem_nil, or_false, not_or]; exact ⟨hb1, hb2⟩) (Heap.get?_push_of_some _ (Heap.get?_push_of_some _ e))
      · cases r₂ with
        | error e => exact hr₂
        | ok fl₂ =>
          cases fl₂ with
          | ret r =>
            obtain ⟨rfl, h', tk, rfl, hS', hk'⟩ := hr₂
            repeat (any_goals (first | assumption | wp_step))
            exact h _ _ hS' hk'
          | _ => exact hr₂.elim
    | _ => exact hr.elim

end
/-- keys in the values -/
theorem key_at : ∀ {us : List Value} {ks : List Key} {i : Nat} {v : Value}, Vals (ks.map kV) us → us[i]? = some v → ∃ k, ks[i]? = some k ∧ RelV (kV k) v
  | _, [], _, _, .nil, e => by simp at e
  | _, k :: ks, 0, _, .cons r t, e => by
    simp at e
    subst e
    exact ⟨k, rfl, r⟩
  | _, k :: ks, i + 1, v, .cons r t, e => by
    obtain ⟨k', h1, h2⟩ := key_at (i := i) (v := v) t (by simpa using e)
    exact ⟨k', by simpa using h1, h2⟩
/-- is among them; how many different ones -/
def memK (k : Key) (l : List Key) : Bool := l.any fun j => decide (j = k)
def cntK (ks : List Key) : Nat → Nat
  | 0 => 0
  | i + 1 => match ks[i]? with
    | some k => if memK k (ks.take i) then cntK ks i else cntK ks i + 1
    | none => cntK ks i
def ZK (P : Program) (w : World) (S : Addr) (ks : List Key) (i : Nat) (h : Heap) : Prop := h.SetOf (mixKind P w) S (fun k => memK k (ks.take i)) (cntK ks i)
theorem cntK_le (ks : List Key) : ∀ i, cntK ks i ≤ i
  | 0 => Nat.le_refl _
  | i + 1 => by
    have := cntK_le ks i
    unfold cntK
    split
    · split <;> omega
    · omega
section
variable {P : Program} {w : World} {S : Addr} {ks : List Key}
theorem ZK_congr {h : Heap} {f g : Key → Bool} {n n' : Nat} (hS : h.SetOf (mixKind P w) S f n) (e : ∀ k, f k = g k) (en : n = n') : h.SetOf (mixKind P w) S g n' := by
  have z : f = g := funext e
  subst z; subst en; exact hS
theorem ZK_at (i : Nat) (h h' : Heap) (z : ZK P w S ks i h) (k : ∀ o, h.get? S = some o → h'.get? S = some o) : ZK P w S ks i h' := setOf_at z k
theorem ZK_new (h : Heap) (e : h.get? S = some { cls := .type "set", dict := none, data := .set #[] 0 (.fresh 0 0 (!w.params.followText "set-order")) }) : ZK P w S ks 0 h :=
  ⟨_, #[], 0, _, e, ⟨rfl, rfl, rfl⟩, rfl, (fun e he => by simp at he), (fun k => by simp [memK]), (by decide), (by rfl), rfl⟩
theorem ZK_add {us : List Value} (hv : Vals (ks.map kV) us) (hb : ks.length + 1 < scanBound) (i : Nat) (v : Value) (s : Shared) (Q : Bool → Shared → Prop) (A' : Around) (E' : Value → Shared → Prop) (hi : i < us.length) (e : us[i]? = some v) (z : ZK P w S ks i s.heap)
    (q : ∀ b h' tk, s.toks ≤ tk → Heap.SameBut S s.heap h' → ZK P w S ks (i + 1) h' → Q b { s with heap := h', toks := tk }) : wpAny (model P w) A' (setAdd S v) Q E' s := by
  obtain ⟨k, hk, r⟩ := key_at hv e
  have hlen : i < ks.length := (List.getElem?_eq_some_iff.mp hk).1
  have hc := cntK_le ks i
  unfold setAdd
  refine wpAny_holding ?_
  refine wpAny_bind ((mixKind P w).pyHash (k := k) (kV_is r) ?_)
  refine wpAny_setAddHashed_of (knd := mixKind P w) (s := { s with toks := s.toks + 1 }) (kV_is r) (key_scan r) z (by omega) fun h' hsb hS2 => ?_
  refine q _ h' _ (Nat.le_succ _) hsb ?_
  unfold ZK
  refine ZK_congr hS2 (fun k' => ?_) ?_
  · unfold memK
    rw [List.take_add_one, hk, List.any_append]
    have : (some k).toList.any (fun j => decide (j = k')) = decide (k' = k) := by simp [eq_comm]
    rw [this]
  · show _ = cntK ks (i + 1)
    rw [show cntK ks (i + 1) = (match ks[i]? with | some k => if memK k (ks.take i) then cntK ks i else cntK ks i + 1 | none => cntK ks i) from rfl, hk]
/-- ints, in the form that sorted asks for -/
def ZI (w : World) (S : Addr) (ns : List Int) (i : Nat) (h : Heap) : Prop := ∃ c, c ≤ i ∧ SetR w h S (fun j => decide (j ∈ ns.take i)) c
theorem ZI_at {ns : List Int} (i : Nat) (h h' : Heap) (z : ZI w S ns i h) (k : ∀ o, h.get? S = some o → h'.get? S = some o) : ZI w S ns i h' := by
  obtain ⟨c, hc, z⟩ := z
  exact ⟨c, hc, z.at k⟩
theorem ZI_add {ns : List Int} {us : List Value} (hv : Vals (ns.map V.int) us) (hb : ns.length + 1 < scanBound) (i : Nat) (v : Value) (s : Shared) (Q : Bool → Shared → Prop) (A' : Around) (E' : Value → Shared → Prop) (hi : i < us.length) (e : us[i]? = some v) (z : ZI w S ns i s.heap)
    (q : ∀ b h' tk, s.toks ≤ tk → Heap.SameBut S s.heap h' → ZI w S ns (i + 1) h' → Q b { s with heap := h', toks := tk }) : wpAny (model P w) A' (setAdd S v) Q E' s := by
  obtain ⟨c, hc, z⟩ := z
  have hlen : i < ns.length := by have := hv.length; rw [List.length_map] at this; omega
  obtain ⟨u, h1, r⟩ := hv.get (i := i) (x := .int ns[i]) (by rw [List.getElem?_map, List.getElem?_eq_getElem hlen]; rfl)
  rw [e] at h1
  cases h1
  obtain ⟨t, rfl⟩ := r
  unfold setAdd
  refine wpAny_holding ?_
  refine wpAny_bind ((intKind P w).pyHash (k := ns[i]) (intKind_is _ _ _ _) ?_)
  refine setR_add_hashed (s := { s with toks := s.toks + 1 }) z (by omega) fun h' hsb hS2 => ?_
  refine q _ h' _ (Nat.le_succ _) hsb ⟨_, ?_, hS2.congr fun j => ?_⟩
  · split <;> omega
  · rw [List.take_add_one, List.getElem?_eq_getElem hlen]
    rw [Bool.eq_iff_iff]
    simp only [decide_eq_true_eq, Bool.or_eq_true, List.mem_append, Option.toList, List.mem_singleton]
end
end YS
namespace Y
open PySem PySem.Spec PyProof.Rows L2
def keyI (xs : List Int) : List Key := xs.map Sum.inl
def keyS (xs : List Str) : List Key := xs.map Sum.inr
section
variable {X : Cx} {a : Expr} {ta : TE} {p p2 q pos : Pos}
def tLenSetK (K : PySem.W.Frag) (ta : TE) : TE := fun σ H Q => ta σ H fun x H1 => ∃ (l : Addr) (ks : List Key), x = .ref l ∧ (SqL K H1 l (ks.map kV) ∨ SqT K H1 l (ks.map kV)) ∧ ks.length ≤ 4000 ∧ Q (.int (YS.cntK ks ks.length : Nat)) H1
theorem pe_lenSetK (hg : Gl X "len") (hm : X.mg "len" = none) (hg2 : Gl X "set") (hm2 : X.mg "set" = none) (ha : PE X a ta) (hc : X.calm = true)
    (na : starEach [a] X.env = (false, eval a X.env) :: starEach [] X.env := by rfl) : PE X (.Call (.Name "len" p) [.Call (.Name "set" p2) [a] [] q] [] pos) (tLenSetK X.K ta) := by
  refine ⟨fun pins s σ H Q I h => ?_⟩
  refine Call_ (ld_blt I hg hm boot_len ?_)
  refine PyProof.Rows.callWith_builtin1 (PyProof.Rows.args_cons ?_ rfl) rfl rfl
  refine Call_ (ld_blt I hg2 hm2 boot_set ?_)
  refine PyProof.Rows.callWith_type1 (PyProof.Rows.args_cons (thn (ha.run pins s σ H _ I h) fun v s1 ⟨x, H1, I1, r1, q1⟩ => PyProof.Rows.args_nil ?_) na) na rfl
  obtain ⟨l, ks, rfl, hq, hl, q1⟩ := q1
  cases r1
  have fin : ∀ (its : List Value), Vals (ks.map kV) its → ∀ (h' : Heap) (tk : Nat), YS.ZK X.prog X.w s1.heap.objs.size ks its.toArray.size h' → (∀ b o, s1.heap.get? b = some o → h'.get? b = some o) →
      wpAny (model X.prog X.w) X.A (spliced (backTo pos (starEach [] X.env))) (fun vs s₂ => wpAny (model X.prog X.w) X.A (call (.builtin "len") (Value.ref s1.heap.objs.size :: vs)) (EP X pins σ Q) X.xe s₂) X.xe { s1 with heap := h', toks := tk } := fun its r h' tk hS hk => by
    refine PyProof.Rows.args_nil ?_
    have hlen : its.toArray.size = ks.length := by rw [List.size_toArray, ← r.length, List.length_map]
    rw [hlen] at hS
    have hle := YS.cntK_le ks ks.length
    obtain ⟨o, es, ep, t, ho, hex, hd, _, _, _, hf, hn⟩ := hS
    have I2 : Inv X pins σ H1 { s1 with heap := h', toks := tk } := I1.kept fun b o e => hk b o e
    exact call_len_set ho hex hd hf (by rw [hn] <;> omega) ⟨.int (YS.cntK ks ks.length : Nat), H1, I2.tok _, ⟨_, by rw [hn]⟩, q1⟩
  rcases hq with hq | hq
  · obtain ⟨its, r, pl, hz⟩ := I1.list hq
    have hlen : its.length = ks.length := by rw [← r.length, List.length_map]
    exact YS.call_list (YS.ZK X.prog X.w s1.heap.objs.size ks) (I1.ok.hd hc) pl.isList YS.ZK_at YS.ZK_new (fun i v s' Q' A' E' hi e z k => YS.ZK_add r (by unfold scanBound; omega) i v s' Q' A' E' (by simpa using hi) (by simpa using e) z k) fun h' tk hS hk => fin its r h' tk hS hk
  · obtain ⟨its, r, pl, hz⟩ := I1.tuple hq
    exact YS.call_tuple (YS.ZK X.prog X.w s1.heap.objs.size ks) (I1.ok.hd hc) pl YS.ZK_at YS.ZK_new (fun i v s' Q' A' E' hi e z k => YS.ZK_add r (by unfold scanBound; omega) i v s' Q' A' E' (by simpa using hi) (by simpa using e) z k) fun h' tk hS hk => fin its r h' tk hS hk
def tSortSetI (K : PySem.W.Frag) (ta : TE) : TE := fun σ H Q => ta σ H fun x H1 => ∃ (l : Addr) (xs : List Int), x = .ref l ∧ (SqL K H1 l (xs.map V.int) ∨ SqT K H1 l (xs.map V.int)) ∧ xs.length < 64 ∧
  ∀ (ns : List Int) (p : Addr), ns.Pairwise (· < ·) → (∀ k : Int, k ∈ ns ↔ k ∈ xs) → H1 p = none → Q (.ref p) (upd H1 p (.lst (ns.map V.int)))
theorem pe_sortSetI (hg : Gl X "sorted") (hm : X.mg "sorted" = none) (hg2 : Gl X "set") (hm2 : X.mg "set" = none) (ha : PE X a ta) (hc : X.calm = true)
    (na : starEach [a] X.env = (false, eval a X.env) :: starEach [] X.env := by rfl) : PE X (.Call (.Name "sorted" p) [.Call (.Name "set" p2) [a] [] q] [] pos) (tSortSetI X.K ta) := by
  refine ⟨fun pins s σ H Q I h => ?_⟩
  refine Call_ (ld_blt I hg hm boot_sorted ?_)
  refine PyProof.Rows.callWith_builtin1 (PyProof.Rows.args_cons ?_ rfl) rfl rfl
  refine Call_ (ld_blt I hg2 hm2 boot_set ?_)
  refine PyProof.Rows.callWith_type1 (PyProof.Rows.args_cons (thn (ha.run pins s σ H _ I h) fun v s1 ⟨x, H1, I1, r1, q1⟩ => PyProof.Rows.args_nil ?_) na) na rfl
  obtain ⟨l, xs, rfl, hq, hl, q1⟩ := q1
  cases r1
  have fin : ∀ (its : List Value), Vals (xs.map V.int) its → ∀ (h' : Heap) (tk : Nat), YS.ZI X.w s1.heap.objs.size xs its.toArray.size h' → (∀ b o, s1.heap.get? b = some o → h'.get? b = some o) →
      wpAny (model X.prog X.w) X.A (spliced (backTo pos (starEach [] X.env))) (fun vs s₂ => wpAny (model X.prog X.w) X.A (call (.builtin "sorted") (Value.ref s1.heap.objs.size :: vs)) (EP X pins σ Q) X.xe s₂) X.xe { s1 with heap := h', toks := tk } := fun its r h' tk hS hk => by
    refine PyProof.Rows.args_nil ?_
    have hlen : its.toArray.size = xs.length := by rw [List.size_toArray, ← r.length, List.length_map]
    rw [hlen] at hS
    obtain ⟨c, hc1, R⟩ := hS
    have I2 : Inv X pins σ H1 { s1 with heap := h', toks := tk } := I1.kept fun b o e => hk b o e
    refine sorted_set R (I.ok.hd hc) (by omega) fun s' p' out c' ns k g o hp hg hi hs hm hl' => ?_
    have hlen2 : (ns.map V.int).length ≤ sizeLine := by rw [List.length_map, hl', sizeLine_eq]; omega
    have hn : H1 p' = none := I2.hok.fresh hp
    have J : Inv X pins σ (upd H1 p' (.lst (ns.map V.int))) { ({ s1 with heap := h', toks := tk } : Shared) with heap := s'.heap, gens := s'.gens, drawn := s'.drawn, toks := s'.toks } :=
      I2.call (ch := []) (Un.laid k hp hn) (I2.hok.laid k hp ⟨hlen2, out.toList, c', vals_of_ints hi, hg⟩) (by rw [g]; exact I2.bare) (fun _ z => nomatch z)
    have e : s' = { ({ s1 with heap := h', toks := tk } : Shared) with heap := s'.heap, gens := s'.gens, drawn := s'.drawn, toks := s'.toks } := by
      cases s'
      cases s1
      cases o
      rfl
    rw [e]
    exact ⟨.ref p', _, J, rfl, q1 ns p' hs (fun k => by rw [hm k, List.take_length]; simp) hn⟩
  rcases hq with hq | hq
  · obtain ⟨its, r, pl, hz⟩ := I1.list hq
    exact YS.call_list (YS.ZI X.w s1.heap.objs.size xs) (I1.ok.hd hc) pl.isList YS.ZI_at (fun h e => ⟨0, Nat.le_refl 0, setR_new_at (ns := xs) e⟩) (fun i v s' Q' A' E' hi e z k => YS.ZI_add r (by unfold scanBound; omega) i v s' Q' A' E' (by simpa using hi) (by simpa using e) z k) fun h' tk hS hk => fin its r h' tk hS hk
  · obtain ⟨its, r, pl, hz⟩ := I1.tuple hq
    exact YS.call_tuple (YS.ZI X.w s1.heap.objs.size xs) (I1.ok.hd hc) pl YS.ZI_at (fun h e => ⟨0, Nat.le_refl 0, setR_new_at (ns := xs) e⟩) (fun i v s' Q' A' E' hi e z k => YS.ZI_add r (by unfold scanBound; omega) i v s' Q' A' E' (by simpa using hi) (by simpa using e) z k) fun h' tk hS hk => fin its r h' tk hS hk
end
section
variable {W : Wd} {S : Sco} {T : TC W S} {Γ Δ : Ctx} {Ω Ω' : OCtx} {e a : Expr} {pos p p2 q : Pos}
/-- how many different ones -/
def dedM {α : Type} [DecidableEq α] (xs : List α) : M Int := chk (decide (xs.length ≤ 4000)) (.ok (xs.eraseDups.length : Nat))
/-- the different ones, ascending -/
def sortSet (xs : List Int) : List Int := sortI xs.eraseDups
def sortSetM (xs : List Int) : M (List Int) := chk (decide (xs.length < 64)) (.ok (sortSet xs))
end
end Y
/-! Y14: len(set(xs)), sorted(set(xs)) by data. -/
namespace Y
open PySem PySem.Spec PyProof.Rows L2
/-- how many of the first i are seen for the first time -/
def cntP {α : Type} [DecidableEq α] (xs : List α) : Nat → Nat
  | 0 => 0
  | i + 1 => match xs[i]? with
    | some x => if x ∈ xs.take i then cntP xs i else cntP xs i + 1
    | none => cntP xs i
theorem memK_I (x : Int) (l : List Int) : YS.memK (.inl x) (l.map Sum.inl) = decide (x ∈ l) := by
  unfold YS.memK
  induction l with
  | nil => simp
  | cons y l ih =>
    rw [List.map_cons, List.any_cons, ih, key_ll]
    by_cases h : x = y
    · subst h; simp
    · have : (y == x) = false := by simpa using fun z : y = x => h z.symm
      rw [this]
      simp [h]
theorem memK_S (x : Str) (l : List Str) : YS.memK (.inr x) (l.map Sum.inr) = decide (x ∈ l) := by
  unfold YS.memK
  induction l with
  | nil => simp
  | cons y l ih =>
    rw [List.map_cons, List.any_cons, ih, key_rr]
    by_cases h : x = y
    · subst h; simp
    · have h' : ¬ y = x := fun z => h z.symm
      simp [h, h']
theorem cntK_I (xs : List Int) : ∀ i, YS.cntK (keyI xs) i = cntP xs i
  | 0 => rfl
  | i + 1 => by
    have ih := cntK_I xs i
    unfold YS.cntK cntP
    unfold keyI at ih ⊢
    rw [List.getElem?_map, ih, ← List.map_take]
    cases xs[i]? with
    | none => rfl
    | some x =>
      show (if YS.memK (.inl x) ((xs.take i).map Sum.inl) = true then _ else _) = _
      rw [memK_I]
      simp
theorem cntK_S (xs : List Str) : ∀ i, YS.cntK (keyS xs) i = cntP xs i
  | 0 => rfl
  | i + 1 => by
    have ih := cntK_S xs i
    unfold YS.cntK cntP
    unfold keyS at ih ⊢
    rw [List.getElem?_map, ih, ← List.map_take]
    cases xs[i]? with
    | none => rfl
    | some x =>
      show (if YS.memK (.inr x) ((xs.take i).map Sum.inr) = true then _ else _) = _
      rw [memK_S]
      simp
theorem cntP_le {α : Type} [DecidableEq α] (xs : List α) : ∀ i, cntP xs i ≤ i
  | 0 => Nat.le_refl _
  | i + 1 => by
    have := cntP_le xs i
    unfold cntP
    split
    · split <;> omega
    · omega
theorem cntP_nodup {α : Type} [DecidableEq α] (xs : List α) : ∀ i, i ≤ xs.length → (cntP xs i = i ↔ (xs.take i).Nodup)
  | 0, _ => by simp [cntP]
  | i + 1, h => by
    have ih := cntP_nodup xs i (by omega)
    have le := cntP_le xs i
    have e : xs[i]? = some xs[i] := List.getElem?_eq_getElem (by omega)
    unfold cntP
    rw [e, List.take_add_one, e, List.nodup_append]
    by_cases m : xs[i] ∈ xs.take i
    · rw [show (match some xs[i] with | some x => if x ∈ xs.take i then cntP xs i else cntP xs i + 1 | none => cntP xs i) = cntP xs i from if_pos m]
      constructor
      · intro z; omega
      · rintro ⟨_, _, z⟩
        exact absurd rfl (z _ m _ (by simp))
    · rw [show (match some xs[i] with | some x => if x ∈ xs.take i then cntP xs i else cntP xs i + 1 | none => cntP xs i) = cntP xs i + 1 from if_neg m]
      constructor
      · intro z
        refine ⟨ih.mp (by omega), by simp, fun a ha b hb z2 => ?_⟩
        have hb' : b = xs[i] := by simpa using hb
        subst hb' z2
        exact m ha
      · rintro ⟨z, _, _⟩
        have := ih.mpr z
        omega
/-- len(set(xs)) -/
def cnt {α : Type} [DecidableEq α] (xs : List α) : Int := (cntP xs xs.length : Nat)
theorem cnt_nodup {α : Type} [DecidableEq α] (xs : List α) : decide (cnt xs = (xs.length : Int)) = decide xs.Nodup := by
  have h := cntP_nodup xs xs.length (Nat.le_refl _)
  rw [List.take_length] at h
  have e : (cnt xs = (xs.length : Int)) ↔ xs.Nodup := by
    rw [← h]
    unfold cnt
    omega
  simp [e]
def lenSetM {α : Type} [DecidableEq α] (xs : List α) : M Int := chk (decide (xs.length ≤ 4000)) (.ok (cnt xs))
def ddup : List Int → List Int
  | [] => []
  | x :: xs => if x ∈ ddup xs then ddup xs else x :: ddup xs
theorem mem_ddup (y : Int) : ∀ xs : List Int, y ∈ ddup xs ↔ y ∈ xs
  | [] => by simp [ddup]
  | x :: xs => by
    have ih := mem_ddup y xs
    unfold ddup
    split
    · rename_i h
      rw [ih]
      constructor
      · exact fun z => List.mem_cons_of_mem _ z
      · intro z
        rcases List.mem_cons.mp z with rfl | z
        · exact (mem_ddup y xs).mp h
        · exact z
    · rw [List.mem_cons, ih, List.mem_cons]
theorem nodup_ddup : ∀ xs : List Int, (ddup xs).Nodup
  | [] => by simp [ddup]
  | x :: xs => by
    unfold ddup
    split
    · exact nodup_ddup xs
    · rename_i h
      exact List.nodup_cons.mpr ⟨h, nodup_ddup xs⟩
/-- sorted(set(xs)) -/
def srtS (xs : List Int) : List Int := sortI (ddup xs)
def srtSM (xs : List Int) : M (List Int) := chk (decide (xs.length < 64)) (.ok (srtS xs))
theorem mem_srtS (y : Int) (xs : List Int) : y ∈ srtS xs ↔ y ∈ xs := by
  unfold srtS
  rw [(sortI_perm _).mem_iff, mem_ddup]
theorem strict_uniq : ∀ {xs ys : List Int}, xs.Pairwise (· < ·) → ys.Pairwise (· < ·) → (∀ k, k ∈ xs ↔ k ∈ ys) → xs = ys
  | [], [], _, _, _ => rfl
  | [], y :: ys, _, _, h => absurd ((h y).mpr (List.mem_cons_self ..)) (by simp)
  | x :: xs, [], _, _, h => absurd ((h x).mp (List.mem_cons_self ..)) (by simp)
  | x :: xs, y :: ys, h1, h2, h => by
    have a := List.pairwise_cons.mp h1
    have b := List.pairwise_cons.mp h2
    have e : x = y := by
      rcases List.mem_cons.mp ((h x).mp (List.mem_cons_self ..)) with q | q
      · exact q
      · rcases List.mem_cons.mp ((h y).mpr (List.mem_cons_self ..)) with r | r
        · exact r.symm
        · have := b.1 x q
          have := a.1 y r
          omega
    subst e
    rw [strict_uniq a.2 b.2 fun k => ?_]
    constructor
    · intro m
      rcases List.mem_cons.mp ((h k).mp (List.mem_cons_of_mem _ m)) with q | q
      · have := a.1 k m
        omega
      · exact q
    · intro m
      rcases List.mem_cons.mp ((h k).mpr (List.mem_cons_of_mem _ m)) with q | q
      · have := b.1 k m
        omega
      · exact q
theorem srtS_strict (xs : List Int) : (srtS xs).Pairwise (· < ·) := by
  have h1 := sortI_sorted (ddup xs)
  have h2 : (srtS xs).Nodup := (sortI_perm (ddup xs)).nodup_iff.mpr (nodup_ddup xs)
  have h3 : (srtS xs).Pairwise (fun a b => a ≤ b ∧ a ≠ b) := h1.and h2
  exact h3.imp fun ⟨h, n⟩ => by omega
theorem nodup_len {xs ys : List Int} (n : xs.Nodup) (s : ∀ k ∈ xs, k ∈ ys) : xs.length ≤ ys.length := by
  induction xs generalizing ys with
  | nil => simp
  | cons x xs ih =>
    have a := List.nodup_cons.mp n
    have m := s x (List.mem_cons_self ..)
    have := ih (ys := ys.erase x) a.2 fun k hk => (List.mem_erase_of_ne fun z => a.1 (by rw [← z]; exact hk)).mpr (s k (List.mem_cons_of_mem _ hk))
    rw [List.length_erase_of_mem m] at this
    have : 0 < ys.length := List.length_pos_of_mem m
    simp
    omega
theorem vals_KI (xs : List Int) : (keyI xs).map kV = xs.map V.int := by
  unfold keyI
  rw [List.map_map]
  rfl
theorem vals_KS (xs : List Str) : (keyS xs).map kV = xs.map V.str := by
  unfold keyS
  rw [List.map_map]
  rfl
section
variable {W : Wd} {S : Sco} {T : TC W S} {Γ Δ : Ctx} {Ω Ω' : OCtx} {e a : Expr} {pos p p2 q : Pos}
theorem v_lenSetI {J : Int → OCtx → Prop} {Ψ : Exc → Prop} (i j : Nat) (hm : W.mg "len" = none) (hm2 : W.mg "set" = none) (h : WQ T Γ D.int a Ω fun xs Ω1 => Run (lenSetM xs) (fun r => J r Ω1) Ψ) (hc : S.calm = true := by rfl) (hg : S.gl[i]? = some ("len" : Str) := by rfl) (hg2 : S.gl[j]? = some ("set" : Str) := by rfl)
    (na : starEach [a] T.X.env = (false, eval a T.X.env) :: starEach [] T.X.env := by rfl) : WV T Γ D.int (.Call (.Name "len" p) [.Call (.Name "set" p2) [a] [] q] [] pos) Ω J := fun σ H H0 hs sl => by
  refine of_pe (pe_lenSetK (T.gl hg) (T.free hm) (T.gl hg2) (T.free hm2) pe_sem (T.calm hc) na) (sem_mono (h σ H H0 hs sl) fun v H1 ⟨H01, ax, Ω1, s1, hs1, ka, xs, sq, hr⟩ => ?_)
  obtain ⟨q, vs, rfl, lz, c, l⟩ := SqAny.get sq hs1 ka
  obtain rfl := l.ints
  obtain ⟨h1, h2⟩ := chk_ok hr
  have h1 := of_decide_eq_true h1
  refine ⟨q, keyI xs, rfl, by rw [vals_KI, T.K]; exact c, by simpa [keyI] using h1, ?_⟩
  have e : (YS.cntK (keyI xs) (keyI xs).length : Nat) = cntP xs xs.length := by rw [cntK_I]; simp [keyI]
  rw [e]
  exact .mk (enc := D.int) s1 hs1 (.int _) h2
theorem v_lenSetS {J : Int → OCtx → Prop} {Ψ : Exc → Prop} (i j : Nat) (hm : W.mg "len" = none) (hm2 : W.mg "set" = none) (h : WQ T Γ D.str a Ω fun xs Ω1 => Run (lenSetM xs) (fun r => J r Ω1) Ψ) (hc : S.calm = true := by rfl) (hg : S.gl[i]? = some ("len" : Str) := by rfl) (hg2 : S.gl[j]? = some ("set" : Str) := by rfl)
    (na : starEach [a] T.X.env = (false, eval a T.X.env) :: starEach [] T.X.env := by rfl) : WV T Γ D.int (.Call (.Name "len" p) [.Call (.Name "set" p2) [a] [] q] [] pos) Ω J := fun σ H H0 hs sl => by
  refine of_pe (pe_lenSetK (T.gl hg) (T.free hm) (T.gl hg2) (T.free hm2) pe_sem (T.calm hc) na) (sem_mono (h σ H H0 hs sl) fun v H1 ⟨H01, ax, Ω1, s1, hs1, ka, xs, sq, hr⟩ => ?_)
  obtain ⟨q, vs, rfl, lz, c, l⟩ := SqAny.get sq hs1 ka
  obtain rfl := l.strs
  obtain ⟨h1, h2⟩ := chk_ok hr
  have h1 := of_decide_eq_true h1
  refine ⟨q, keyS xs, rfl, by rw [vals_KS, T.K]; exact c, by simpa [keyS] using h1, ?_⟩
  have e : (YS.cntK (keyS xs) (keyS xs).length : Nat) = cntP xs xs.length := by rw [cntK_S]; simp [keyS]
  rw [e]
  exact .mk (enc := D.int) s1 hs1 (.int _) h2
theorem n_sortSetI {J : List Int → OCtx → Prop} {Ψ : Exc → Prop} (i j : Nat) (hm : W.mg "sorted" = none) (hm2 : W.mg "set" = none) (h : WQ T Γ D.int a Ω fun xs Ω1 => Run (srtSM xs) (fun r => J r Ω1) Ψ) (hc : S.calm = true := by rfl) (hg : S.gl[i]? = some ("sorted" : Str) := by rfl) (hg2 : S.gl[j]? = some ("set" : Str) := by rfl)
    (na : starEach [a] T.X.env = (false, eval a T.X.env) :: starEach [] T.X.env := by rfl) : WN T Γ D.int (.Call (.Name "sorted" p) [.Call (.Name "set" p2) [a] [] q] [] pos) Ω J := fun σ H H0 hs sl => by
  refine of_pe (pe_sortSetI (T.gl hg) (T.free hm) (T.gl hg2) (T.free hm2) pe_sem (T.calm hc) na) (sem_mono (h σ H H0 hs sl) fun v H1 ⟨H01, ax, Ω1, s1, hs1, ka, xs, sq, hr⟩ => ?_)
  obtain ⟨q, vs, rfl, lz, c, l⟩ := SqAny.get sq hs1 ka
  obtain rfl := l.ints
  obtain ⟨h1, h2⟩ := chk_ok hr
  have h1 := of_decide_eq_true h1
  refine ⟨q, xs, rfl, by rw [T.K]; exact c, h1, fun ns r hw hmm n => ?_⟩
  have e : ns = srtS xs := strict_uniq hw (srtS_strict xs) fun k => by rw [hmm, mem_srtS]
  subst e
  have le := nodup_len (xs := srtS xs) (ys := xs) ((sortI_perm (ddup xs)).nodup_iff.mpr (nodup_ddup xs)) fun k hk => (mem_srtS k xs).mp hk
  exact .newN s1 hs1 n (by rw [List.length_map, sizeLine_eq]; omega) (isL_ints _) h2
end
end Y
/-! Y15: comprehensions of two clauses; cuts of tests; items of data. -/
namespace Y
open PySem PySem.Spec PyProof.Rows L2
theorem it_gen {J : It} {n : Nat} {G : Hp → Prop} {Y : Nat → Hp → V → Hp → Prop} (w : Walk J n G Y) {H : Hp} (Pv : Nat → Hp → Prop) (B : V → Hp → (Hp → Prop) → Prop) (N : Hp → Prop) (h0 : Pv 0 H) (hG : ∀ i H, i ≤ n → Pv i H → G H)
    (hs : ∀ i x H H', i < n → Pv i H → Y i H x H' → B x H' (Pv (i + 1))) (hd : ∀ H, Pv n H → N H) :
    ∃ W1 : Nat → Nat → Hp → Prop, (∃ m, W1 0 m H) ∧ ∀ j k H, W1 j k H → (J.stop j H ∧ N H) ∨ (J.go j H ∧ ∃ Nx : Hp → Prop, (∀ H', Nx H' → ∃ k', k' < k ∧ W1 (j + 1) k' H') ∧ ∀ x H', J.yld j H x H' → B x H' Nx) := by
  refine ⟨fun i m H => m = n - i ∧ i ≤ n ∧ Pv i H, ⟨n, by simp, Nat.zero_le _, h0⟩, ?_⟩
  rintro i m H ⟨rfl, hi, p⟩
  have q := hG i H hi p
  by_cases hlt : i < n
  · exact .inr ⟨w.goes i H hlt q, Pv (i + 1), fun H' p' => ⟨n - (i + 1), by omega, rfl, hlt, p'⟩, fun x H' y => hs i x H H' hlt p (w.yields i H x H' hlt q y)⟩
  · have e : i = n := by omega
    subst e
    exact .inl ⟨w.stops H q, hd H p⟩
theorem Gv.is {K : PySem.W.Frag} {G : En} {α : Type} {enc : α → D} {xs : List α} {H01 H0' H' H'' : Hp} {Ω : OCtx} {i : Nat} {v : V} (z1 : Same H01 H0') (z2 : Hs K G Ω H0' H') (h : Gv K enc xs H01 i H' v H'') : ∃ x, xs[i]? = some x ∧ ∃ H0'', Same H0' H0'' ∧ Hs K G Ω H0'' H'' ∧ Is K H0'' v (enc x) := by
  obtain ⟨x, ex, gv⟩ := h
  refine ⟨x, ex, ?_⟩
  rcases gv with ⟨e1, r⟩ | ⟨q, o, n, e1, e2, r⟩
  · subst e1
    exact ⟨H0', Same.refl _, z2, r.mono z1⟩
  · subst e1 e2
    exact ⟨upd H0' q o, same_upd (z2.free0 n), z2.alloc n, r H0' z1 (z2.free0 n)⟩
section
variable {W : Wd} {S : Sco} {T : TC W S} {Γ Δ : Ctx} {Ω Ω' : OCtx} {J : JE} {e a b c o it it1 elt tg tg1 : Expr} {ifs ifs1 : List Expr} {es : List Expr} {pos p p2 apos cpos : Pos} {α β γ : Type} {enc : α → D} {enb : β → D} {encg : γ → D} {Z : Dz} {sts : List Stmt} {st : Stmt}
abbrev blkS2 (S : Sco) (scope : Scope) (vs1 vl : List Nat) (gl : List Str) : Sco := ⟨S.N, relS scope S.sc, vl, vs1, gl, S.lv, S.calm⟩
def TC.inner {S : Sco} {scope : Scope} {own : List (Str × Nat)} {vs1 vl : List Nat} {gl : List Str} (T : TC W (blkS S scope own vl gl)) (hv : ∀ i ∈ vs1, i ∈ own.map (·.2)) : TC W (blkS2 S scope vs1 vl gl) where
  X := T.X
  G := T.G
  xj := T.xj
  tk := T.tk
  hW := T.hW
  hN := T.hN
  hsc := T.hsc
  ok := ⟨T.ok.kind, T.ok.nd, T.ok.vis, fun i x h1 h2 => T.ok.loc i x (by have := hv i (by simpa using h1); simpa using this) h2, T.ok.glo⟩
  hf := fun i x h1 h2 => T.hf i x (by have := hv i (by simpa using h1); simpa using this) h2
  hc := T.hc
  room := T.room
  pso := T.pso
/-- what is asked of the turns, nothing owned but the new list being changed -/
def Comp2Ok (T : TC W S) (scope : Scope) (own : List (Str × Nat)) (vs1 vl : List Nat) (gl : List Str) (tg : Expr) (ifs : List Expr) (tg1 it1 : Expr) (ifs1 : List Expr) (elt : Expr) (enc : α → D) (encg : γ → D) (enb : β → D) (xs : List α) (Γ : Ctx) (Ω : OCtx) (J : JE) : Prop := ∃ Pv : Nat → List β → Prop, Pv 0 [] ∧
  (∀ i x acc, xs[i]? = some x → Pv i acc → ∀ (T1 : TC W (blkS S scope own vl gl)) q, T1.G = T.G → WG T1 (wipeC Γ (own.map (·.2))) tg (enc x) fun Γ2 => ∀ (T2 : TC W (blkS S scope own vl gl)), T2.G = T.G → WF T2 Γ2 ifs ((q, oL enb acc) :: Ω) fun b Ω2 => Ω2 = (q, oL enb acc) :: Ω ∧ (b = false → Pv (i + 1) acc) ∧
    (b = true → ∀ (T3 : TC W (blkS S scope own vl gl)), T3.G = T.G → WI T3 Γ2 tg1 encg it1 ((q, oL enb acc) :: Ω) fun ys Ω3 => Ω3 = (q, oL enb acc) :: Ω ∧ ∃ Pw : Nat → List β → Prop, Pw 0 acc ∧
      (∀ j y acc', ys[j]? = some y → Pw j acc' → acc'.length < sizeLine ∧ ∀ (T4 : TC W (blkS2 S scope vs1 vl gl)), T4.G = T.G → WG T4 (wipeC Γ2 vs1) tg1 (encg y) fun Γ3 => ∀ (T5 : TC W (blkS S scope own vl gl)), T5.G = T.G → WF T5 Γ3 ifs1 ((q, oL enb acc') :: Ω) fun b Ω4 =>
        Ω4 = (q, oL enb acc') :: Ω ∧ (b = false → Pw (j + 1) acc') ∧ (b = true → ∀ (T6 : TC W (blkS S scope own vl gl)), T6.G = T.G → WV T6 Γ3 enb elt ((q, oL enb acc') :: Ω) fun z Ω5 => Ω5 = (q, oL enb acc') :: Ω ∧ Pw (j + 1) (acc' ++ [z]))) ∧
      ∀ acc', Pw ys.length acc' → Pv (i + 1) acc')) ∧
  ∀ acc, Pv xs.length acc → ∀ q, T.G.He q = none → J (.own q) ((q, oL enb acc) :: Ω)
def iB (X : Cx) (scope : Scope) (tg it : Expr) : TI := fun σ H R => ∀ s H_ C cl fp, semI (X.blk s H_ scope (compEnvC scope cl C X.env) fp) tg it σ H R
theorem comp2_core {scope : Scope} {own : List (Str × Nat)} {vs1 vl : List Nat} {gl : List Str} (hchk : compChk S scope own vl gl = true) (hv1 : ∀ i ∈ vs1, i ∈ own.map (·.2)) {σ : L2.St} {H H0 : Hp} (hs0 : Hs W.K T.G Ω H0 H) (sl : Sl W.K Γ H0 σ)
    (h : WI T Γ tg enc it Ω fun xs Ω1 => Comp2Ok T scope own vs1 vl gl tg ifs tg1 it1 ifs1 elt enc encg enb xs Γ Ω1 J) :
    tLc2 (semI T.X tg it) (gB T.X scope tg) (tB T.X scope ifs) (iB T.X scope tg1 it1) (gB T.X scope tg1) (tB T.X scope ifs1) (eB T.X scope elt) (own.map (·.2)) vs1 σ H (QE W.K T.G J H0) := by
  refine .mk fun pins s I => ?_
  refine thn ((h σ H H0 hs0 sl).run pins s I) fun v s1 h1 => thn h1 fun itv s2 ⟨it', fp, tn, Jt, H1, e0, I2, tu, st, fk, H01, Ω1, xs, s1', hs1, wk, Pv, p0, pt, pd⟩ => ⟨it', fp, tn, Jt, H1, e0, I2, tu, st, fk, ?_⟩
  intro Dl nD
  have lenz : ([] : List V).length ≤ sizeLine := Nat.zero_le _
  refine it_gen wk (fun i H' => ∃ acc H0', Same H01 H0' ∧ Hs W.K T.G ((Dl, oL enb acc) :: Ω1) H0' H' ∧ Pv i acc) (fun x H' Nx => gB T.X scope tg x (L2.wipe σ (own.map (·.2))) H' fun σ2 H2 => L2.wipe σ2 (own.map (·.2)) = L2.wipe σ (own.map (·.2)) ∧ tB T.X scope ifs σ2 H2 fun b H3 =>
    if b = true then iB T.X scope tg1 it1 σ2 H3 fun J1 H4 => ∃ W1 : Nat → Nat → Hp → Prop, (∃ m, W1 0 m H4) ∧ ∀ j k H, W1 j k H →
      (J1.stop j H ∧ Nx H) ∨ (J1.go j H ∧ ∃ Nx1 : Hp → Prop, (∀ H', Nx1 H' → ∃ k', k' < k ∧ W1 (j + 1) k' H') ∧ ∀ x H', J1.yld j H x H' → gB T.X scope tg1 x (L2.wipe σ2 vs1) H' fun σ3 H5 => L2.wipe σ3 vs1 = L2.wipe σ2 vs1 ∧ tB T.X scope ifs1 σ3 H5 fun b H6 =>
        if b = true then eB T.X scope elt σ3 H6 fun y H7 => ∃ acc, H7 Dl = some (.lst acc) ∧ acc.length < sizeLine ∧ Nx1 (upd H7 Dl (.lst (acc ++ [y]))) else Nx1 H6)
    else Nx H3) _ ⟨[], H01, Same.refl _, hs1.allocOwn nD (oL_ok lenz .nil), p0⟩ (fun i H' _ ⟨_, _, z1, z2, _⟩ => z1.trans z2.sub) ?_ ?_
  · rintro i v H' H'' hi ⟨acc, H0', z1, z2, z4⟩ gv
    obtain ⟨x, ex, H0'', y1, y2, y3⟩ := gv.is z1 z2
    have sl2 : Sl W.K (wipeC Γ (own.map (·.2))) H0'' (L2.wipe σ (own.map (·.2))) := ((sl.mono s1').mono (z1.trans y1)).wipe _
    intro sb Hb Cb clb fpb
    have g := pt i x acc ex z4 (T.blk hchk sb Hb Cb clb fpb) Dl rfl (L2.wipe σ (own.map (·.2))) H'' H0'' v y2.sub sl2 y3
    refine .mk fun pins s u I r => ?_
    refine thn ((g).run pins s u I r) fun _ s' ⟨σ2, H2, I2, eH, eo, Γ2, sl3, q⟩ => ⟨σ2, H2, I2, wipe_same ?_ (fun j hj => eo j ?_), ?_⟩
    · have h1 := I2.len
      have h2 := I.len
      rw [wipe_length] at h2
      exact h1.trans h2.symm
    · have : ¬ j ∈ own.map (·.2) := hj
      simpa using this
    subst eH
    intro sb Hb Cb clb fpb
    refine .mk fun pins s I => ?_
    refine thn ((q (T.blk hchk sb Hb Cb clb fpb) rfl σ2 H2 H0'' y2 sl3).run pins s I) fun b s' ⟨H3, I3, H03, Ω2, w1, w2, eΩ, w3, w4⟩ => ⟨H3, I3, ?_⟩
    subst eΩ
    cases b with
    | false => exact ⟨acc, H03, (z1.trans y1).trans w1, w2, w3 rfl⟩
    | true =>
      show iB T.X scope tg1 it1 σ2 H3 _
      intro sb Hb Cb clb fpb
      refine .mk fun pins s I => ?_
      refine thn ((w4 rfl (T.blk hchk sb Hb Cb clb fpb) rfl σ2 H3 H03 w2 (sl3.mono w1)).run pins s I) fun v4 s4 h4 => thn h4 fun itv s5 ⟨it5, fp5, tn5, Jt5, H5, e5, I5, tu5, st5, fk5, H05, Ω5, ys, s5', hs5, wk5, eΩ5, Pw, q0, qt, qd⟩ => ⟨it5, fp5, tn5, Jt5, H5, e5, I5, tu5, st5, fk5, ?_⟩
      subst eΩ5
      refine it_gen wk5 (fun j H' => ∃ acc' H0', Same H05 H0' ∧ Hs W.K T.G ((Dl, oL enb acc') :: Ω1) H0' H' ∧ Pw j acc') (fun x H' Nx1 => gB T.X scope tg1 x (L2.wipe σ2 vs1) H' fun σ3 H5 => L2.wipe σ3 vs1 = L2.wipe σ2 vs1 ∧ tB T.X scope ifs1 σ3 H5 fun b H6 =>
        if b = true then eB T.X scope elt σ3 H6 fun y H7 => ∃ acc, H7 Dl = some (.lst acc) ∧ acc.length < sizeLine ∧ Nx1 (upd H7 Dl (.lst (acc ++ [y]))) else Nx1 H6) _ ⟨acc, H05, Same.refl _, hs5, q0⟩ (fun j H' _ ⟨_, _, z1, z2, _⟩ => z1.trans z2.sub) ?_ ?_
      · rintro j v6 H6 H7 hj ⟨acc', H06, t1, t2, t4⟩ gv6
        obtain ⟨y, ey, H07, r1, r2, r3⟩ := gv6.is t1 t2
        obtain ⟨lt, tr⟩ := qt j y acc' ey t4
        have sl5 : Sl W.K (wipeC Γ2 vs1) H07 (L2.wipe σ2 vs1) := (((sl3.mono w1).mono s5').mono (t1.trans r1)).wipe _
        intro sb Hb Cb clb fpb
        have g := tr ((T.blk hchk sb Hb Cb clb fpb).inner hv1) rfl (L2.wipe σ2 vs1) H7 H07 v6 r2.sub sl5 r3
        refine .mk fun pins s u I r => ?_
        refine thn ((g).run pins s u I r) fun _ s' ⟨σ3, H8, I8, eH, eo, Γ3, sl6, q6⟩ => ⟨σ3, H8, I8, wipe_same ?_ (fun j hj => eo j ?_), ?_⟩
        · have h1 := I8.len
          have h2 := I.len
          rw [wipe_length] at h2
          exact h1.trans h2.symm
        · have : ¬ j ∈ vs1 := hj
          simpa using this
        subst eH
        intro sb Hb Cb clb fpb
        refine .mk fun pins s I => ?_
        refine thn ((q6 (T.blk hchk sb Hb Cb clb fpb) rfl σ3 H8 H07 r2 sl6).run pins s I) fun b s' ⟨H9, I9, H09, Ω9, u1, u2, eΩ9, u3, u4⟩ => ⟨H9, I9, ?_⟩
        subst eΩ9
        cases b with
        | false => exact ⟨acc', H09, (t1.trans r1).trans u1, u2, u3 rfl⟩
        | true =>
          show eB T.X scope elt σ3 H9 _
          intro sb Hb Cb clb fpb
          refine .mk fun pins s I => ?_
          refine thn ((u4 rfl (T.blk hchk sb Hb Cb clb fpb) rfl σ3 H9 H09 u2 (sl6.mono u1)).run pins s I) fun u s' ⟨v4, H4, I4, rv4, H04, a4, Ω3, x1, x2, x3, z, ez, e4, p4⟩ => ⟨v4, H4, I4, rv4, ?_⟩
          subst ez e4
          obtain ⟨ho, k1, k2⟩ := x2.at_ (i := 0) rfl
          obtain ⟨vs, rfl, lz, l⟩ := asL_oL k2
          have hl : vs.length = acc'.length := by rw [l.length, List.length_map]
          refine ⟨vs, k1, by omega, acc' ++ [z], H04, ((t1.trans r1).trans u1).trans x1, ?_, p4⟩
          refine x2.write (i := 0) (od' := oL enb (acc' ++ [z])) rfl (oL_ok (by simp; omega) ?_)
          rw [List.map_append]
          exact l.append (.cons x3 .nil)
      · rintro H' ⟨acc', H0', t1, t2, t4⟩
        exact ⟨acc', H0', (((z1.trans y1).trans w1).trans s5').trans t1, t2, qd acc' t4⟩
  · rintro H' ⟨acc, H0', z1, z2, z4⟩
    exact ⟨H0', .own Dl, _, s1'.trans z1, z2, rfl, pd acc z4 Dl (hs1.free nD)⟩
/-- [elt for tg in it if .. for tg1 in it1 if ..], owned -/
theorem e_comp2 {scope : Scope} (own : List (Str × Nat)) (vs1 vl : List Nat) (gl : List Str) (hchk : compChk S scope own vl gl = true) (hv1 : vs1.all (fun i => (own.map (·.2)).elem i) = true)
    (h : WI T Γ tg enc it Ω fun xs Ω1 => Comp2Ok T scope own vs1 vl gl tg ifs tg1 it1 ifs1 elt enc encg enb xs Γ Ω1 J) (hc : S.calm = true := by rfl)
    (hs : ∀ x, foldedSetIterable it T.X.env x = pure x := by intro _; rfl) (hs1 : ∀ env x, foldedSetIterable it1 env x = pure x := by intro _ _; rfl) : WE T Γ (.ListComp elt [⟨tg, it, ifs, 0⟩, ⟨tg1, it1, ifs1, 0⟩] scope pos) Ω J := fun σ H H0 hs0 sl => by
  have ok : BlkOk T.X.N T.X.env.scope scope own := by
    rw [T.hN, T.hsc]
    exact blkOk_by (Bool.and_eq_true_iff.mp hchk).1
  have hv : ∀ i ∈ vs1, i ∈ own.map (·.2) := fun i m => by simpa using List.all_eq_true.mp hv1 i m
  exact of_pe (pe_lc2 (tt := tB T.X scope ifs) (te := eB T.X scope elt) (g := gB T.X scope tg) (wi1 := iB T.X scope tg1 it1) (g1 := gB T.X scope tg1) (tt1 := tB T.X scope ifs1) (by rw [T.hc]; exact hc) (by rw [T.hN]; exact T.ok.nd) pi_sem ok hv (fun s H_ C cl fp => ⟨fun pins s1 σ H v u Q I r q => (q s H_ C cl fp).run pins s1 u I r⟩)
    (fun s H_ C cl fp => ⟨fun pins s1 σ H Q I q => (q s H_ C cl fp).run pins s1 I⟩) (fun s H_ C cl fp => ⟨fun pins s1 σ H R I q => (q s H_ C cl fp).run pins s1 I⟩) (fun s H_ C cl fp => ⟨fun pins s1 σ H v u Q I r q => (q s H_ C cl fp).run pins s1 u I r⟩)
    (fun s H_ C cl fp => ⟨fun pins s1 σ H Q I q => (q s H_ C cl fp).run pins s1 I⟩) (fun s H_ C cl fp => ⟨fun pins s1 σ H Q I q => (q s H_ C cl fp).run pins s1 I⟩) hs hs1) (comp2_core hchk hv hs0 sl h)
theorem tLc2_mono {X : Cx} {g : TG} {tt : TT} {wi1 : TI} {g1 : TG} {tt1 : TT} {te : TE} {vs vs1 : List Nat} {σ : L2.St} {H : Hp} {Q Q' : VK} (h : tLc2 (semI X tg it) g tt wi1 g1 tt1 te vs vs1 σ H Q) (k : ∀ v H, Q v H → Q' v H) : tLc2 (semI X tg it) g tt wi1 g1 tt1 te vs vs1 σ H Q' := .mk fun pins s I =>
  thn ((h).run pins s I) fun v s1 h1 => thn h1 fun itv s2 ⟨it', fp, tn, Jt, H1, e0, I2, tu, st, fk, q⟩ => ⟨it', fp, tn, Jt, H1, e0, I2, tu, st, fk, fun D n => by
    obtain ⟨W, w0, w1⟩ := q D n
    refine ⟨W, w0, fun i m H hw => ?_⟩
    rcases w1 i m H hw with ⟨a, b⟩ | z
    · exact .inl ⟨a, k _ _ b⟩
    · exact .inr z⟩
theorem sw_true2 {X : Cx} {scope : Scope} {y : Str} {py pos spos : Pos} (hk : X.env.scope.kind = .function) (hyl : X.env.scope.names.lookup y = some .local) (hl : (py.line == pos.line) = true)
    (ha : (scope.names.any fun (n, k) => n == y && (k == .local || k == .cell)) = false) : swapsWith (.ListComp elt [⟨tg, it, ifs, 0⟩, ⟨tg1, it1, ifs1, 0⟩] scope pos) (some (.Name y py)) spos.line X.env = pure true :=
  sw_true hk hyl hl ha
theorem s_setC2 (i : Nat) {scope : Scope} {y : Str} {py spos : Pos} (own : List (Str × Nat)) (vs1 vl : List Nat) (gl : List Str) (hchk : compChk S scope own vl gl = true) (hv1 : vs1.all (fun i => (own.map (·.2)).elem i) = true)
    (h : WI T Γ tg enc it Ω fun xs Ω1 => Comp2Ok T scope own vs1 vl gl tg ifs tg1 it1 ifs1 elt enc encg enb xs Γ Ω1 fun a Ω2 => Z.nx (Γ.set i (some a)) Ω2) (hc : S.calm = true := by rfl)
    (hN : S.N[i]? = some y := by rfl) (hv : S.sl.elem i = true := by rfl) (hyl : S.sc.names.lookup y = some .local := by rfl) (hl : (py.line == pos.line) = true := by rfl)
    (ha : (scope.names.any fun (n, k) => n == y && (k == .local || k == .cell)) = false := by decide +kernel)
    (hs : ∀ x, foldedSetIterable it T.X.env x = pure x := by intro _; rfl) (hs1 : ∀ env x, foldedSetIterable it1 env x = pure x := by intro _ _; rfl) : WS T Γ (.Assign [.Name y py] (.ListComp elt [⟨tg, it, ifs, 0⟩, ⟨tg1, it1, ifs1, 0⟩] scope pos) spos) Ω Z := fun σ H H0 hs0 sl => by
  have hn : T.X.N[i]? = some y := by rw [T.hN]; exact hN
  have hyl' : T.X.env.scope.names.lookup y = some .local := by rw [T.hsc]; exact hyl
  have ok : BlkOk T.X.N T.X.env.scope scope own := by
    rw [T.hN, T.hsc]
    exact blkOk_by (Bool.and_eq_true_iff.mp hchk).1
  have hvv : ∀ i ∈ vs1, i ∈ own.map (·.2) := fun i m => by simpa using List.all_eq_true.mp hv1 i m
  refine of_ps (ps_setLc2 (i := i) (tt := tB T.X scope ifs) (te := eB T.X scope elt) (g := gB T.X scope tg) (wi1 := iB T.X scope tg1 it1) (g1 := gB T.X scope tg1) (tt1 := tB T.X scope ifs1) (by rw [T.hc]; exact hc) (by rw [T.hN]; exact T.ok.nd) hn hyl' (sw_true2 (by rw [T.hsc]; exact T.ok.kind) hyl' hl ha) pi_sem ok hvv (fun s H_ C cl fp => ⟨fun pins s1 σ H v u Q I r q => (q s H_ C cl fp).run pins s1 u I r⟩)
    (fun s H_ C cl fp => ⟨fun pins s1 σ H Q I q => (q s H_ C cl fp).run pins s1 I⟩) (fun s H_ C cl fp => ⟨fun pins s1 σ H R I q => (q s H_ C cl fp).run pins s1 I⟩) (fun s H_ C cl fp => ⟨fun pins s1 σ H v u Q I r q => (q s H_ C cl fp).run pins s1 u I r⟩)
    (fun s H_ C cl fp => ⟨fun pins s1 σ H Q I q => (q s H_ C cl fp).run pins s1 I⟩) (fun s H_ C cl fp => ⟨fun pins s1 σ H Q I q => (q s H_ C cl fp).run pins s1 I⟩) hs hs1) ?_
  refine tLc2_mono (comp2_core hchk hvv hs0 sl h) fun v H1 ⟨H01, a, Ω1, s1, hs1, ka, j⟩ => ?_
  exact ⟨_, Ω1, H01, s1, hs1, (sl.mono s1).set ka, j⟩
/-- the lists of the items, one behind the other -/
def flatM {α β : Type} : List α → (α → M (List β)) → M (List β)
  | [], _ => .ok []
  | x :: xs, f => M.bind (f x) fun ys => M.bind (flatM xs f) fun zs => .ok (ys ++ zs)
theorem run_ok {α : Type} {m : M α} {Φ : α → Prop} (h : Run m Φ (fun _ => False)) : ∃ a, m = .ok a ∧ Φ a := by
  cases m with
  | ok a => exact ⟨a, rfl, h.get⟩
  | exc e => exact h.getE.elim
  | stuck => exact h.no.elim
theorem Comp2Ok.flat {scope : Scope} {own : List (Str × Nat)} {vs1 vl : List Nat} {gl : List Str} {xs : List α} {f : α → M (List β)} {Φ : List β → Prop} (hm : Run (flatM xs f) (fun zs => zs.length ≤ sizeLine ∧ Φ zs) (fun _ => False))
    (hb : ∀ x (Φ' : List β → Prop), x ∈ xs → Run (f x) Φ' (fun _ => False) → ∀ (T1 : TC W (blkS S scope own vl gl)) q, T1.G = T.G → WG T1 (wipeC Γ (own.map (·.2))) tg (enc x) fun Γ2 => ∀ (o : OD) (T3 : TC W (blkS S scope own vl gl)), T3.G = T.G → WI T3 Γ2 tg1 encg it1 ((q, o) :: Ω) fun ys Ω3 =>
      Ω3 = (q, o) :: Ω ∧ ∃ g : γ → M β, Run (mapM ys g) Φ' (fun _ => False) ∧ ∀ y (Φ'' : β → Prop), y ∈ ys → Run (g y) Φ'' (fun _ => False) → ∀ (o : OD) (T4 : TC W (blkS2 S scope vs1 vl gl)), T4.G = T.G → WG T4 (wipeC Γ2 vs1) tg1 (encg y) fun Γ3 =>
        ∀ (T6 : TC W (blkS S scope own vl gl)), T6.G = T.G → WV T6 Γ3 enb elt ((q, o) :: Ω) fun z Ω5 => Ω5 = (q, o) :: Ω ∧ Φ'' z)
    (hd : ∀ ys, Φ ys → ∀ q, T.G.He q = none → J (.own q) ((q, oL enb ys) :: Ω)) : Comp2Ok T scope own vs1 vl gl tg [] tg1 it1 [] elt enc encg enb xs Γ Ω J := by
  refine ⟨fun i acc => Run (flatM (xs.drop i) f) (fun zs => (acc ++ zs).length ≤ sizeLine ∧ Φ (acc ++ zs)) (fun _ => False), by simpa using hm, fun i x acc ex p T1 q e1 => ?_, fun acc p q hq => ?_⟩
  · have p : Run (flatM (xs.drop i) f) (fun zs => (acc ++ zs).length ≤ sizeLine ∧ Φ (acc ++ zs)) (fun _ => False) := p
    rw [drop_get ex] at p
    have p1 := Run.bind p
    have p2 : Run (f x) (fun ys => Run (flatM (xs.drop (i + 1)) f) (fun zs => ((acc ++ ys) ++ zs).length ≤ sizeLine ∧ Φ ((acc ++ ys) ++ zs)) (fun _ => False)) (fun _ => False) := p1.mono (fun ys h => (Run.bind h).mono (fun zs h => by
      have h' : (acc ++ (ys ++ zs)).length ≤ sizeLine ∧ Φ (acc ++ (ys ++ zs)) := h.get
      rw [List.append_assoc]
      exact h') fun _ z => z) fun _ z => z
    have g := hb x _ (List.mem_of_getElem? ex) p2 T1 q e1
    intro σ H H0 v s1 sl r
    refine .mk fun pins s u I rv => ?_
    refine thn ((g σ H H0 v s1 sl r).run pins s u I rv) fun _ s' ⟨σ2, H2, I2, eH, eo, Γ2, sl3, k⟩ => ⟨σ2, H2, I2, eH, eo, Γ2, sl3, fun T2 e2 => f_nil ⟨rfl, fun z => Bool.noConfusion z, fun _ T3 e3 => ?_⟩⟩
    have k3 := k (oL enb acc) T3 e3
    intro σ H H0 hs sl
    refine .mk fun pins s I => ?_
    refine thn ((k3 σ H H0 hs sl).run pins s I) fun v s1 h1 => thn h1 fun itv s2 ⟨it', fp, tn, Jt, H1, e0, I2, tu, st, fk, H01, Ω1, ys, s1', hs1, wk, eΩ, g2, hm2, hb2⟩ => ⟨it', fp, tn, Jt, H1, e0, I2, tu, st, fk, H01, Ω1, ys, s1', hs1, wk, eΩ, ?_⟩
    refine ⟨fun j acc' => Run (mapM (ys.drop j) g2) (fun us => Run (flatM (xs.drop (i + 1)) f) (fun zs => ((acc' ++ us) ++ zs).length ≤ sizeLine ∧ Φ ((acc' ++ us) ++ zs)) (fun _ => False)) (fun _ => False), by simpa using hm2, fun j y acc' ey p' => ?_, fun acc' p' => ?_⟩
    · have p' : Run (mapM (ys.drop j) g2) (fun us => Run (flatM (xs.drop (i + 1)) f) (fun zs => ((acc' ++ us) ++ zs).length ≤ sizeLine ∧ Φ ((acc' ++ us) ++ zs)) (fun _ => False)) (fun _ => False) := p'
      rw [drop_get ey] at p'
      have p3 := Run.bind p'
      have p4 : Run (g2 y) (fun u => Run (mapM (ys.drop (j + 1)) g2) (fun us => Run (flatM (xs.drop (i + 1)) f) (fun zs => (((acc' ++ [u]) ++ us) ++ zs).length ≤ sizeLine ∧ Φ (((acc' ++ [u]) ++ us) ++ zs)) (fun _ => False)) (fun _ => False)) (fun _ => False) := p3.mono (fun u h => (Run.bind h).mono (fun us h => by
        have h' : Run (flatM (xs.drop (i + 1)) f) (fun zs => ((acc' ++ (u :: us)) ++ zs).length ≤ sizeLine ∧ Φ ((acc' ++ (u :: us)) ++ zs)) (fun _ => False) := h.get
        have e : (acc' ++ [u]) ++ us = acc' ++ (u :: us) := by simp
        rw [e]
        exact h') fun _ z => z) fun _ z => z
      have lt : acc'.length < sizeLine := by
        obtain ⟨u, _, h1⟩ := run_ok p4
        obtain ⟨us, _, h2⟩ := run_ok h1
        obtain ⟨zs, _, h3, _⟩ := run_ok h2
        simp at h3
        omega
      refine ⟨lt, fun T4 e4 => ?_⟩
      have g5 := hb2 y _ (List.mem_of_getElem? ey) p4 (oL enb acc') T4 e4
      intro σ H H0 v s1 sl r
      refine .mk fun pins s u I rv => ?_
      refine thn ((g5 σ H H0 v s1 sl r).run pins s u I rv) fun _ s' ⟨σ3, H3, I3, eH, eo, Γ3, sl4, k⟩ => ⟨σ3, H3, I3, eH, eo, Γ3, sl4, fun T5 e5 => f_nil ⟨rfl, fun z => Bool.noConfusion z, fun _ T6 e6 => ?_⟩⟩
      exact (k T6 e6).imp fun z Ω5 ⟨q1, q2⟩ => ⟨q1, q2⟩
    · have p' : Run (mapM (ys.drop ys.length) g2) (fun us => Run (flatM (xs.drop (i + 1)) f) (fun zs => ((acc' ++ us) ++ zs).length ≤ sizeLine ∧ Φ ((acc' ++ us) ++ zs)) (fun _ => False)) (fun _ => False) := p'
      rw [List.drop_length] at p'
      have h' : Run (flatM (xs.drop (i + 1)) f) (fun zs => ((acc' ++ []) ++ zs).length ≤ sizeLine ∧ Φ ((acc' ++ []) ++ zs)) (fun _ => False) := p'.get
      rw [List.append_nil] at h'
      exact h'
  · have p : Run (flatM (xs.drop xs.length) f) (fun zs => (acc ++ zs).length ≤ sizeLine ∧ Φ (acc ++ zs)) (fun _ => False) := p
    rw [List.drop_length] at p
    have h' : (acc ++ []).length ≤ sizeLine ∧ Φ (acc ++ []) := p.get
    rw [List.append_nil] at h'
    exact hd acc h'.2 q hq
/-! ### cuts -/
theorem WT.cut {β : Type} {JT : Bool → OCtx → Prop} {m : M Bool} {k : Bool → M β} {Φ : β → Prop} {Ψ : Exc → Prop} (hm : Run (M.bind m k) Φ Ψ) (h : ∀ Φ' : Bool → Prop, Run m Φ' Ψ → WT T Γ e Ω fun x Ω' => Ω' = Ω ∧ Φ' x)
    (c : ∀ x, Run (k x) Φ Ψ → JT x Ω) : WT T Γ e Ω JT := (h _ (Run.bind hm)).imp fun x Ω' ⟨e, q⟩ => by
  subst e
  exact c x q
theorem WT.cutS {β σ : Type} {JT : Bool → OCtx → Prop} {ΩS : σ → OCtx} {m : M (Bool × σ)} {k : Bool × σ → M β} {Φ : β → Prop} {Ψ : Exc → Prop} (hm : Run (M.bind m k) Φ Ψ)
    (h : ∀ Φ' : Bool × σ → Prop, Run m Φ' Ψ → WT T Γ e Ω fun x Ω' => ∃ s, Ω' = ΩS s ∧ Φ' (x, s)) (c : ∀ x s, Run (k (x, s)) Φ Ψ → JT x (ΩS s)) : WT T Γ e Ω JT := (h _ (Run.bind hm)).imp fun x Ω' ⟨s, e, q⟩ => by
  subst e
  exact c x s q
/-! ### items of a list that stands, whatever the index does -/
theorem v_ixL {J : α → OCtx → Prop} {Ψ : Exc → Prop} (h : WV T Γ (dL enc) a Ω fun xs Ω1 => WV T Γ D.int b Ω1 fun i Ω2 => Run (idxM xs i) (fun x => J x Ω2) Ψ) (hs : PlainIx b := by exact fun _ _ => rfl) : WV T Γ enc (.Subscript a b pos) Ω J := fun σ H H0 hs0 sl => by
  refine of_pe (pe_ix ix_seq pe_sem pe_sem hs) (sem_mono (h σ H H0 hs0 sl) fun v H1 ⟨H01, ax, Ω1, s1, hs1, kx, xs, ex, h1⟩ => sem_mono (h1 σ H1 H01 hs1 (sl.mono s1)) fun u H2 ⟨H02, ay, Ω2, s2, hs2, ky, i, ei, h2⟩ => ?_)
  subst ex ei
  cases isI ky
  obtain ⟨x, hx, j⟩ := idx_run h2
  cases Is.mono s2 kx with
  | @lst q vs _ lz hq l =>
    obtain ⟨w, hw, r⟩ := isL_at l hx
    exact .inl ⟨q, vs, i, w, rfl, rfl, by rw [T.K]; exact SqL.of (hs2.sub _ _ hq), hw, .mk (s1.trans s2) hs2 r j⟩
theorem v_ixU {J : α → OCtx → Prop} {Ψ : Exc → Prop} (h : WV T Γ (dU enc) a Ω fun xs Ω1 => WV T Γ D.int b Ω1 fun i Ω2 => Run (idxM xs i) (fun x => J x Ω2) Ψ) (hs : PlainIx b := by exact fun _ _ => rfl) : WV T Γ enc (.Subscript a b pos) Ω J := fun σ H H0 hs0 sl => by
  refine of_pe (pe_ix ix_seq pe_sem pe_sem hs) (sem_mono (h σ H H0 hs0 sl) fun v H1 ⟨H01, ax, Ω1, s1, hs1, kx, xs, ex, h1⟩ => sem_mono (h1 σ H1 H01 hs1 (sl.mono s1)) fun u H2 ⟨H02, ay, Ω2, s2, hs2, ky, i, ei, h2⟩ => ?_)
  subst ex ei
  cases isI ky
  obtain ⟨x, hx, j⟩ := idx_run h2
  cases Is.mono s2 kx with
  | @tup q vs _ lz hq l =>
    obtain ⟨w, hw, r⟩ := isL_at l hx
    exact .inr (.inl ⟨q, vs, i, w, rfl, rfl, by rw [T.K]; exact SameT hs2.sub hq, hw, .mk (s1.trans s2) hs2 r j⟩)
end
end Y
/-! Y16: what the printed derivations use: promises in four shapes, loops and joins with addresses that the mirror does not know. -/
namespace Y
open PySem PySem.Spec PyProof.Rows L2
/-! ### promises -/
/-- nothing owned is handed; data comes back -/
def sp0 {α β : Type} (args : α → List As) (mir : α → M β) (enc : β → D) : Spc α β where
  pre := fun x as Ω => as = args x ∧ Ω = []
  mir := mir
  post := fun _ r _ a Ω' => a = .dat (enc r) ∧ Ω' = []
/-- .. a new owned list comes back -/
def sp0O {α β : Type} (args : α → List As) (mir : α → M (List β)) (enc : β → D) : Spc α (List β) where
  pre := fun x as Ω => as = args x ∧ Ω = []
  mir := mir
  post := fun _ r _ a Ω' => ∃ q, a = .own q ∧ Ω' = [(q, oL enc r)]
/-- one owned thing is handed and changed; data comes back -/
def sp1 {α β σ : Type} (args : Addr → α → List As) (od : α → OD) (mir : α → M (β × σ)) (enc : β → D) (od' : σ → OD) : Spc α (β × σ) where
  pre := fun x as Ω => ∃ p, as = args p x ∧ Ω = [(p, od x)]
  mir := mir
  post := fun x r Ω a Ω' => ∃ p, Ω = [(p, od x)] ∧ a = .dat (enc r.1) ∧ Ω' = [(p, od' r.2)]
def sp1O {α β σ : Type} (args : Addr → α → List As) (od : α → OD) (mir : α → M (List β × σ)) (enc : β → D) (od' : σ → OD) : Spc α (List β × σ) where
  pre := fun x as Ω => ∃ p, as = args p x ∧ Ω = [(p, od x)]
  mir := mir
  post := fun x r Ω a Ω' => ∃ p q, Ω = [(p, od x)] ∧ a = .own q ∧ Ω' = [(q, oL enc r.1), (p, od' r.2)]
/-- two are handed, the second one is read alone -/
def sp2 {α β σ : Type} (args : Addr → Addr → α → List As) (od ud : α → OD) (mir : α → M (β × σ)) (enc : β → D) (od' : σ → OD) : Spc α (β × σ) where
  pre := fun x as Ω => ∃ p q, as = args p q x ∧ Ω = [(p, od x), (q, ud x)] ∧ p ≠ q
  mir := mir
  post := fun x r Ω a Ω' => ∃ p q, Ω = [(p, od x), (q, ud x)] ∧ a = .dat (enc r.1) ∧ Ω' = [(p, od' r.2), (q, ud x)]
/-- an __init__: self is handed, empty; nothing comes back -/
def spI {α : Type} (c : String) (args : Addr → α → List As) (mir : α → M (List (String × D))) : Spc α (List (String × D)) where
  pre := fun x as Ω => ∃ p, as = args p x ∧ Ω = [(p, .ins c [])]
  mir := mir
  post := fun x r Ω a Ω' => ∃ p, Ω = [(p, .ins c [])] ∧ a = .dat .non ∧ Ω' = [(p, .ins c (datF r))]
  xo := fun _ => []
section
variable {α β σ : Type} {Φ : β → Prop} {Ψ : Exc → Prop} {r : β} {Ω' : OCtx} {args : α → List As} {mir : α → M β} {enc : β → D} {x : α}
/-- a return of data -/
theorem r0 (hm : Run (.ok r) Φ Ψ) : ∃ r' Ω'', List.Sublist Ω'' Ω' ∧ (sp0 args mir enc).post x r' [] (.dat (enc r)) Ω'' ∧ Φ r' := ⟨r, [], List.nil_sublist _, ⟨rfl, rfl⟩, hm.get⟩
end
theorem r0O {α β : Type} {Φ : List β → Prop} {Ψ : Exc → Prop} {r : List β} {q : Addr} {Ω' : OCtx} {args : α → List As} {mir : α → M (List β)} {enc : β → D} {x : α} (hm : Run (.ok r) Φ Ψ) (l : List.Sublist [(q, oL enc r)] Ω') :
    ∃ r' Ω'', List.Sublist Ω'' Ω' ∧ (sp0O args mir enc).post x r' [] (.own q) Ω'' ∧ Φ r' := ⟨r, _, l, ⟨q, rfl, rfl⟩, hm.get⟩
section
variable {α β σ : Type} {Φ : β × σ → Prop} {Ψ : Exc → Prop} {r : β} {s : σ} {p q : Addr} {Ω' : OCtx} {args : Addr → α → List As} {args2 : Addr → Addr → α → List As} {od ud : α → OD} {mir : α → M (β × σ)} {enc : β → D} {od' : σ → OD} {x : α}
theorem r1 (hm : Run (.ok (r, s)) Φ Ψ) (l : List.Sublist [(p, od' s)] Ω') : ∃ r' Ω'', List.Sublist Ω'' Ω' ∧ (sp1 args od mir enc od').post x r' [(p, od x)] (.dat (enc r)) Ω'' ∧ Φ r' := ⟨(r, s), _, l, ⟨p, rfl, rfl, rfl⟩, hm.get⟩
theorem r2 (hm : Run (.ok (r, s)) Φ Ψ) (l : List.Sublist [(p, od' s), (q, ud x)] Ω') : ∃ r' Ω'', List.Sublist Ω'' Ω' ∧ (sp2 args2 od ud mir enc od').post x r' [(p, od x), (q, ud x)] (.dat (enc r)) Ω'' ∧ Φ r' := ⟨(r, s), _, l, ⟨p, q, rfl, rfl, rfl⟩, hm.get⟩
end
theorem r1O {α β σ : Type} {Φ : List β × σ → Prop} {Ψ : Exc → Prop} {r : List β} {s : σ} {p q : Addr} {Ω' : OCtx} {args : Addr → α → List As} {od : α → OD} {mir : α → M (List β × σ)} {enc : β → D} {od' : σ → OD} {x : α}
    (hm : Run (.ok (r, s)) Φ Ψ) (l : List.Sublist [(q, oL enc r), (p, od' s)] Ω') : ∃ r' Ω'', List.Sublist Ω'' Ω' ∧ (sp1O args od mir enc od').post x r' [(p, od x)] (.own q) Ω'' ∧ Φ r' := ⟨(r, s), _, l, ⟨p, q, rfl, rfl, rfl⟩, hm.get⟩
theorem rI {α : Type} {c : String} {Φ : List (String × D) → Prop} {Ψ : Exc → Prop} {r : List (String × D)} {fs : List (String × As)} {p : Addr} {Ω' : OCtx} {args : Addr → α → List As} {mir : α → M (List (String × D))} {x : α}
    (hm : Run (.ok r) Φ Ψ) (l : List.Sublist [(p, .ins c fs)] Ω') (e : fs = datF r := by rfl) : ∃ r' Ω'', List.Sublist Ω'' Ω' ∧ (spI c args mir).post x r' [(p, .ins c [])] (.dat .non) Ω'' ∧ Φ r' := ⟨r, _, l, ⟨p, rfl, rfl, by rw [e]⟩, hm.get⟩
section
variable {W : Wd} {S : Sco} {T : TC W S} {Γ Δ : Ctx} {Ω Ω' Ω1 : OCtx} {J : JE} {e a b c o it it1 elt tg tg1 : Expr} {ifs ifs1 : List Expr} {es : List Expr} {pos p p2 apos cpos : Pos} {α β γ σ : Type} {enc : α → D} {encb : β → D} {encg : γ → D} {Z : Dz} {sts rest : List Stmt} {st : Stmt} {as : List As}
/-! ### calls -/
theorem k0 {J : JE} {args : α → List As} {mir : α → M β} (x0 : α) (hm : Run (mir x0) (fun r => J (.dat (encb r)) Ω1) (fun e => T.xj e Γ Ω1)) (has : as = args x0 := by rfl) : CallK T Γ (sp0 args mir encb) as Ω1 J :=
  .none x0 ⟨has, rfl⟩ (hm.mono (fun r j a Ωn ⟨e1, e2⟩ _ => by subst e1 e2; exact j) fun _ z => z)
theorem k0O {J : JE} {args : α → List As} {mir : α → M (List β)} (x0 : α) (hm : Run (mir x0) (fun r => ∀ q, T.G.He q = none → J (.own q) ((q, oL encb r) :: Ω1)) (fun e => T.xj e Γ Ω1)) (has : as = args x0 := by rfl) : CallK T Γ (sp0O args mir encb) as Ω1 J :=
  .none x0 ⟨has, rfl⟩ (hm.mono (fun r j a Ωn ⟨q, e1, e2⟩ h => by subst e1 e2; exact j q (h q (by simp))) fun _ z => z)
theorem k1 {J : JE} {args : Addr → α → List As} {od : α → OD} {mir : α → M (β × σ)} {od' : σ → OD} (x0 : α) (j : Nat) {q : Addr} (ej : Ω1[j]? = some (q, od x0)) (hm : Run (mir x0) (fun r => J (.dat (encb r.1)) (Ω1.set j (q, od' r.2))) (fun e => T.xj e Γ Ω1)) (has : as = args q x0 := by rfl) :
    CallK T Γ (sp1 args od mir encb od') as Ω1 J :=
  .one x0 j ej ⟨q, has, rfl⟩ (hm.mono (fun r jj a Ω2 ⟨p', e0, e1, e2⟩ => by
    have : q = p' := by injection e0 with e0; exact congrArg Prod.fst e0
    subst this e1 e2
    exact ⟨[], _, rfl, fun _ => jj⟩) fun _ z => z)
theorem k1O {J : JE} {args : Addr → α → List As} {od : α → OD} {mir : α → M (List β × σ)} {od' : σ → OD} (x0 : α) (j : Nat) {q : Addr} (ej : Ω1[j]? = some (q, od x0)) (hm : Run (mir x0) (fun r => ∀ q', T.G.He q' = none → J (.own q') ((q', oL encb r.1) :: Ω1.set j (q, od' r.2))) (fun e => T.xj e Γ Ω1)) (has : as = args q x0 := by rfl) :
    CallK T Γ (sp1O args od mir encb od') as Ω1 J :=
  .one x0 j ej ⟨q, has, rfl⟩ (hm.mono (fun r jj a Ω2 ⟨p', q', e0, e1, e2⟩ => by
    have : q = p' := by injection e0 with e0; exact congrArg Prod.fst e0
    subst this e1 e2
    exact ⟨[(q', oL encb r.1)], _, rfl, fun h => jj q' (h q' (by simp))⟩) fun _ z => z)
theorem k2 {J : JE} {args : Addr → Addr → α → List As} {od ud : α → OD} {mir : α → M (β × σ)} {od' : σ → OD} (x0 : α) (i j : Nat) {q q2 : Addr} (ei : Ω1[i]? = some (q, od x0)) (ej : Ω1[j]? = some (q2, ud x0)) (ij : i ≠ j) (hne : q ≠ q2)
    (hm : Run (mir x0) (fun r => J (.dat (encb r.1)) ((Ω1.set i (q, od' r.2)).set j (q2, ud x0))) (fun e => T.xj e Γ Ω1)) (has : as = args q q2 x0 := by rfl) : CallK T Γ (sp2 args od ud mir encb od') as Ω1 J :=
  ⟨x0, [(q, od x0), (q2, ud x0)], ⟨q, q2, has, rfl, hne⟩, fun x m => by
      rcases List.mem_cons.mp m with rfl | m
      · exact List.mem_of_getElem? ei
      · cases List.mem_singleton.mp m
        exact List.mem_of_getElem? ej, by simpa using hne, rfl, hm.mono (fun r jj a Ω2 ⟨p', p'', e0, e1, e2⟩ => by
      injection e0 with e0 e0'
      injection e0' with e0'
      have h1 : q = p' := congrArg Prod.fst e0
      have h2 : q2 = p'' := congrArg Prod.fst e0'
      subst h1 h2 e1 e2
      exact ⟨[], _, Back.two (Ωn := []) ei ej ij, fun _ => jj⟩) fun _ z => z⟩
/-- two owned things stand apart -/
theorem e_apart {i j : Nat} {q q2 : Addr} {od ud : OD} (ei : Ω[i]? = some (q, od)) (ej : Ω[j]? = some (q2, ud)) (ij : i ≠ j) (h : q ≠ q2 → WE T Γ e Ω J) : WE T Γ e Ω J := fun σ H H0 hs sl => h (fun z => by subst z; exact ij (hs.uniq ei ej)) σ H H0 hs sl
theorem s_apart {i j : Nat} {q q2 : Addr} {od ud : OD} (ei : Ω[i]? = some (q, od)) (ej : Ω[j]? = some (q2, ud)) (ij : i ≠ j) (h : q ≠ q2 → WSs T Γ sts Ω Z) : WSs T Γ sts Ω Z := fun σ H H0 hs sl => h (fun z => by subst z; exact ij (hs.uniq ei ej)) σ H H0 hs sl
theorem kI {c : String} {J : List (String × As) → OCtx → Prop} {args : Addr → α → List As} {mir : α → M (List (String × D))} (x0 : α) (hm : Run (mir x0) (fun r => J (datF r) Ω1) (fun e => T.xj e Γ Ω1)) (has : ∀ q, .own q :: as = args q x0 := by intro _; rfl) : MakeK T Γ (spI c args mir) c as Ω1 J :=
  ⟨x0, fun q => ⟨⟨q, has q, rfl⟩, hm.mono (fun r j a Ω2 ⟨p', e0, e1, e2⟩ => by
    have : q = p' := by injection e0 with e0; exact congrArg Prod.fst e0
    subst this
    exact ⟨e1, datF r, e2, j⟩) fun _ z => z⟩⟩
/-! ### statements -/
/-- x = e, the value named anew -/
theorem s_setL {Ψ : Exc → Prop} (i : Nat) {x : Str} {pos' : Pos} (h : WV T Γ enc e Ω fun a Ω' => Run (M.ok a) (fun y => Z.nx (Γ.set i (some (.dat (enc y)))) Ω') Ψ) (hN : S.N[i]? = some x := by rfl) (hv : S.sl.elem i = true := by rfl)
    (hs : swapsWith e (some (.Name x pos')) pos.line T.X.env = pure false := by rfl) : WS T Γ (.Assign [.Name x pos'] e pos) Ω Z := s_setV i (h.imp fun _ _ q => q.get) hN hv hs
/-- where a turn, a branch ends -/
abbrev EndG {ι σ : Type} (Pι : ι → Prop) (ΓS : ι → σ → Ctx) (ΩS : ι → σ → OCtx) (Φ' : σ → Prop) : Ctx → OCtx → Prop := fun Γ'' Ω' => ∃ g' s', Pι g' ∧ Le Γ'' (ΓS g' s') ∧ List.Sublist (ΩS g' s') Ω' ∧ Φ' s'
/-- a loop that is never left -/
theorem s_forG {ι σ τ : Type} {body : List Stmt} {Φ : τ → Prop} {Ψ : Exc → Prop} (Pι : ι → Prop) (ΓS : ι → σ → Ctx) (ΩS : ι → σ → OCtx)
    (h : WI T Γ tg enc it Ω fun xs Ω1 => ∃ (f : α → σ → M σ) (s0 : σ) (g0 : ι) (k : σ → M τ), Run (M.bind (foldM xs s0 f) k) Φ Ψ ∧ Pι g0 ∧ Le Γ (ΓS g0 s0) ∧ List.Sublist (ΩS g0 s0) Ω1 ∧
      (∀ x s g (Φ' : σ → Prop), x ∈ xs → Pι g → Run (f x s) Φ' Ψ → WG T (ΓS g s) tg (enc x) fun Γ' => WSs T Γ' body (ΩS g s) { nx := EndG Pι ΓS ΩS Φ', rt := Z.rt, ct := EndG Pι ΓS ΩS Φ' }) ∧
      ∀ s g, Pι g → Run (k s) Φ Ψ → WSs T (ΓS g s) rest (ΩS g s) Z) (hc : S.calm = true := by rfl)
    (hs : ∀ x, foldedSetIterable it T.X.env x = pure x := by intro _; rfl) : WSs T Γ (.For tg it body [] pos :: rest) Ω Z := by
  refine s_cons (s_for (enc := enc) ?_ hc hs)
  intro σ0 H H0 hs0 sl
  refine .mk fun pins s1 I => ?_
  refine thn ((h σ0 H H0 hs0 sl).run pins s1 I) fun v s2 h1 => thn h1 fun itv s3 ⟨it', fp, tn, Jt, H1, e0, I2, tu, st, fk, H01, Ω1, xs, s1', hs1, wk, f, s0, g0, k, hm, p0, le, sub, hb, hd⟩ => ⟨it', fp, tn, Jt, H1, e0, I2, tu, st, fk, H01, Ω1, xs, s1', hs1, wk, ?_⟩
  refine ⟨fun i Γ Ω => ∃ g s, Pι g ∧ Le Γ (ΓS g s) ∧ List.Sublist (ΩS g s) Ω ∧ Run (foldM (xs.drop i) s f) (fun s => Run (k s) Φ Ψ) Ψ, ⟨g0, s0, p0, le, sub, Run.bind hm⟩, ?_, ?_⟩
  · rintro i x Γ' Ω' ex ⟨g, s, pg, l, o, r⟩ σ' H H0 v hs sl kk
    rw [drop_get ex] at r
    have gg := hb x s g _ (List.mem_of_getElem? ex) pg (Run.bind r) σ' H H0 v hs (sl.weak l) kk
    refine .mk fun pins s1 u I rv => ?_
    refine thn ((gg).run pins s1 u I rv) fun _ s' ⟨σ2, H2, I2, eH, eo, Γ2, sl2, q⟩ => ⟨σ2, H2, I2, eH, eo, Γ2, sl2, ?_⟩
    refine fun σ3 H3 H03 hs3 sl3 => semSs_mono (q σ3 H3 H03 (hs3.sublist o) sl3) ?_ (fun _ _ z => z) (fun _ _ ⟨_, _, _, _, _, _, z⟩ => z.elim) ?_
    · exact Dz.st_imp (Same.refl _) fun Γ Ω ⟨g', s', a0, a, b, c⟩ => ⟨g', s', a0, a, b, c⟩
    · exact Dz.st_imp (Same.refl _) fun Γ Ω ⟨g', s', a0, a, b, c⟩ => ⟨g', s', a0, a, b, c⟩
  · rintro Γ' Ω' ⟨g, s, pg, l, o, r⟩
    rw [List.drop_length] at r
    exact (hd s g pg r.get).weak l o
/-- a loop that may be left -/
theorem s_forR {ι σ ρ τ : Type} {body : List Stmt} {Φ : τ → Prop} {Ψ : Exc → Prop} (Pι : ι → Prop) (ΓS : ι → σ → Ctx) (ΩS : ι → σ → OCtx) (RT : ρ → As → OCtx → Prop)
    (h : WI T Γ tg enc it Ω fun xs Ω1 => ∃ (f : α → σ → M (Stp σ ρ)) (s0 : σ) (g0 : ι) (k : σ → M τ) (kr : ρ → M τ), Run (M.bind (forM xs s0 f) fun st => aft st k kr) Φ Ψ ∧ Pι g0 ∧ Le Γ (ΓS g0 s0) ∧ List.Sublist (ΩS g0 s0) Ω1 ∧
      (∀ x s g (Φ' : Stp σ ρ → Prop), x ∈ xs → Pι g → Run (f x s) Φ' Ψ → WG T (ΓS g s) tg (enc x) fun Γ' => WSs T Γ' body (ΩS g s) { nx := EndG Pι ΓS ΩS fun s' => Φ' (.nx s'), rt := fun a Ω' => ∃ r, RT r a Ω' ∧ Φ' (.rt r), ct := EndG Pι ΓS ΩS fun s' => Φ' (.nx s'), bk := EndG Pι ΓS ΩS fun s' => Φ' (.bk s') }) ∧
      (∀ s g, Pι g → Run (k s) Φ Ψ → WSs T (ΓS g s) rest (ΩS g s) Z) ∧ ∀ r a Ω', RT r a Ω' → Run (kr r) Φ Ψ → Z.rt a Ω') (hc : S.calm = true := by rfl)
    (hs : ∀ x, foldedSetIterable it T.X.env x = pure x := by intro _; rfl) : WSs T Γ (.For tg it body [] pos :: rest) Ω Z := by
  refine s_cons (s_for (enc := enc) ?_ hc hs)
  intro σ0 H H0 hs0 sl
  refine .mk fun pins s1 I => ?_
  refine thn ((h σ0 H H0 hs0 sl).run pins s1 I) fun v s2 h1 => thn h1 fun itv s3 ⟨it', fp, tn, Jt, H1, e0, I2, tu, st, fk, H01, Ω1, xs, s1', hs1, wk, f, s0, g0, k, kr, hm, p0, le, sub, hb, hd, hrt⟩ => ⟨it', fp, tn, Jt, H1, e0, I2, tu, st, fk, H01, Ω1, xs, s1', hs1, wk, ?_⟩
  refine ⟨fun i Γ Ω => ∃ g s, Pι g ∧ Le Γ (ΓS g s) ∧ List.Sublist (ΩS g s) Ω ∧ Run (forM (xs.drop i) s f) (fun st => Run (aft st k kr) Φ Ψ) Ψ, ⟨g0, s0, p0, le, sub, Run.bind hm⟩, ?_, ?_⟩
  · rintro i x Γ' Ω' ex ⟨g, s, pg, l, o, r⟩ σ' H H0 v hs sl kk
    rw [drop_get ex] at r
    have gg := hb x s g _ (List.mem_of_getElem? ex) pg (Run.bind r) σ' H H0 v hs (sl.weak l) kk
    refine .mk fun pins s1 u I rv => ?_
    refine thn ((gg).run pins s1 u I rv) fun _ s' ⟨σ2, H2, I2, eH, eo, Γ2, sl2, q⟩ => ⟨σ2, H2, I2, eH, eo, Γ2, sl2, ?_⟩
    refine fun σ3 H3 H03 hs3 sl3 => semSs_mono (q σ3 H3 H03 (hs3.sublist o) sl3) ?_ ?_ ?_ ?_
    · exact Dz.st_imp (Same.refl _) fun Γ Ω ⟨g', s', a0, a, b, c⟩ => ⟨g', s', a0, a, b, c⟩
    · exact fun v H ⟨a, Ω, H0, h1, h2, r, h3, h4⟩ => ⟨a, Ω, H0, h1, h2, hrt r a Ω h3 h4.get⟩
    · exact Dz.st_imp (Same.refl _) fun Γ Ω ⟨g', s', a0, a, b, c⟩ => (hd s' g' a0 c.get).weak a b
    · exact Dz.st_imp (Same.refl _) fun Γ Ω ⟨g', s', a0, a, b, c⟩ => ⟨g', s', a0, a, b, c⟩
  · rintro Γ' Ω' ⟨g, s, pg, l, o, r⟩
    rw [List.drop_length] at r
    exact (hd s g pg r.get).weak l o
/-- an if whose two ways join -/
theorem s_iteG {ι σ τ : Type} {A B : List Stmt} {Φ : τ → Prop} {Ψ : Exc → Prop} (Pι : ι → Prop) (ΓS : ι → σ → Ctx) (ΩS : ι → σ → OCtx)
    (h : WT T Γ c Ω fun x Ω1 => ∃ (mA mB : M σ) (k : σ → M τ), Run (M.bind (bif x then mA else mB) k) Φ Ψ ∧ (x = true → ∀ Φ', Run mA Φ' Ψ → WSs T Γ A Ω1 { Z with nx := EndG Pι ΓS ΩS Φ' }) ∧ (x = false → ∀ Φ', Run mB Φ' Ψ → WSs T Γ B Ω1 { Z with nx := EndG Pι ΓS ΩS Φ' }) ∧
      ∀ s g, Pι g → Run (k s) Φ Ψ → WSs T (ΓS g s) rest (ΩS g s) Z) : WSs T Γ (.If c A B pos :: rest) Ω Z := by
  refine s_cons (s_ite (h.imp fun x Ω1 ⟨mA, mB, k, hm, hA, hB, hd⟩ => ⟨fun e => ?_, fun e => ?_⟩))
  · subst e
    exact fun σ0 H H0 hs sl => semSs_mono (hA rfl _ (Run.bind hm) σ0 H H0 hs sl) (Dz.st_imp (Same.refl _) fun Γ Ω ⟨g', s', a0, a, b, c⟩ => (hd s' g' a0 c).weak a b) (fun _ _ z => z) (fun _ _ z => z) (fun _ _ z => z)
  · subst e
    exact fun σ0 H H0 hs sl => semSs_mono (hB rfl _ (Run.bind hm) σ0 H H0 hs sl) (Dz.st_imp (Same.refl _) fun Γ Ω ⟨g', s', a0, a, b, c⟩ => (hd s' g' a0 c).weak a b) (fun _ _ z => z) (fun _ _ z => z) (fun _ _ z => z)
end
end Y
namespace Y
open PySem PySem.Spec PyProof.Rows L2
/-- no field of an instance (as data) is called m -/
def NoF {α : Type} (enc : α → D) (c : String) (m : Str) : Prop := ∀ x, ∃ ds : List (String × D), enc x = .obj c ds ∧ (ds.map (·.1)).all (fun f => !(Str.ofString f == m)) = true
/-- one owned thing is handed, read alone -/
def sp1b {α β : Type} (args : Addr → α → List As) (od : α → OD) (mir : α → M β) (enc : β → D) : Spc α β where
  pre := fun x as Ω => ∃ p, as = args p x ∧ Ω = [(p, od x)]
  mir := mir
  post := fun x r Ω a Ω' => ∃ p, Ω = [(p, od x)] ∧ a = .dat (enc r) ∧ Ω' = [(p, od x)]
/-- .. a new list comes back -/
def sp1bO {α β : Type} (args : Addr → α → List As) (od : α → OD) (mir : α → M (List β)) (enc : β → D) : Spc α (List β) where
  pre := fun x as Ω => ∃ p, as = args p x ∧ Ω = [(p, od x)]
  mir := mir
  post := fun x r Ω a Ω' => ∃ p q, Ω = [(p, od x)] ∧ a = .own q ∧ Ω' = [(q, oL enc r), (p, od x)]
theorem r1b {α β : Type} {Φ : β → Prop} {Ψ : Exc → Prop} {r : β} {p : Addr} {Ω' : OCtx} {args : Addr → α → List As} {od : α → OD} {mir : α → M β} {enc : β → D} {x : α} (hm : Run (.ok r) Φ Ψ) (l : List.Sublist [(p, od x)] Ω') :
    ∃ r' Ω'', List.Sublist Ω'' Ω' ∧ (sp1b args od mir enc).post x r' [(p, od x)] (.dat (enc r)) Ω'' ∧ Φ r' := ⟨r, [(p, od x)], l, ⟨p, rfl, rfl, rfl⟩, hm.get⟩
theorem r1bO {α β : Type} {Φ : List β → Prop} {Ψ : Exc → Prop} {r : List β} {p q : Addr} {Ω' : OCtx} {args : Addr → α → List As} {od : α → OD} {mir : α → M (List β)} {enc : β → D} {x : α} (hm : Run (.ok r) Φ Ψ) (l : List.Sublist [(q, oL enc r), (p, od x)] Ω') :
    ∃ r' Ω'', List.Sublist Ω'' Ω' ∧ (sp1bO args od mir enc).post x r' [(p, od x)] (.own q) Ω'' ∧ Φ r' := ⟨r, [(q, oL enc r), (p, od x)], l, ⟨p, q, rfl, rfl, rfl⟩, hm.get⟩
/-- an integer that an exception keeps -/
def getI (e : Exc) (f : String) : M Int := match e.fs.lookup f with
  | some (.int n) => .ok n
  | _ => .stuck
def getS (e : Exc) (f : String) : M Str := match e.fs.lookup f with
  | some (.str n) => .ok n
  | _ => .stuck
section
variable {W : Wd} {S : Sco} {T : TC W S} {Γ Δ : Ctx} {Ω Ω' Ω1 : OCtx} {J : JE} {e a b c o it it1 elt tg tg1 : Expr} {ifs ifs1 : List Expr} {es : List Expr} {pos p p2 apos cpos : Pos} {α β γ σ : Type} {enc : α → D} {encb : β → D} {encg : γ → D} {Z : Dz} {sts rest : List Stmt} {st : Stmt} {as : List As}
theorem insV {cl : String} {m : Str} {K : As → OCtx → Prop} (nf : NoF enc cl m) (h : WV T Γ enc o Ω fun x Ω0 => K (.dat (enc x)) Ω0) : WE T Γ o Ω fun a0 Ω0 => InsAs cl m Ω0 a0 ∧ K a0 Ω0 := WE.imp h fun a Ω' ⟨x, e, j⟩ => by
  subst e
  obtain ⟨ds, e1, e2⟩ := nf x
  exact ⟨.inl ⟨ds, by rw [e1], e2⟩, j⟩
theorem z_en {J : List (Int × α) → OCtx → Prop} {f : List α → D} (h : WV T Γ f a Ω fun xs Ω1 => J (enumL xs) Ω1) : WV T Γ f a Ω fun xs Ω1 => xs.length ≤ sizeLine → J (enumL xs) Ω1 := WV.imp h fun _ _ j _ => j
theorem set_self {Ω : OCtx} {j : Nat} {z : Addr × OD} (e : Ω[j]? = some z) : Ω.set j z = Ω := by
  apply List.ext_getElem?
  intro i
  rw [List.getElem?_set]
  split
  · rename_i h
    subst h
    split
    · exact e.symm
    · rename_i h
      rw [List.getElem?_eq_none (by omega)] at e
      cases e
  · rfl
theorem k1b {J : JE} {args : Addr → α → List As} {od : α → OD} {mir : α → M β} (x0 : α) (j : Nat) {q : Addr} (ej : Ω1[j]? = some (q, od x0)) (hm : Run (mir x0) (fun r => J (.dat (encb r)) Ω1) (fun e => T.xj e Γ Ω1)) (has : as = args q x0 := by rfl) :
    CallK T Γ (sp1b args od mir encb) as Ω1 J :=
  .one x0 j ej ⟨q, has, rfl⟩ (hm.mono (fun r jj a Ω2 ⟨p', e0, e1, e2⟩ => by
    have : q = p' := by injection e0 with e0; exact congrArg Prod.fst e0
    subst this e1 e2
    exact ⟨[], _, rfl, fun _ => by rw [set_self ej]; exact jj⟩) fun _ z => z)
theorem k1bO {J : JE} {args : Addr → α → List As} {od : α → OD} {mir : α → M (List β)} (x0 : α) (j : Nat) {q : Addr} (ej : Ω1[j]? = some (q, od x0)) (hm : Run (mir x0) (fun r => ∀ q', T.G.He q' = none → J (.own q') ((q', oL encb r) :: Ω1)) (fun e => T.xj e Γ Ω1)) (has : as = args q x0 := by rfl) :
    CallK T Γ (sp1bO args od mir encb) as Ω1 J :=
  .one x0 j ej ⟨q, has, rfl⟩ (hm.mono (fun r jj a Ω2 ⟨p', q', e0, e1, e2⟩ => by
    have : q = p' := by injection e0 with e0; exact congrArg Prod.fst e0
    subst this e1 e2
    exact ⟨[(q', oL encb r)], _, rfl, fun h => by rw [set_self ej]; exact jj q' (h q' (by simp))⟩) fun _ z => z)
theorem v_xfI {J : Int → OCtx → Prop} {Ψ : Exc → Prop} {D0 : Addr} {d : Option Addr} {a0 : Addr} {ex : Exc} {n : Str} {f : String} (i : Nat) (hin : InS T a0 (.ref D0) d) (hX : XfC W.K D0) (hno : PySem.W.findIn W.K (.ref D0) (Str.ofString f) = some none)
    (hΓ : Γ[i]? = some (some (.exc a0 d ex.fs))) (k : Run (getI ex f) (fun y => J y Ω) Ψ) (hN : S.N[i]? = some n := by rfl) (hv : S.vl.elem i = true := by rfl)
    (hb : ∀ env : Env, attributeBase (.Name n p) (Str.ofString f) env (eval (.Name n p) env) = eval (.Name n p) env := by intro _; rfl) : WV T Γ D.int (.Attribute (.Name n p) (Str.ofString f) pos) Ω J := by
  unfold getI at k
  split at k
  · rename_i y hy
    exact v_xf i hin hX hno hΓ hy k.get hN hv hb
  · exact k.no.elim
theorem v_xfS {J : Str → OCtx → Prop} {Ψ : Exc → Prop} {D0 : Addr} {d : Option Addr} {a0 : Addr} {ex : Exc} {n : Str} {f : String} (i : Nat) (hin : InS T a0 (.ref D0) d) (hX : XfC W.K D0) (hno : PySem.W.findIn W.K (.ref D0) (Str.ofString f) = some none)
    (hΓ : Γ[i]? = some (some (.exc a0 d ex.fs))) (k : Run (getS ex f) (fun y => J y Ω) Ψ) (hN : S.N[i]? = some n := by rfl) (hv : S.vl.elem i = true := by rfl)
    (hb : ∀ env : Env, attributeBase (.Name n p) (Str.ofString f) env (eval (.Name n p) env) = eval (.Name n p) env := by intro _; rfl) : WV T Γ D.str (.Attribute (.Name n p) (Str.ofString f) pos) Ω J := by
  unfold getS at k
  split at k
  · rename_i y hy
    exact v_xf i hin hX hno hΓ hy k.get hN hv hb
  · exact k.no.elim
/-- a try with one handler, all ways of which that go on join -/
theorem s_tryG {ι σ τ : Type} {n x : Str} {b₀ : Stmt} {body suite : List Stmt} {np pos' : Pos} {known named : String → Bool} {Φ : τ → Prop} {Ψ : Exc → Prop} {mb : M σ} {h : Exc → M σ} {k : σ → M τ} (i gi : Nat) (hn : Catches W x known named) (hg : S.gl[gi]? = some x) (tt : TopT T)
    (Pι : ι → Prop) (ΓS : ι → σ → Ctx) (ΩS : ι → σ → OCtx) (Δh : Ctx) (Ωh : OCtx) (hm : Run (M.bind (catchM mb known named h) k) Φ Ψ)
    (hb : ∀ (T' : TC W S) (Φ' : σ → Prop) (Ψ' : Exc → Prop), T'.G.He = T.G.He → TopT T' → Run mb Φ' Ψ' → (∀ e Γ' Ω', Ψ' e → List.Sublist Ωh Ω' → Le Γ' Δh → T'.xj e Γ' Ω') → WSs T' Γ body Ω { Z with nx := EndG Pι ΓS ΩS Φ' })
    (hno : ∀ e Γ' Ω', Ψ e → List.Sublist Ωh Ω' → Le Γ' Δh → T.xj e Γ' Ω')
    (hyes : ∀ (e : Exc) (Φ' : σ → Prop) (T' : TC W S.hot) (a : Addr) (d : Option Addr), named e.cls = true → Run (h e) Φ' Ψ → T'.G = T.G → InS T' a (.ref (He.ga W.K (Str.ofString e.cls))) d → WSs T' (Δh.set i (some (.exc a d e.fs))) (b₀ :: suite) Ωh { nx := fun Γ' Ω' => EndG Pι ΓS ΩS Φ' (Γ'.set i none) Ω', rt := Z.rt, bk := fun Γ' Ω' => Z.bk (Γ'.set i none) Ω', ct := fun Γ' Ω' => Z.ct (Γ'.set i none) Ω' })
    (hd : ∀ s g, Pι g → Run (k s) Φ Ψ → WSs T (ΓS g s) rest (ΩS g s) Z)
    (hi : S.N[i]? = some n := by rfl) (hl : S.sc.names.lookup n = some .local := by rfl) : WSs T Γ (.Try body [.ExceptHandler (some (.Name x np)) (some n) (b₀ :: suite) pos'] [] [] pos :: rest) Ω Z := by
  have q := catch_run (Run.bind hm)
  have J : ∀ Γ' Ω', EndG Pι ΓS ΩS (fun s => Run (k s) Φ Ψ) Γ' Ω' → WSs T Γ' rest Ω' Z := fun Γ' Ω' ⟨g', s', a0, a, b, c⟩ => (hd s' g' a0 c).weak a b
  refine s_cons (s_try i gi hn hg Δh Ωh (fun e => known e.cls = true ∧ (named e.cls = true → Run (h e) (fun a => Run (k a) Φ Ψ) Ψ) ∧ (named e.cls = false → Ψ e)) tt (fun T' e1 e2 e3 => ?_) (fun e z => z.1) (fun e Γ' Ω' z nn => hno e Γ' Ω' (z.2.2 nn)) (fun e z nn T' a d e1 e2 => ?_) hi hl)
  · exact fun σ0 H H0 hs sl => semSs_mono (hb T' _ _ e1 e2 q e3 σ0 H H0 hs sl) (Dz.st_imp (Same.refl _) fun Γ Ω z => J _ _ z) (fun _ _ z => z) (fun _ _ z => z) (fun _ _ z => z)
  · exact fun σ0 H H0 hs sl => semSs_mono (hyes e _ T' a d nn (z.2.1 nn) e1 e2 σ0 H H0 hs sl) (Dz.st_imp (Same.refl _) fun Γ Ω z => J _ _ z) (fun _ _ z => z) (fun _ _ z => z) (fun _ _ z => z)
end
end Y
namespace Y
open PySem PySem.Spec PyProof.Rows L2
/-- an __init__ whose fields make a β -/
def spC {α β : Type} (c : String) (fl : β → List (String × D)) (args : Addr → α → List As) (mir : α → M β) : Spc α β where
  pre := fun x as Ω => ∃ p, as = args p x ∧ Ω = [(p, .ins c [])]
  mir := mir
  post := fun x r Ω a Ω' => ∃ p, Ω = [(p, .ins c [])] ∧ a = .dat .non ∧ Ω' = [(p, .ins c (datF (fl r)))]
  xo := fun _ => []
theorem rC {α β : Type} {c : String} {fl : β → List (String × D)} {Φ : β → Prop} {Ψ : Exc → Prop} {r : β} {fs : List (String × As)} {p : Addr} {Ω' : OCtx} {args : Addr → α → List As} {mir : α → M β} {x : α}
    (hm : Run (.ok r) Φ Ψ) (l : List.Sublist [(p, .ins c fs)] Ω') (e : fs = datF (fl r) := by rfl) : ∃ r' Ω'', List.Sublist Ω'' Ω' ∧ (spC c fl args mir).post x r' [(p, .ins c [])] (.dat .non) Ω'' ∧ Φ r' := ⟨r, _, l, ⟨p, rfl, rfl, by rw [e]⟩, hm.get⟩
section
variable {W : Wd} {S : Sco} {T : TC W S} {Γ Δ : Ctx} {Ω Ω' Ω1 : OCtx} {α β : Type} {as : List As}
theorem kC {c : String} {fl : β → List (String × D)} {J : List (String × As) → OCtx → Prop} {args : Addr → α → List As} {mir : α → M β} (x0 : α) (hm : Run (mir x0) (fun r => J (datF (fl r)) Ω1) (fun e => T.xj e Γ Ω1)) (has : ∀ q, .own q :: as = args q x0 := by intro _; rfl) : MakeK T Γ (spC c fl args mir) c as Ω1 J :=
  ⟨x0, fun q => ⟨⟨q, has q, rfl⟩, hm.mono (fun r j a Ω2 ⟨p', e0, e1, e2⟩ => by
    have : q = p' := by injection e0 with e0; exact congrArg Prod.fst e0
    subst this
    exact ⟨e1, datF (fl r), e2, j⟩) fun _ z => z⟩⟩
end
end Y
namespace Y
open PySem PySem.Spec PyProof.Rows L2
/-- sizeLine, kept from being unfolded -/
@[irreducible] def okLen (n : Nat) : Bool := decide (n ≤ sizeLine)
theorem okLen_le {n : Nat} (h : okLen n = true) : n ≤ sizeLine := by
  unfold okLen at h
  exact of_decide_eq_true h
theorem okLen_of {n : Nat} (h : n ≤ sizeLine) : okLen n = true := by
  unfold okLen
  exact decide_eq_true h
end Y
/-! Y20: order of owned things; is None of anything. -/
namespace Y
open PySem PySem.Spec PyProof.Rows L2
theorem perm_front {α : Type} {x : α} : ∀ {l : List α} {j : Nat}, l[j]? = some x → (x :: l.eraseIdx j).Perm l
  | [], _, e => by simp at e
  | y :: l, 0, e => by
    simp at e
    subst e
    exact List.Perm.refl _
  | y :: l, j + 1, e => by
    have q : (x :: l.eraseIdx j).Perm l := perm_front (by simpa using e)
    exact (List.Perm.swap y x _).trans (q.cons y)
theorem Hs.perm {K : PySem.W.Frag} {G : En} {Ω Ω' : OCtx} {H0 H : Hp} (h : Hs K G Ω H0 H) (p : Ω'.Perm Ω) : Hs K G Ω' H0 H :=
  ⟨h.sub, h.base, h.new, h.keep, h.ownT, fun q o m => h.own q o (p.subset m), ((p.map (·.1)).nodup_iff).mpr h.nd⟩
section
variable {W : Wd} {S : Sco} {T : TC W S} {Γ Δ : Ctx} {Ω Ω' Ω1 : OCtx} {J : JE} {e a b c o : Expr} {pos p : Pos} {α β γ σ : Type} {enc : α → D} {Z : Dz} {sts rest : List Stmt} {st : Stmt}
theorem sw_env (T : TC W S) {e : Expr} {tg : Option Expr} {l : Nat} (h : ∀ env : Env, env.scope = S.sc → swapsWith e tg l env = pure false) : swapsWith e tg l T.X.env = pure false := h _ T.hsc
/-- the j-th owned thing to the front -/
theorem s_mv (j : Nat) {x : Addr × OD} (hx : Ω[j]? = some x) (h : WSs T Γ sts (x :: Ω.eraseIdx j) Z) : WSs T Γ sts Ω Z := fun σ H H0 hs sl => h σ H H0 (hs.perm (perm_front hx)) sl
theorem DtAs.non {K : PySem.W.Frag} {G : En} {Ω : OCtx} {H0 H : Hp} {d : D} {a : As} {v : V} (h : DtAs d Ω a) (hs : Hs K G Ω H0 H) (k : AsOk K H0 a v) : decide (v = .non) = isNon d := by
  rcases h with rfl | ⟨p, i, ds, rfl, e, rfl⟩
  · exact isNon_ok k
  · have : v = .ref p := k
    subst this
    simp [isNon]
theorem c_isW {J : Bool → OCtx → Prop} {j : Nat} {pos' : Pos} (h : WD T Γ a Ω fun d Ω1 => J (isNon d) Ω1) : WC T Γ .Is a (.Constant .none j pos') Ω J := fun σ H H0 hs sl =>
  of_op op_isN (sem_mono (h σ H H0 hs sl) fun v H1 ⟨H01, ax, Ω1, s1, hs1, ka, d, da, h1⟩ => by
    refine of_pe pe_non ?_
    exact ⟨rfl, H01, .dat (.bl _), Ω1, s1, hs1, Is.bl _, _, rfl, by rw [da.non hs1 ka]; exact h1⟩)
theorem c_notW {J : Bool → OCtx → Prop} {j : Nat} {pos' : Pos} (h : WD T Γ a Ω fun d Ω1 => J (!isNon d) Ω1) : WC T Γ .IsNot a (.Constant .none j pos') Ω J := fun σ H H0 hs sl =>
  of_op op_notN (sem_mono (h σ H H0 hs sl) fun v H1 ⟨H01, ax, Ω1, s1, hs1, ka, d, da, h1⟩ => by
    refine of_pe pe_non ?_
    exact ⟨rfl, H01, .dat (.bl _), Ω1, s1, hs1, Is.bl _, _, rfl, by rw [da.non hs1 ka]; exact h1⟩)
end
end Y
/-! Y21: the head: facts about the written part by one Bool, the functions' texts by a list. -/
namespace Y
open PySem PySem.Spec PyProof.Rows L2
abbrev Fr := PySem.W.Frag
/-! ### functions -/
abbrev FnT : Type := Option (Str × Str × Arguments × FuncBody × Scope × Addr × Addr)
def fnT (K : Fr) (a : Addr) : FnT := match K.lookup a with
  | some ⟨_, _, .func fd, _⟩ => some (fd.name, fd.qualname, fd.params, fd.body, fd.scope, fd.globals, fd.builtins)
  | _ => none
structure DfY where
  at_ : Fr → Addr
  name : Str
  qual : Str
  params : Arguments
  body : List Stmt
  scope : Scope
def DfY.val (d : DfY) : FnT := some (d.name, d.qual, d.params, .stmts d.body, d.scope, mainGlobals, builtinsNs)
/-- a def without defaults, closure -/
def plB (K : Fr) (a : Addr) (q : Str) : Bool := PySem.W.keepIn K (.ref a) && match K.lookup a with
  | some ⟨_, _, .func fd, _⟩ => PySem.W.codeIn K fd.code q && (fd.closure.isEmpty && He.dflB K fd.defaults [])
  | _ => false
theorem plB_ok {K : Fr} {d : DfY} (e : fnT K (d.at_ K) = d.val) (c : plB K (d.at_ K) d.qual = true) : ∃ fd, FunD K d.name d.qual d.params d.body d.scope [] [] (d.at_ K) fd := by
  obtain ⟨kp, c2⟩ := He.ba c
  unfold fnT at e
  cases q : K.lookup (d.at_ K) with
  | none =>
    rw [q] at c2
    cases c2
  | some o =>
    obtain ⟨oc, od, dt, osl⟩ := o
    rw [q] at c2 e
    cases dt with
    | func fd =>
      obtain ⟨n1, n2, n3, n4, n5, n6, n7, n8, n9, n10, n11, n12, n13, n14, n15⟩ := fd
      have e2 : (some (n1, n2, n3, n4, n5, n6, n15) : FnT) = some (d.name, d.qual, d.params, .stmts d.body, d.scope, mainGlobals, builtinsNs) := e
      simp only [Option.some.injEq, Prod.mk.injEq] at e2
      obtain ⟨h1, h2, h3, h4, h5, h6, h8⟩ := e2
      subst h1 h2 h3 h4 h5 h6 h8
      obtain ⟨k1, k2⟩ := He.ba (show (PySem.W.codeIn K n13 d.qual && (n7.isEmpty && He.dflB K n8 [])) = true from c2)
      obtain ⟨k3, k4⟩ := He.ba k2
      have k5 : n7 = [] := List.isEmpty_iff.mp k3
      subst k5
      exact ⟨_, ⟨oc, od, n8, n9, n10, n11, n12, n13, n14, osl, rfl, q, k1, He.dflB_ok k4, .inl rfl⟩, kp⟩
    | _ => cases c2
/-! ### exceptions -/
def oexB (K : Fr) (C : Addr) : Bool := (match K.lookup C with
  | some ⟨.type "type", _, .cls cd, sl⟩ => (match cd.mro, sl.toList with
    | .ref C' :: bm, [_, _, _, _, some (.builtin n), _] => C' == C && (n == "ValueError.__new__" && (!cd.hasDel && (cd.hasDict && PySem.HandSPX.refsVE bm)))
    | _, _ => false)
  | _ => false) && (He.eqO (PySem.W.findIn K (.ref C) "__setattr__") (some (some (.builtin "object.__setattr__"))) && (decide (PySem.W.subIn K (.ref C) (.type "BaseException") = some true) &&
    (decide (PySem.W.typeIn K (.ref C) = some (.type "type")) && PySem.W.keepIn K (.ref C))))
theorem oexB_ok {K : Fr} {C : Addr} (h : oexB K C = true) : OexC K C := by
  obtain ⟨h1, h⟩ := He.ba h
  obtain ⟨h2, h⟩ := He.ba h
  obtain ⟨h3, h⟩ := He.ba h
  obtain ⟨h4, h5⟩ := He.ba h
  refine ⟨?_, He.eqO_ok h2, of_decide_eq_true h3, of_decide_eq_true h4, h5⟩
  split at h1
  · rename_i dd cd sl ho
    split at h1
    · rename_i C' bm k0 k1 k2 k3 n k5 hm hs
      simp only [Bool.and_eq_true, beq_iff_eq, Bool.not_eq_true'] at h1
      obtain ⟨rfl, rfl, hdel, hdc, hr⟩ := h1
      obtain ⟨nm, bs, mro, ns, qn, hd, sn, sub, ab, col, del⟩ := cd
      dsimp only at hm hdel hdc
      subst hm hdel hdc
      have hsl : sl = #[k0, k1, k2, k3, some (.builtin "ValueError.__new__"), k5] := by
        obtain ⟨l⟩ := sl
        simp only at hs
        rw [hs]
      subst hsl
      exact ⟨nm, qn, ns, bs, bm, sn, sub, ab, col, dd, k0, k1, k2, k3, k5, ho, hr⟩
    · cases h1
  · cases h1
def ecB (K : Fr) (D : Addr) : Bool := He.eqO (PySem.W.findIn K (.ref D) "__getattribute__") (some (some (.builtin "BaseException.__getattribute__"))) && (He.eqO (PySem.W.findIn K (.ref D) "__getattr__") (some none) &&
  (decide (PySem.W.subIn K (.ref D) (.type "BaseException") = some true) && (PySem.W.hasDictIn K D && (He.eqO (PySem.W.findIn K (.ref D) "__class__") (some (some (.builtin "object.__class__"))) &&
  (He.eqO (PySem.W.specialIn K (.builtin "object.__class__") "__get__") (some (some (.builtin "getset_descriptor.__get__"))) && (decide (PySem.W.takesIn K (.builtin "object.__class__") = some true) && decide (PySem.W.mroIn K D (.type "object") = some true)))))))
theorem ecB_ok {K : Fr} {D : Addr} (h : ecB K D = true) : ExcC K D := by
  obtain ⟨h1, h⟩ := He.ba h
  obtain ⟨h2, h⟩ := He.ba h
  obtain ⟨h3, h⟩ := He.ba h
  obtain ⟨h4, h⟩ := He.ba h
  obtain ⟨h5, h⟩ := He.ba h
  obtain ⟨h6, h⟩ := He.ba h
  obtain ⟨h7, h8⟩ := He.ba h
  exact ⟨He.eqO_ok h1, He.eqO_ok h2, of_decide_eq_true h3, h4, He.eqO_ok h5, He.eqO_ok h6, of_decide_eq_true h7, of_decide_eq_true h8⟩
/-- the def of an own exception's __init__ (closed over __class__) -/
def xiB (P : Program) (K : Fr) (C : Addr) (q : Str) (ar : Arg) : Bool := (match K.lookup (He.ma K C "__init__") with
  | some ⟨_, _, .func fd, _⟩ => (match fd.closure, fd.code with
    | [(n, cc)], .ref cda => decide (n = ("__class__" : Str)) && (PySem.W.codeIn K (.ref cda) q && (decide (fd.defaults = .none) && (decide ((fd.params.posonlyargs ++ fd.params.args).head?.map (·.arg) = some ar.arg) && ((match K.lookup cda with
      | some ⟨_, _, .fields vs, _⟩ => (match (vs[2]? : Option Value) with
        | some (Value.str file _) => (P.main.file : Str) == file
        | _ => false)
      | _ => false) && ((match K.lookup cc with
      | some ⟨_, _, .cell (some (.ref D)), _⟩ => (match PySem.W.clsIn K D, PySem.W.clsIn K C with
        | some _, some cd => decide (PySem.W.mroIn K C (.ref D) = some true) && He.eqO (PySem.W.alongIn K "__init__" ((cd.mro.dropWhile (· != .ref D)).drop 1)) (some (some (.builtin "ValueError.__init__")))
        | _, _ => false)
      | _ => false))))))
    | _, _ => false)
  | _ => false) && (He.eqO (PySem.W.findIn K (.ref C) "__init__") (some (some (.ref (He.ma K C "__init__")))) && (decide (PySem.W.typeIn K (.ref (He.ma K C "__init__")) = some (.type "function")) &&
    (decide (PySem.W.subIn K (.ref C) (.type "ValueError") = some true) && He.eqO (PySem.W.nsIn K cStatics "thirdparty.any") (some none))))
structure XiOk (P : Program) (K : Fr) (C : Addr) (name q : Str) (params : Arguments) (body : List Stmt) (scope : Scope) (ar : Arg) : Prop where
  ex : ∃ (cc cda : Addr) (kV doc pm ct oc : Value) (an od : Option Addr) (osl : Array (Option Value)) (occ : Obj), K.lookup (He.ma K C "__init__") = some ⟨oc, od, .func (PySem.W.ksFn name q params body scope .none kV doc pm an (.ref cda) ct cc), osl⟩ ∧
    PySem.W.codeIn K (.ref cda) q = true ∧ K.lookup cc = some occ ∧ (∃ v, occ.data = .cell v) ∧ SupC P K C (He.ma K C "__init__") cc cda ar
  fi : PySem.W.findIn K (.ref C) "__init__" = some (some (.ref (He.ma K C "__init__")))
  ty : PySem.W.typeIn K (.ref (He.ma K C "__init__")) = some (.type "function")
theorem xiB_ok {P : Program} {K : Fr} {C : Addr} {name q : Str} {params : Arguments} {body : List Stmt} {scope : Scope} {ar : Arg} (h : xiB P K C q ar = true) (hx : oexB K C = true) (e : fnT K (He.ma K C "__init__") = some (name, q, params, .stmts body, scope, mainGlobals, builtinsNs))
    (har : (params.posonlyargs ++ params.args).head? = some ar) (htop : (P.main.scope.names.lookup ("super" : Str)).isSome = false) : XiOk P K C name q params body scope ar := by
  obtain ⟨h1, h⟩ := He.ba h
  obtain ⟨h2, h⟩ := He.ba h
  obtain ⟨h3, h⟩ := He.ba h
  obtain ⟨h4, h5⟩ := He.ba h
  refine ⟨?_, He.eqO_ok h2, of_decide_eq_true h3⟩
  unfold fnT at e
  split at h1
  · rename_i oc od fd osl ho
    rw [ho] at e
    obtain ⟨n1, n2, n3, n4, n5, n6, n7, n8, n9, n10, n11, n12, n13, n14, n15⟩ := fd
    have e2 : (some (n1, n2, n3, n4, n5, n6, n15) : FnT) = some (name, q, params, .stmts body, scope, mainGlobals, builtinsNs) := e
    simp only [Option.some.injEq, Prod.mk.injEq] at e2
    obtain ⟨g1, g2, g3, g4, g5, g6, g8⟩ := e2
    subst g1 g2 g3 g4 g5 g6 g8
    split at h1
    · rename_i n cc cda hcl hcd
      dsimp only at hcl hcd h1
      subst hcl hcd
      obtain ⟨k1, h1⟩ := He.ba h1
      obtain ⟨k2, h1⟩ := He.ba h1
      obtain ⟨k3, h1⟩ := He.ba h1
      obtain ⟨k4, h1⟩ := He.ba h1
      obtain ⟨k5, k6⟩ := He.ba h1
      obtain rfl := of_decide_eq_true k1
      obtain rfl := of_decide_eq_true k3
      split at k6
      · rename_i ocl ocd D ocs hcc
        split at k6
        · rename_i cdD cd e1 e2
          obtain ⟨m1, m2⟩ := He.ba k6
          refine ⟨cc, cda, n9, n10, n11, n14, oc, n12, od, osl, _, ho, k2, hcc, ⟨_, rfl⟩, oexB_ok hx, ⟨_, _, _, _, ho, har⟩, ?_, ⟨D, _, _, _, cdD, cd, hcc, e1, of_decide_eq_true m1, e2, He.eqO_ok m2⟩, of_decide_eq_true h4, He.eqO_ok h5, htop⟩
          split at k5
          · rename_i c1 c2 vs c3 hcda
            split at k5
            · rename_i file tf hv
              exact ⟨_, _, _, _, file, tf, hcda, hv, k5⟩
            · cases k5
          · cases k5
        · cases k6
      · cases k6
    · cases h1
  · cases h1
/-! ### the Hook -/
def asY (g : Addr → Option Obj) (n : Nat) : List Addr := He.asD g n ++ [cStatics]
abbrev AlY : Type := Bool × List FnT
def obsY (ex : Fr → Bool) (fn : List DfY) (K : Fr) : AlY := (ex K, fn.map fun d => fnT K (d.at_ K))
def valY (fn : List DfY) : AlY := (true, fn.map DfY.val)
def SaysY (ex : Fr → Bool) (fn : List DfY) (K : Fr) : Prop := obsY ex fn K = valY fn
def obsYG (n : Nat) (ex : Fr → Bool) (fn : List DfY) (g : Addr → Option Obj) : AlY := obsY ex fn (He.frG g (asY g n))
def hookY (n : Nat) (ex : Fr → Bool) (fn : List DfY) : PySem.W.Hook where
  α := AlY
  obs := fun s => obsYG n ex fn s.heap.get?
  val := fun _ => valY fn
  says := fun _ h => ∃ K : Fr, K.In h ∧ SaysY ex fn K
  of := fun _ _ e => ⟨_, He.frG_in, e⟩
  keeps := fun _ _ _ ⟨K, hK, c⟩ k => ⟨K, PySem.W.Frag.In.keeps hK k, c⟩
theorem obsYG_eq {n : Nat} {ex : Fr → Bool} {fn : List DfY} {g : Addr → Option Obj} {s : Shared} (h : ∀ a, g a = s.heap.get? a) : obsYG n ex fn g = (hookY n ex fn).obs s := by
  have e : g = s.heap.get? := funext h
  rw [e] <;> rfl
section
variable {ex : Fr → Bool} {fn : List DfY} {K : Fr}
theorem SaysY.bool (c : SaysY ex fn K) : ex K = true := congrArg (fun z : AlY => z.1) c
theorem SaysY.text (c : SaysY ex fn K) (i : Nat) {d : DfY} (h : fn[i]? = some d := by rfl) : fnT K (d.at_ K) = d.val := by
  have e : fn.map (fun d => fnT K (d.at_ K)) = fn.map DfY.val := congrArg (fun z : AlY => z.2) c
  have e2 : (fn.map fun d => fnT K (d.at_ K))[i]? = (fn.map DfY.val)[i]? := by rw [e]
  rw [List.getElem?_map, List.getElem?_map, h] at e2
  exact Option.some.inj e2
theorem all_at {α : Type} {fs : List (α → Bool)} {K : α} (h : fs.all (fun f => f K) = true) (i : Nat) {f : α → Bool} (e : fs[i]? = some f := by rfl) : f K = true := List.all_eq_true.mp h f (List.mem_of_getElem? e)
end
/-! ### the law itself -/
theorem fnOk_of {α β : Type} {W : Wd} {k : Nat} {x qual : Str} {params : Arguments} {body : List Stmt} {scope : Scope} {f : Addr} {fd : FuncData} {N ps : List Str} {s : Spc α β} {vl sl : List Nat} {gl : List Str}
    (F : FunD W.K x qual params body scope [] [] f fd) (S : FnScope N ps scope) (ok : ScOk ⟨N, scope, vl, sl, gl, k, true⟩)
    (hlen : ∀ x as Ω, s.pre x as Ω → as.length = ps.length)
    (B : BodyOk W ⟨N, scope, vl, sl, gl, k, true⟩ body s) : FnOk W.P W.w W.K W.mg W.base (L2.CX W.P W.w) (k + 1) f fd ps (spOf W.K s) := by
  refine F.ok S (fun vs H Q E h => ?_) (fun cdv A outer s0 H vs Q E hr h => ?_)
  · obtain ⟨x, as, Ω, H0, hp, ha, _⟩ := h
    exact ha.length.trans (hlen x as Ω hp)
  · obtain ⟨x, as, Ω, H0, hp, ha, hs, hm⟩ := h
    refine ⟨_, pss_sem, ?_⟩
    let X := cxOf (L2.CX W.P W.w) W.P W.w W.K W.mg W.base N qual scope f cdv A outer s0 H E
    let G := enOf H H0 Ω
    let Ψ : Exc → Prop := fun e => ∀ cls d H' H0', ExcOk W.K H0' e cls d → Hs W.K G (s.xo Ω) H0' H' → E cls d H'
    let xj : XJ := fun e _ Ω' => List.Sublist (s.xo Ω) Ω' ∧ Ψ e
    let T : TC W ⟨N, scope, vl, sl, gl, k, true⟩ := {
      X := X, G := G, xj := xj
      tk := (takes_of (X := X) rfl rfl rfl rfl).imp fun c d σ H' ⟨e, Γ, Ω', H0', a1, a2, _, a4, a5⟩ => by
        exact a5 c d H' H0' a1 (a2.sublist a4)
      hW := rfl, hN := rfl, hsc := rfl, ok := ok, hf := fun _ _ _ _ => .inl rfl, hc := rfl, room := fun _ => hr, pso := passes_of rfl }
    have q := B T ⟨rfl, rfl⟩ x as Ω _ _ hp hm (fun e Γ Ω' z l => ⟨l, z⟩) (L2.start N vs) H H0 hs (sl_start ha)
    refine .mk fun pins s1 I => ?_
    refine thn ((q).run pins s1 I) fun fl s2 z => ?_
    cases fl with
    | next =>
      obtain ⟨σ', H', I', Γ', Ω', H0', _, hs', sl', r, Ω'', p0, p1, p2⟩ := z
      exact ⟨σ', H', I', p2 .non H' H0' _ Ω'' p1 (hs'.sublist p0) Is.non⟩
    | ret u =>
      obtain ⟨v, σ', H', I', rv, a, Ω', H0', hs', ka, r, Ω'', p0, p1, p2⟩ := z
      exact ⟨v, σ', H', I', rv, p2 v H' H0' a Ω'' p1 (hs'.sublist p0) ka⟩
    | brk =>
      obtain ⟨σ', H', I', Γ', Ω', H0', _, hs', sl', r⟩ := z
      exact r.elim
    | cont =>
      obtain ⟨σ', H', I', Γ', Ω', H0', _, hs', sl', r⟩ := z
      exact r.elim
theorem cx_no {P : Program} {w : World} {H : Hp} {s : Shared} {e : Value} {s' : Shared} (h : L2.CX P w [] H s (fun _ _ _ => False) e s') : False := by
  obtain ⟨_, _, _, _, _, _, _, _, _, _, _, _, z⟩ := h
  exact z
theorem walk_ofEW {l : PySem.W.OpenLaw} {n k : Nat} {q : Program} {loose : List Str} {XP : (Str → Option Value) → Heap → Prop} {YP : World → Heap → Prop} {d : DefRec} {CX : World → CXT} {x : Str}
    (hn : l.most = some n) (hn2 : n ≤ sizeLine) (hdf : d.params.defaults = []) (hr : Room k callerA)
    (F : ∀ (w : World) (mg : Str → Option Value) (fa : Addr) (h : Heap), YP w h → h.Ns mainGlobals mg → mg d.name = some (.ref fa) →
      ∃ (K : PySem.W.Frag) (fd : FuncData) (sp : Sp), K.In h ∧ (∀ (s : Shared) (u : Value), BindsTo s fd ⟨[u], []⟩ [(x, u)]) ∧
        (∀ (H : Hp) (a : Addr) (ns : List Int), ns.length ≤ n → Only H → SqL K H a (ns.map V.int) → sp [.ref a] H (fun v _ => v = .bl true) fun _ _ _ => False) ∧
        ∀ base : Heap, K.In base → base.Ns mainGlobals mg → FnOk l.prog w K mg base (CX w) k fa fd [x] sp)
    (hCX : ∀ (w : World) (H : Hp) (s : Shared) (e : Value) (s' : Shared), CX w [] H s (fun _ _ _ => False) e s' → False) :
    PySem.W.WalkO q loose XP YP l.row.toRowW d [] (fun f vs => PySem.call f vs) := by
  refine Att.attach_call hn hdf fun w s₀ s₁ mg mb fa o pm cd doc a vs ns G Y ho hd hcd hmg hobj hints hlen hg => ?_
  obtain ⟨K, fd, sp, KX, hb, hsp, hF⟩ := F w mg fa _ Y G.T.g hmg
  exact law_call KX G.T.g G.T.b G.T.builtins G.T.nolimit hg hobj hints (Nat.le_trans hlen hn2) hr hF hb (fun H hO hS => hsp H a ns hlen hO hS) fun H e s' => hCX w H s₁ e s'
/-- the call of the law, its mirror's answer known -/
theorem law_sp {K : Fr} {mir : List Int → M Bool} {H : Hp} {a : Addr} {ns : List Int} (hl : ns.length ≤ sizeLine) (hS : SqL K H a (ns.map V.int)) (hm : mir ns = .ok true) :
    spOf K (sp0 (fun x => [.dat (dS x)]) mir D.bl) [.ref a] H (fun v _ => v = .bl true) (fun _ _ _ => False) := by
  refine ⟨ns, [.dat (dS ns)], [], H, ⟨rfl, rfl⟩, .cons (.sqs (by rw [List.length_map]; exact hl) hS (isL_ints ns)) .nil, ?_, ?_⟩
  · exact ⟨Same.refl _, Same.refl _, fun _ _ e => .inl e, fun _ _ e _ => e, fun b m => absurd m List.not_mem_nil, fun p o m => absurd m List.not_mem_nil, List.nodup_nil⟩
  · show Run (mir ns) _ _
    rw [hm]
    refine .ok ?_
    rintro v H' H0' x Ω' ⟨rfl, rfl⟩ _ k
    exact isB k
end Y
/-! Y22: two values of any data compared, item by item (the laws' own comparison). -/
namespace Y
open PySem PySem.Spec PyProof.Rows L2
def isT (c : String) (d : D) : Bool := match tyD d with
  | some t => decide (t = c) || (decide (t = "bool") && decide (c = "int"))
  | none => false
mutual
def sameB : D → D → Bool
  | .non, .non => true
  | .bl a, .bl b => decide (a = b)
  | .int a, .int b => decide (a = b)
  | .str a, .str b => decide (a = b)
  | .lst a, .lst b => sameBs a b
  | .tup a, .tup b => sameBs a b
  | _, _ => false
def sameBs : List D → List D → Bool
  | [], [] => true
  | x :: xs, y :: ys => sameB x y && sameBs xs ys
  | _, _ => false
end
/-- data of a depth below n, lists of a bounded length -/
def okS : Nat → D → Bool
  | 0, _ => false
  | _ + 1, .non => true
  | _ + 1, .bl _ => true
  | _ + 1, .int _ => true
  | _ + 1, .str _ => true
  | n + 1, .lst ds => okLen ds.length && ds.all (okS n)
  | n + 1, .tup ds => okLen ds.length && ds.all (okS n)
  | _ + 1, _ => false
def seqD : D → Option (List D)
  | .lst ds => some ds
  | .tup ds => some ds
  | _ => none
def mSame (n : Nat) (x : D × D) : M Bool := chk (okS n x.1 && okS n x.2) (.ok (sameB x.1 x.2))
theorem mSame_ok {n : Nat} {d e : D} (h1 : okS n d = true) (h2 : okS n e = true) : mSame n (d, e) = .ok (sameB d e) := by
  unfold mSame
  rw [h1, h2]
  rfl
theorem okS_ty {n : Nat} {d : D} (h : okS n d = true) : ∃ t, tyD d = some t ∧ t ∈ ["NoneType", "bool", "int", "str", "list", "tuple", "dict"] := by
  cases n with
  | zero => cases h
  | succ n =>
    cases d with
    | non => exact ⟨_, rfl, by simp⟩
    | bl b => exact ⟨_, rfl, by simp⟩
    | int i => exact ⟨_, rfl, by simp⟩
    | str x => exact ⟨_, rfl, by simp⟩
    | lst ds => exact ⟨_, rfl, by simp⟩
    | tup ds => exact ⟨_, rfl, by simp⟩
    | sqs ds => cases h
    | dic ds => cases h
    | obj c ds => cases h
theorem kit_isT (K : PySem.W.Frag) {n : Nat} {d : D} {c : String} (h : okS n d = true) (hc : c ∈ ["bool", "int", "str", "list", "tuple", "dict"]) : ∃ t r, tyD d = some t ∧ PySem.W.kitOne K (.type t) (.type c) = some r ∧ r = isT c d := by
  obtain ⟨t, e, m⟩ := okS_ty h
  exact ⟨t, _, e, kit_tt K t m c hc, by unfold isT; rw [e]⟩
theorem isT_bool {n : Nat} {d : D} (h : okS n d = true) (t : isT "bool" d = true) : ∃ b, d = .bl b := by
  cases n with
  | zero => cases h
  | succ n => cases d <;> first | exact ⟨_, rfl⟩ | (exfalso; simp_all [isT, tyD, okS])
theorem isT_int {n : Nat} {d : D} (h : okS n d = true) (t0 : isT "bool" d = false) (t : isT "int" d = true) : ∃ b, d = .int b := by
  cases n with
  | zero => cases h
  | succ n => cases d <;> first | exact ⟨_, rfl⟩ | (exfalso; simp_all [isT, tyD, okS])
theorem isT_str {n : Nat} {d : D} (h : okS n d = true) (t : isT "str" d = true) : ∃ b, d = .str b := by
  cases n with
  | zero => cases h
  | succ n => cases d <;> first | exact ⟨_, rfl⟩ | (exfalso; simp_all [isT, tyD, okS])
theorem same_nb {d e : D} (h : (isT "bool" d || isT "bool" e) = true) (h2 : (isT "bool" d && isT "bool" e) = false) : sameB d e = false := by
  cases d <;> cases e <;> simp_all [isT, tyD, isNon, sameB]
theorem same_nn {d e : D} (h : (isNon d || isNon e) = true) (h2 : (isNon d && isNon e) = false) : sameB d e = false := by
  cases d <;> cases e <;> simp_all [isT, tyD, isNon, sameB]
theorem same_nt {d e : D} (h : (isNon d && isNon e) = true) : sameB d e = true := by
  cases d <;> cases e <;> simp_all [isT, tyD, isNon, sameB]
theorem same_ni {d : D} {j : Int} (t0 : isT "bool" d = false) (h : isT "int" d = false) : sameB d (.int j) = false := by
  cases d <;> simp_all [isT, tyD, isNon, sameB]
theorem same_ns {d : D} {j : Str} (h : isT "str" d = false) : sameB d (.str j) = false := by
  cases d <;> simp_all [isT, tyD, isNon, sameB]
theorem same_nl {d e : D} {c : String} (hc : c = "list" ∨ c = "tuple") (he : isT c e = true) (h : isT c d = false) : sameB d e = false := by
  rcases hc with rfl | rfl <;> cases d <;> cases e <;> simp_all [isT, tyD, isNon, sameB]
/-- what is left: two lists or two tuples -/
theorem two_seq {n : Nat} {d e : D} (hd : okS n d = true) (he : okS n e = true) (b : (isT "bool" d || isT "bool" e) = false) (nn : (isNon d || isNon e) = false) (i : isT "int" e = false) (s : isT "str" e = false)
    (l : (isT "list" e && !isT "list" d) = false) (t : (isT "tuple" e && !isT "tuple" d) = false) : ∃ m ds es, n = m + 1 ∧ seqD d = some ds ∧ seqD e = some es ∧ sameB d e = sameBs ds es ∧ okLen ds.length = true ∧ okLen es.length = true ∧ (∀ x ∈ ds, okS m x = true) ∧ ∀ x ∈ es, okS m x = true := by
  cases n with
  | zero => cases hd
  | succ n =>
    have fin : ∀ {ds es : List D}, (okLen ds.length && ds.all (okS n)) = true → (okLen es.length && es.all (okS n)) = true → okLen ds.length = true ∧ okLen es.length = true ∧ (∀ x ∈ ds, okS n x = true) ∧ ∀ x ∈ es, okS n x = true := fun h1 h2 => by
      obtain ⟨a1, a2⟩ := Bool.and_eq_true_iff.mp h1
      obtain ⟨b1, b2⟩ := Bool.and_eq_true_iff.mp h2
      exact ⟨a1, b1, List.all_eq_true.mp a2, List.all_eq_true.mp b2⟩
    cases e with
    | lst es =>
      cases d with
      | lst ds => exact ⟨n, ds, es, rfl, rfl, rfl, by simp [sameB], fin hd he⟩
      | _ => exfalso; simp_all [isT, tyD, okS]
    | tup es =>
      cases d with
      | tup ds => exact ⟨n, ds, es, rfl, rfl, rfl, by simp [sameB], fin hd he⟩
      | _ => exfalso; simp_all [isT, tyD, okS]
    | _ => exfalso; simp_all [isT, tyD, okS, isNon]
theorem sameBs_len {ds es : List D} (h : ds.length ≠ es.length) : sameBs ds es = false := by
  induction ds generalizing es with
  | nil => cases es with
    | nil => exact absurd rfl h
    | cons _ _ => simp [sameBs]
  | cons x xs ih => cases es with
    | nil => simp [sameBs]
    | cons y ys =>
      simp only [sameBs]
      rw [ih (by simpa using h), Bool.and_false]
/-- the loop over the places -/
def samF (ds es : List D) (k : Int) (_ : Unit) : M (Stp Unit Bool) := bif sameB (ds.getD k.toNat .non) (es.getD k.toNat .non) then .ok (.nx ()) else .ok (.rt false)
theorem samF_run : ∀ (j : Nat) {ds es : List D}, ds.length = es.length → M.bind (forM ((List.range' j (ds.length - j)).map fun (i : Nat) => (i : Int)) () (samF ds es)) (fun st => aft st (fun _ => .ok true) (fun r => .ok r)) = .ok (sameBs (ds.drop j) (es.drop j)) := by
  intro j ds es h
  generalize hn : ds.length - j = n
  induction n generalizing j with
  | zero =>
    rw [List.drop_of_length_le (by omega), List.drop_of_length_le (by omega)]
    simp [sameBs, forM, M.bind, aft]
  | succ n ih =>
    have l1 : j < ds.length := by omega
    have l2 : j < es.length := by omega
    rw [List.range'_succ, List.map_cons, List.drop_eq_getElem_cons l1, List.drop_eq_getElem_cons l2]
    simp only [sameBs]
    have e1 : samF ds es (j : Int) () = bif sameB ds[j] es[j] then .ok (.nx ()) else .ok (.rt false) := by
      unfold samF
      rw [Int.toNat_natCast, List.getD_eq_getElem?_getD, List.getD_eq_getElem?_getD, List.getElem?_eq_getElem l1, List.getElem?_eq_getElem l2]
      rfl
    simp only [forM]
    rw [e1]
    cases sameB ds[j] es[j] with
    | false => rfl
    | true =>
      rw [Bool.true_and, ← ih (j + 1) (by omega)]
      rfl
theorem samF_all {ds es : List D} (h : ds.length = es.length) : M.bind (forM (rng 0 (es.length : Int)) () (samF ds es)) (fun st => aft st (fun _ => .ok true) (fun r => .ok r)) = .ok (sameBs ds es) := by
  have q := samF_run 0 h
  rw [Nat.sub_zero, List.drop_zero, List.drop_zero] at q
  rw [← q]
  congr 2
  unfold rng
  rw [List.range_eq_range', ← h]
  simp
theorem run_eq {α : Type} {m : M α} {a : α} {Φ : α → Prop} {Ψ : Exc → Prop} (e : m = .ok a) (h : Φ a) : Run m Φ Ψ := by
  rw [e]
  exact .ok h
theorem rngM_len {n : Nat} (h : okLen n = true) : rngM 0 (n : Int) = .ok (rng 0 n) := by
  have h2 := okLen_le h
  have h3 : sizeLine = 16777216 := by decide
  have h4 : rngOk 0 (n : Int) = true := by
    unfold rngOk
    rw [decide_eq_true]
    omega
  unfold rngM
  rw [h4]
  rfl
theorem rng_mem {n : Nat} {k : Int} (h : k ∈ rng 0 (n : Int)) : 0 ≤ k ∧ k < n := by
  unfold rng at h
  obtain ⟨i, hi, rfl⟩ := List.mem_map.mp h
  have := List.mem_range.mp hi
  omega
theorem idxM_getD {α : Type} {xs : List α} {k : Int} (d : α) (h : 0 ≤ k ∧ k < xs.length) : idxM xs k = .ok (xs.getD k.toNat d) ∧ xs.getD k.toNat d ∈ xs := by
  have l : k.toNat < xs.length := by omega
  have e : xs.getD k.toNat d = xs[k.toNat] := by rw [List.getD_eq_getElem?_getD, List.getElem?_eq_getElem l]; rfl
  rw [e]
  refine ⟨?_, List.getElem_mem l⟩
  have e2 : atI xs k = some xs[k.toNat] := by
    have := atI_nat (List.getElem?_eq_getElem l)
    rw [Int.toNat_of_nonneg h.1] at this
    exact this
  unfold idxM
  rw [e2]
theorem scOk_lv {N : List Str} {sc : Scope} {vl sl : List Nat} {gl : List Str} {c : Bool} (n : Nat) (h : ScOk ⟨N, sc, vl, sl, gl, 0, c⟩) : ScOk ⟨N, sc, vl, sl, gl, n, c⟩ := ⟨h.kind, h.nd, h.vis, h.loc, h.glo⟩
/-- _law_same at depth n -/
abbrev spSame (n : Nat) : Spc (D × D) Bool := sp0 (fun x => [.dat x.1, .dat x.2]) (mSame n) D.bl
section
variable {W : Wd} {S : Sco} {T : TC W S} {Γ Δ : Ctx} {Ω Ω' Ω1 : OCtx} {J : JE} {e a b c o : Expr} {pos p : Pos} {α β γ σ : Type} {enc : α → D} {Z : Dz} {sts rest : List Stmt} {st : Stmt}
theorem q_any {J : List D → OCtx → Prop} (i : Nat) {x : Str} {d : D} {ds : List D} (hΓ : Γ[i]? = some (some (.dat d))) (hd : seqD d = some ds) (k : J ds Ω) (hN : S.N[i]? = some x := by rfl) (hv : S.vl.elem i = true := by rfl) : WQ T Γ (fun d => d) (.Name x pos) Ω J := by
  refine e_var i hN hv hΓ ⟨ds, ?_, k⟩
  cases d with
  | lst es => cases hd; exact .inl (.inl (.inl (by rw [List.map_id'])))
  | tup es => cases hd; exact .inr (by rw [List.map_id'])
  | _ => cases hd
theorem d_any {J : D → OCtx → Prop} (i : Nat) {x : Str} {d : D} (hΓ : Γ[i]? = some (some (.dat d))) (k : J d Ω) (hN : S.N[i]? = some x := by rfl) (hv : S.vl.elem i = true := by rfl) : WD T Γ (.Name x pos) Ω J := e_var i hN hv hΓ ⟨d, .inl rfl, k⟩
theorem v_isT {J : Bool → OCtx → Prop} {x y : Str} {cc : V} {n : Nat} {d : D} {ct : String} (i gi ii : Nat) (hm : W.mg "isinstance" = none) (hk : IsCls W x cc (.type ct)) (hΓ : Γ[i]? = some (some (.dat d))) (ok : okS n d = true) (hc : ct ∈ ["bool", "int", "str", "list", "tuple", "dict"]) (k : J (isT ct d) Ω)
    (hgx : S.gl[gi]? = some x) (hg : S.gl[ii]? = some ("isinstance" : Str) := by rfl) {apos p2 : Pos} (hN : S.N[i]? = some y := by rfl) (hv : S.vl.elem i = true := by rfl)
    (he : starEach (.Name y p2 :: [.Name x apos]) T.X.env = (false, eval (.Name y p2) T.X.env) :: starEach [.Name x apos] T.X.env := by rfl) (he2 : starEach (.Name x apos :: []) T.X.env = (false, eval (.Name x apos) T.X.env) :: starEach [] T.X.env := by rfl)
    (hpl : (backTo pos (starEach [.Name x apos] T.X.env)).any (·.1) = false := by rfl) : WV T Γ D.bl (.Call (.Name "isinstance" p) [.Name y p2, .Name x apos] [] pos) Ω J := by
  obtain ⟨t, r, e1, e2, e3⟩ := kit_isT W.K ok hc
  exact v_isi gi ii hm hk (d_any i hΓ ⟨t, r, e1, e2, by rw [e3]; exact k⟩ hN hv) hgx hg he he2 hpl
end
end Y
/-! Y23: optional values narrowed, tuples joined by kinds, xs[::-1], chains of three, tuple(t), items of owned lists at drawn places. -/
namespace Y
open PySem PySem.Spec PyProof.Rows L2
/-- the value of an optional one that is there -/
def optM {α β : Type} (o : Option α) (f : α → M β) : M β := match o with
  | some x => f x
  | none => .stuck
theorem Run.opt {α β : Type} {o : Option α} {f : α → M β} {Φ : β → Prop} {Ψ : Exc → Prop} (h : Run (optM o f) Φ Ψ) : ∃ y, o = some y ∧ Run (f y) Φ Ψ := by
  cases o with
  | some y => exact ⟨y, rfl, h⟩
  | none => exact h.no.elim
theorem Run.optE {α β : Type} {o : Option α} {f : α → M β} {Φ : β → Prop} {Ψ : Exc → Prop} {P : Prop} (h : Run (optM o f) Φ Ψ) (k : ∀ y, o = some y → Run (f y) Φ Ψ → P) : P := by
  obtain ⟨y, e, h⟩ := h.opt
  exact k y e h
def dT6 {α β γ δ ε ζ : Type} (e : α → D) (f : β → D) (g : γ → D) (h : δ → D) (k : ε → D) (l : ζ → D) : α × β × γ × δ × ε × ζ → D := fun p => .tup [e p.1, f p.2.1, g p.2.2.1, h p.2.2.2.1, k p.2.2.2.2.1, l p.2.2.2.2.2]
def dT7 {α β γ δ ε ζ η : Type} (e : α → D) (f : β → D) (g : γ → D) (h : δ → D) (k : ε → D) (l : ζ → D) (m : η → D) : α × β × γ × δ × ε × ζ × η → D := fun p => .tup [e p.1, f p.2.1, g p.2.2.1, h p.2.2.2.1, k p.2.2.2.2.1, l p.2.2.2.2.2.1, m p.2.2.2.2.2.2]
def dT8 {α β γ δ ε ζ η θ : Type} (e : α → D) (f : β → D) (g : γ → D) (h : δ → D) (k : ε → D) (l : ζ → D) (m : η → D) (n : θ → D) : α × β × γ × δ × ε × ζ × η × θ → D := fun p => .tup [e p.1, f p.2.1, g p.2.2.1, h p.2.2.2.1, k p.2.2.2.2.1, l p.2.2.2.2.2.1, m p.2.2.2.2.2.2.1, n p.2.2.2.2.2.2.2]
section
variable {W : Wd} {S : Sco} {T : TC W S} {Γ Δ : Ctx} {Ω Ω' Ω1 : OCtx} {J : JE} {e a b c d o elt tg : Expr} {es : List Expr} {pos p p2 p3 p4 apos cpos : Pos} {α β γ σ : Type} {enc : α → D} {enb : β → D} {eng : γ → D} {Z : Dz} {sts rest : List Stmt} {st : Stmt}
theorem v_varN {J : α → OCtx → Prop} (i : Nat) {x : Str} {v : Option α} {y : α} (hΓ : Γ[i]? = some (some (.dat (dO enc v)))) (hv : v = some y) (k : J y Ω) (hN : S.N[i]? = some x := by rfl) (hvl : S.vl.elem i = true := by rfl) : WV T Γ enc (.Name x pos) Ω J := by
  subst hv
  exact v_var i hΓ k hN hvl
/-- (a, ..) + (b, ..) -/
theorem v_catT {J : γ → OCtx → Prop} (f : α → β → γ) (hf : ∀ x y, ∃ ds es, enc x = .tup ds ∧ enb y = .tup es ∧ eng (f x y) = .tup (ds ++ es) ∧ ds.length ≠ 0 ∧ es.length ≠ 0 ∧ ds.length + es.length ≤ sizeLine)
    (h : WV T Γ enc a Ω fun x Ω1 => WV T Γ enb b Ω1 fun y Ω2 => J (f x y) Ω2) : WV T Γ eng (.BinOp a .Add b pos) Ω J := fun σ H H0 hs sl =>
  of_pe (pe_op op_catA pe_sem pe_sem) (two hs sl h fun x y v u H2 H02 Ω2 j s hs2 r1 r2 => by
    obtain ⟨ds, es, e1, e2, e3, n1, n2, hz⟩ := hf x y
    rw [e1] at r1
    rw [e2] at r2
    cases r1 with
    | @tup p vs _ z1 q1 l1 =>
      cases r2 with
      | @tup q us _ z2 q2 l2 =>
        have m1 := l1.length
        have m2 := l2.length
        refine ⟨p, q, vs, us, rfl, rfl, by rw [T.K]; exact SameT hs2.sub q1, by rw [T.K]; exact SameT hs2.sub q2, by omega, fun e => ?_, fun _ e => ?_, fun _ _ r n => ?_⟩
        · rw [e] at m1; exact absurd m1.symm n1
        · rw [e] at m2; exact absurd m2.symm n2
        · exact .new s hs2 n (is_tup (ds := ds ++ es) (hs2.free0 n) (by rw [List.length_append]; omega) (l1.append l2)) ⟨f x y, by rw [e3], j⟩)
/-- tuple(t), t a tuple of parts of several kinds: t itself -/
theorem v_tupT {J : α → OCtx → Prop} (i : Nat) (hm : W.mg "tuple" = none) (hf : ∀ x, ∃ ds, enc x = .tup ds) (h : WV T Γ enc e Ω J) (hg : S.gl[i]? = some ("tuple" : Str) := by rfl)
    (he : starEach (e :: []) T.X.env = (false, eval e T.X.env) :: starEach [] T.X.env := by rfl) : WV T Γ enc (.Call (.Name "tuple" p) [e] [] pos) Ω J :=
  one_t call_tuple_of hg hm boot_tuple' h (fun σ a Ω1 v H1 H01 H0 s1 hs1 sl ka ⟨x, ea, j⟩ => by
    subst ea
    obtain ⟨ds, ed⟩ := hf x
    have ka' : Is W.K H01 v (.tup ds) := by rw [← ed]; exact ka
    cases ka' with
    | tup z h l => exact ⟨_, _, rfl, .inr ⟨by rw [T.K]; exact SameT hs1.sub h, .mk (enc := enc) s1 hs1 ka j⟩⟩) he
theorem SqAny.stay {xs : List α} {q : Addr} {Ω1 Ω2 : OCtx} {j k : Nat} (e1 : Ω2[k]? = some (q, oL enc xs)) : SqAny enc xs Ω2 (.own q) := .inl (.inr ⟨q, k, rfl, e1⟩)
/-- an owned list's item, the place drawn from another owned thing -/
theorem v_ixO {J : α → OCtx → Prop} {Ψ : Exc → Prop} {x : Str} {q : Addr} {xs : List α} (i j : Nat) (hΓ : Γ[i]? = some (some (.own q))) (h : WV T Γ D.int b Ω fun k Ω2 => Ω2[j]? = some (q, oL enc xs) ∧ Run (idxM xs k) (fun x => J x Ω2) Ψ) (hs : PlainIx b := by exact fun _ _ => rfl)
    (hN : S.N[i]? = some x := by rfl) (hv : S.vl.elem i = true := by rfl) : WV T Γ enc (.Subscript (.Name x p) b pos) Ω J := fun σ H H0 hs0 sl => by
  refine of_pe (pe_ix ix_seq pe_sem pe_sem hs) ?_
  refine sem_mono (e_var (T := T) (Γ := Γ) (J := fun a Ω' => a = .own q ∧ Ω' = Ω) i hN hv hΓ ⟨rfl, rfl⟩ σ H H0 hs0 sl) fun v H1 ⟨H01, ax, Ω1, s1, hs1, kx, e1, e2⟩ => ?_
  subst e1 e2
  refine sem_mono (h σ H1 H01 hs1 (sl.mono s1)) fun u H2 ⟨H02, ay, Ω2, s2, hs2, ky, k, ei, eΩ, h2⟩ => ?_
  subst ei
  cases isI ky
  obtain ⟨y, hx, jj⟩ := idx_run h2
  obtain ⟨q', vs, rfl, lz, c, l⟩ := SqAny.get (.inl (.inr ⟨q, j, rfl, eΩ⟩)) hs2 (kx.mono s2)
  obtain ⟨w, hw, r⟩ := isL_at l hx
  have fin : QE W.K T.G (fun a Ω' => ∃ x, a = .dat (enc x) ∧ J x Ω') H0 w H2 := .mk (s1.trans s2) hs2 r jj
  rcases c with c | c
  · exact .inl ⟨q', vs, k, w, rfl, rfl, by rw [T.K]; exact c, hw, fin⟩
  · exact .inr (.inl ⟨q', vs, k, w, rfl, rfl, by rw [T.K]; exact c, hw, fin⟩)
end
end Y
/-! Y24: xs[::-1], comparisons in a chain of three, isinstance(e, (A, B, ..)) in a suite. -/
namespace Y
open PySem PySem.Spec PyProof.Rows L2
section
variable {X : Cx} {e st : Expr} {te ts : TE} {pos p2 : Pos}
def tRev (K : PySem.W.Frag) (te ts : TE) : TE := fun σ H Q => te σ H fun x H1 => ts σ H1 fun y H2 => y = V.int (-1) ∧ ∃ a xs, x = .ref a ∧ SqL K H2 a xs ∧ ∀ p, H2 p = none → Q (.ref p) (upd H2 p (.lst xs.reverse))
theorem pe_rev (he : PE X e te) (hst : PE X st ts) : PE X (.Subscript e (.Slice none none (some st) p2) pos) (tRev X.K te ts) := by
  refine ⟨fun pins s σ H Q I h => ?_⟩
  refine Subscript_ (thn (he.run pins s σ H _ I h) fun v s1 ⟨x, H1, I1, r1, q1⟩ => ?_)
  refine wpAny_Slice ?_
  rw [evalPart_none]
  refine wpAny_pure ?_
  refine wpAny_pure ?_
  rw [evalPart_some]
  refine thn (hst.run pins s1 σ H1 _ I1 q1) fun vk s3 ⟨y, H3, I3, r3, ey, a, xs, ex, hx, q⟩ => ?_
  subst ey ex
  cases r1
  obtain ⟨t3, rfl⟩ := r3
  have I4 : Inv X pins σ H3 { s3 with heap := s3.heap.push { cls := .type "slice", data := .fields #[.none, .none, .int (-1) t3] } } := I3.kept (t' := s3.toks) fun b ob q => Heap.get?_push_of_some _ q
  obtain ⟨its, r, ht, hz⟩ := I4.list hx
  have hlen := r.length
  show wpAny (model X.prog X.w) X.A (subscriptTail e (.Slice none none (some st) p2) (.ref a) (.ref s3.heap.objs.size)) (EP X pins σ Q) X.xe { s3 with heap := s3.heap.push { cls := .type "slice", data := .fields #[.none, .none, .int (-1) t3] } }
  refine tail_any (ops := [.ref a, .ref s3.heap.objs.size]) ht.isList.typeIs slot_list_getitem.lookup ?_ (by with_unfolding_all rfl)
  refine wpAny_getItem_list_slice ht.isList (Heap.IsSliceOf.new ..) .none .none (.int _ _) (by simp) ?_ (by rw [List.size_toArray] <;> omega)
  rw [PySem.W.krv_pick]
  refine ⟨.ref _, _, I4.laid (t' := s3.toks) (o := .lst xs.reverse) (fun b ob q => Heap.get?_push_of_some _ q) (Nat.le_refl _) ?_, rfl, q _ (I4.hok.fresh (Nat.le_refl _))⟩
  exact ⟨by rw [List.length_reverse]; exact hz, _, 0, (by simpa using r.reverse), Heap.get?_push_size _ rfl⟩
/-- a op1 b op2 c op3 d -/
def tChain3 (r r' r'' : R2) (ta tb tc td : TE) : TE := fun σ H Q => ta σ H fun x H1 => tb σ H1 fun y H2 => r x y H2 fun z H3 => ∃ k, z = .bl k ∧
  (if k = true then tc σ H3 fun w H4 => r' y w H4 fun z' H5 => ∃ k', z' = .bl k' ∧ (if k' = true then td σ H5 fun v H6 => r'' w v H6 Q else Q (.bl false) H5) else Q (.bl false) H3)
variable {a b c d : Expr} {ta tb tc td : TE}
theorem pe_chain3 {op op' op'' : CmpOp} {r r' r'' : R2} (ho : OpR X (compareOp op) r) (ho' : OpR X (compareOp op') r') (ho'' : OpR X (compareOp op'') r'') (ha : PE X a ta) (hb : PE X b tb) (hc : PE X c tc) (hd : PE X d td)
    (hm : lastMarks [op, op', op''] [b, c, d] = false := by with_unfolding_all rfl) : PE X (.Compare a [op, op', op''] [b, c, d] pos) (tChain3 r r' r'' ta tb tc td) := by
  refine ⟨fun pins s σ H Q I h => ?_⟩
  refine Compare_chain (thn (ha.run pins s σ H _ I h) fun v s1 ⟨x, H1, I1, r1, q1⟩ => chain_link (thn (hb.run pins s1 σ H1 _ I1 q1) fun u s2 ⟨y, H2, I2, r2, q2⟩ =>
    thn (ho pins s2 σ H2 x y v u _ I2 r1 r2 q2) fun d s3 ⟨z, H3, I3, r3, k, e, q3⟩ => ?_)) hm
  subst e
  cases r3
  refine wpAny_truthy_bool ?_
  cases k with
  | false => exact ite_ff ⟨.bl false, H3, I3, rfl, q3⟩
  | true =>
    refine ite_tt (chain_link (thn (hc.run pins s3 σ H3 _ I3 q3) fun w s4 ⟨z', H4, I4, r4, q4⟩ => thn (ho' pins s4 σ H4 y z' u w _ I4 r2 r4 q4) fun d' s5 ⟨zz, H5, I5, r5, k', e', q5⟩ => ?_))
    subst e'
    cases r5
    refine wpAny_truthy_bool ?_
    cases k' with
    | false => exact ite_ff ⟨.bl false, H5, I5, rfl, q5⟩
    | true => exact ite_tt (chain_last (thn (hd.run pins s5 σ H5 _ I5 q5) fun w' s6 ⟨z6, H6, I6, r6, q6⟩ => ho'' pins s6 σ H6 z' z6 w w' Q I6 r4 r6 q6))
/-- isinstance(e, (c, ..)), e the exception that the suite holds -/
def rIsYT (K : PySem.W.Frag) (D a : Addr) (d : Option Addr) : List V → Hp → VK → Prop := fun xs H Q => ∃ (tp : Addr) (cs : List V) (us : List Value) (b : Bool), xs = [.ref a, .ref tp] ∧ H tp = some (.tup cs) ∧ Paired ClsV cs us ∧ PySem.W.kitAny K (.ref D) us = some b ∧ (d = none ∨ ∃ dd vs, d = some dd ∧ H dd = some (.xd vs)) ∧ Q (.bl b) H
theorem call_isYT {a D : Addr} {d : Option Addr} {oe : Obj} {pn : List (Addr × Obj)} (C : ExcC X.K D) (hz : Zc (.ref D) d oe) (hf : ∃ vs, oe.data = .fields vs) : CallR (X.suite a ((a, oe) :: pn)) (.builtin "isinstance") (rIsYT X.K D a d) := by
  intro pins s σ H xs us Q I r h
  obtain ⟨tp, cs, ws, b, rfl, hT, hk, e, hd, q⟩ := h
  cases r with
  | cons rx rr =>
    cases rr with
    | cons rt rr =>
      cases rr
      cases rx
      cases rt
      obtain ⟨_, its, rv, o, h1, h2, n, h3⟩ := (show ObjOk (X.suite a ((a, oe) :: pn)).prog (X.suite a ((a, oe) :: pn)).w H s.heap tp (.tup cs) from I.hok tp _ hT)
      have e3 := ClsV.all hk rv
      subst e3
      obtain ⟨oc, od, dt, sl⟩ := o
      simp only at h2 h3
      subst h2 h3
      obtain ⟨hget, _⟩ := I.pin (a, oe) (List.mem_append.mpr (.inl List.mem_cons_self))
      obtain ⟨vs, hv⟩ := hf
      have J : ∃ od, PySem.W.InstAt s.heap a oe D od := by
        rcases hd with hd | ⟨dd, ws, hd, hx⟩
        · refine ⟨none, hget, hz.1, by unfold PySem.W.notCls; rw [hv] <;> rfl, ?_⟩
          rw [hz.2, hd]
          trivial
        · have hx' : ObjOk (X.suite a ((a, oe) :: pn)).prog (X.suite a ((a, oe) :: pn)).w H s.heap dd (.xd ws) := I.hok dd _ hx
          obtain ⟨mA, hns, hr⟩ := hx'
          obtain ⟨od, ho, hl⟩ := lookIn_ns hns
          refine ⟨some od, hget, hz.1, by unfold PySem.W.notCls; rw [hv] <;> rfl, ?_⟩
          rw [hz.2, hd]
          exact ho
      obtain ⟨od, J⟩ := J
      exact PySem.W.kia_tup (PySem.W.y_kit C.hg C.hk C.hs C.hd C.ha C.hn C.ht C.hm) I.kIn J h1 e (fun z => nomatch z) fun tk => ⟨.bl b, H, I.kept (t' := tk) fun _ _ z => z, rfl, q⟩
end
theorem Hs.grow {K : PySem.W.Frag} {G : En} {Ω : OCtx} {H0 H : Hp} {q : Addr} {u : HO} (h : Hs K G Ω H0 H) (n : H q = none) : Hs K G Ω H0 (upd H q u) where
  sub := h.sub.trans (same_upd n)
  base := h.base
  new := h.new
  keep := fun b o e m => same_upd n b o (h.keep b o e m)
  ownT := fun b m => by
    have z := h.ownT b m
    cases e : H b with
    | none => exact absurd e z
    | some o => rw [same_upd n b o e]; exact fun w => nomatch w
  own := fun p o m => by
    obtain ⟨⟨ho, e, k⟩, z⟩ := h.own p o m
    exact ⟨⟨ho, same_upd n p ho e, k⟩, z⟩
  nd := h.nd
section
variable {W : Wd} {S : Sco} {T : TC W S} {Γ Δ : Ctx} {Ω Ω' Ω1 : OCtx} {J : JE} {e a b c d o elt tg : Expr} {es : List Expr} {pos p p2 p3 p4 apos cpos : Pos} {α β γ σ : Type} {enc : α → D} {enb : β → D} {eng : γ → D} {Z : Dz} {sts rest : List Stmt} {st : Stmt}
theorem n_rev {st' : Expr} {J : List α → OCtx → Prop} (h : WL T Γ enc e Ω fun xs Ω1 => WV T Γ D.int st' Ω1 fun k Ω2 => Ω2 = Ω1 ∧ k = -1 ∧ J xs.reverse Ω2) : WN T Γ enc (.Subscript e (.Slice none none (some st') p2) pos) Ω J := fun σ H H0 hs sl =>
  of_pe (pe_rev pe_sem pe_sem) (sem_mono (h σ H H0 hs sl) fun v H1 ⟨H01, ax, Ω1, s1, hs1, ka, xs, lx, h1⟩ => sem_mono (h1 σ H1 H01 hs1 (sl.mono s1)) fun u H2 ⟨H02, ay, Ω2, s2, hs2, kb, k, ek, eΩ, ek2, j⟩ => by
    subst eΩ ek ek2
    cases isI kb
    obtain ⟨p, vs, rfl, z1, e1, l1⟩ := lx.get hs2 (ka.mono s2)
    exact ⟨rfl, p, vs, rfl, by rw [T.K]; exact e1, fun r n => .newN (s1.trans s2) hs2 n (by rw [List.length_reverse]; exact z1) (by rw [List.map_reverse]; exact l1.reverse) j⟩)
theorem chain3_go {op op' op'' : CmpOp} {f g i3 : Int → Int → Bool} {J : Bool → OCtx → Prop} {σ : L2.St} {H H0 : Hp} (hs : Hs W.K T.G Ω H0 H) (sl : Sl W.K Γ H0 σ)
    (h : WV T Γ D.int a Ω fun i Ω1 => WV T Γ D.int b Ω1 fun j Ω2 => ∃ k, WV T Γ D.int c Ω2 (PV k Ω2) ∧ ∃ l, WV T Γ D.int d Ω2 (PV l Ω2) ∧ J (f i j && (g j k && i3 k l)) Ω2) :
    tChain3 (rI0 fun i j => .bl (f i j)) (rI0 fun i j => .bl (g i j)) (rI0 fun i j => .bl (i3 i j)) (sem T.X a) (sem T.X b) (sem T.X c) (sem T.X d) σ H (QE W.K T.G (fun a Ω' => ∃ x, a = .dat (.bl x) ∧ J x Ω') H0) := by
  refine sem_mono (h σ H H0 hs sl) fun v H1 ⟨H01, ax, Ω1, s1, hs1, ka, i, ei, h1⟩ => ?_
  subst ei
  cases isI ka
  refine sem_mono (h1 σ H1 H01 hs1 (sl.mono s1)) fun u H2 ⟨H02, ax, Ω2, s2, hs2, ka, j, ej, k, hc, l, hd, q⟩ => ?_
  subst ej
  cases isI ka
  refine ⟨i, j, rfl, rfl, f i j, rfl, ?_⟩
  cases e : f i j with
  | false =>
    rw [e] at q
    exact ⟨H02, .dat (.bl false), Ω2, s1.trans s2, hs2, Is.bl false, false, rfl, q⟩
  | true =>
    rw [e] at q
    refine sem_mono (hc σ H2 H02 hs2 ((sl.mono s1).mono s2)) fun w H3 ⟨H03, ax, Ω3, s3, hs3, ka, k', ek, e1, e2⟩ => ?_
    subst ek e1 e2
    cases isI ka
    refine ⟨j, k', rfl, rfl, g j k', rfl, ?_⟩
    cases e' : g j k' with
    | false =>
      rw [e'] at q
      exact ⟨H03, .dat (.bl false), _, (s1.trans s2).trans s3, hs3, Is.bl false, false, rfl, q⟩
    | true =>
      rw [e'] at q
      refine sem_mono (hd σ H3 H03 hs3 (((sl.mono s1).mono s2).mono s3)) fun w H4 ⟨H04, ax, Ω4, s4, hs4, ka, l', el, e1, e2⟩ => ?_
      subst el e1 e2
      cases isI ka
      exact ⟨k', l', rfl, rfl, H04, .dat (.bl (i3 k' l')), _, ((s1.trans s2).trans s3).trans s4, hs4, Is.bl _, _, rfl, q⟩
theorem v_chain3 {op op' op'' : CmpOp} {f g i3 : Int → Int → Bool} {J : Bool → OCtx → Prop} (ho : ∀ X : Cx, OpR X (compareOp op) (rI0 fun i j => .bl (f i j))) (ho' : ∀ X : Cx, OpR X (compareOp op') (rI0 fun i j => .bl (g i j))) (ho'' : ∀ X : Cx, OpR X (compareOp op'') (rI0 fun i j => .bl (i3 i j)))
    (h : WV T Γ D.int a Ω fun i Ω1 => WV T Γ D.int b Ω1 fun j Ω2 => ∃ k, WV T Γ D.int c Ω2 (PV k Ω2) ∧ ∃ l, WV T Γ D.int d Ω2 (PV l Ω2) ∧ J (f i j && (g j k && i3 k l)) Ω2) (hm : lastMarks [op, op', op''] [b, c, d] = false := by with_unfolding_all rfl) :
    WV T Γ D.bl (.Compare a [op, op', op''] [b, c, d] pos) Ω J := fun σ H H0 hs sl => of_pe (pe_chain3 (ho T.X) (ho' T.X) (ho'' T.X) pe_sem pe_sem pe_sem pe_sem hm) (chain3_go (op := op) (op' := op') (op'' := op'') hs sl h)
/-- names of classes, and whether an exception of the class at D is one of them -/
structure WCs (T : TC W S) (D0 : Addr) (es : List Expr) (cs : List V) (us : List Value) (b : Bool) : Prop where
  pa : PA T.X es (fun _ H Q => Q cs H)
  cl : Paired ClsV cs us
  kit : PySem.W.kitAny W.K (.ref D0) us = some b
theorem cs_nil {D0 : Addr} : WCs T D0 [] [] [] false := ⟨pa_nil, .nil, rfl⟩
theorem cs_cons {D0 : Addr} {x : Str} {cc : V} {cv : Value} {cs : List V} {us : List Value} {r r' : Bool} (gi : Nat) (hk : IsCls W x cc cv) (hkit : PySem.W.kitOne W.K (.ref D0) cv = some r) (h : WCs T D0 es cs us r') (hgx : S.gl[gi]? = some x := by rfl)
    (he : starEach (.Name x p :: es) T.X.env = (false, eval (.Name x p) T.X.env) :: starEach es T.X.env := by rfl) : WCs T D0 (.Name x p :: es) (cc :: cs) (cv :: us) (r || r') where
  pa := pa_cons (hk.pe hgx) h.pa he
  cl := .cons hk.clsV h.cl
  kit := kitAny_cons hkit (fun z => by rw [z]; exact h.kit) (fun z => by rw [z]; rfl)
theorem v_isET {J : Bool → OCtx → Prop} {D0 : Addr} {d : Option Addr} {a0 : Addr} {fs : List (String × D)} {n : Str} {cs : List V} {us : List Value} {r : Bool} {k : Nat} (i ii : Nat) (hin : InS T a0 (.ref D0) d) (hC : ExcC W.K D0) (hcs : WCs T D0 es cs us r) (hz : cs.length ≤ sizeLine) (hm : W.mg "isinstance" = none)
    (hΓ : Γ[i]? = some (some (.exc a0 d fs))) (kk : J r Ω) (hg : S.gl[ii]? = some ("isinstance" : Str) := by rfl) (hN : S.N[i]? = some n := by rfl) (hv : S.vl.elem i = true := by rfl)
    (he : starEach (.Name n p2 :: [.Tuple es k apos]) T.X.env = (false, eval (.Name n p2) T.X.env) :: starEach [.Tuple es k apos] T.X.env := by rfl) (he2 : starEach (.Tuple es k apos :: []) T.X.env = (false, eval (.Tuple es k apos) T.X.env) :: starEach [] T.X.env := by rfl)
    (hpl : (backTo pos (starEach [.Tuple es k apos] T.X.env)).any (·.1) = false := by rfl) : WV T Γ D.bl (.Call (.Name "isinstance" p) [.Name n p2, .Tuple es k apos] [] pos) Ω J := fun σ H H0 hs sl => by
  obtain ⟨X', oe, pn, eX, hz', hf⟩ := hin
  have hcr : CallR T.X (.builtin "isinstance") (rIsYT W.K D0 a0 d) := by
    have hK := T.K
    rw [eX] at hK ⊢
    have hK' : X'.K = W.K := hK
    rw [← hK'] at hC ⊢
    exact call_isYT hC hz' hf
  refine of_pe (pe_callB hcr (T.gl hg) (T.free hm) boot_isi (pa_cons pe_sem (pa_cons (pe_tup hcs.pa) pa_nil he2) he) (T.ok.glo ii _ hg).2.2 (T.ok.glo ii _ hg).2.1 he hpl) ?_
  refine sem_mono (e_var (T := T) (Γ := Γ) (J := fun a Ω' => a = .exc a0 d fs ∧ Ω' = Ω) i hN hv hΓ ⟨rfl, rfl⟩ σ H H0 hs sl) fun v H1 ⟨H01, ax, Ω1, s1, hs1, ka, e1, e2⟩ => ?_
  subst e1 e2
  obtain ⟨rfl, hd⟩ := ka
  refine ⟨hz, fun q hq => ?_⟩
  refine ⟨q, cs, us, r, rfl, upd_same, hcs.cl, hcs.kit, ?_, .mk (enc := D.bl) s1 (hs1.grow hq) (.bl _) kk⟩
  rcases hd with ⟨_, hd⟩ | ⟨dd, vs, hd, hx, _⟩
  · exact .inl hd
  · exact .inr ⟨dd, vs, hd, same_upd hq _ _ (hs1.sub _ _ hx)⟩
end
end Y
/-! Y25: [*a, *b]; defs with a star parameter; own ==; making with a borrowed list. -/
namespace Y
open PySem PySem.Spec PyProof.Rows L2
section
variable {W : Wd} {S : Sco} {T : TC W S} {Γ Δ : Ctx} {Ω Ω' Ω1 : OCtx} {J : JE} {JA : List As → OCtx → Prop} {e a b c d o elt tg : Expr} {es : List Expr} {pos p p2 p3 p4 apos cpos : Pos} {α β γ σ : Type} {enc : α → D} {enb : β → D} {eng : γ → D} {Z : Dz} {sts rest : List Stmt} {st : Stmt}
theorem AsL.ofIs {K : PySem.W.Frag} {H0 : Hp} : ∀ {vs : List V} {ds : List D}, IsL K H0 vs ds → AsL K H0 vs (ds.map As.dat)
  | _, _, .nil => .nil
  | _, _, .cons h l => .cons h (AsL.ofIs l)
theorem AsL.append {K : PySem.W.Frag} {H0 : Hp} : ∀ {vs us : List V} {as bs : List As}, AsL K H0 vs as → AsL K H0 us bs → AsL K H0 (vs ++ us) (as ++ bs)
  | _, _, _, _, .nil, h => h
  | _, _, _, _, .cons a l, h => .cons a (AsL.append l h)
/-- *e among arguments or items -/
theorem a_star (h : WQ T Γ enc e Ω fun xs Ω1 => WA T Γ es Ω1 fun as Ω2 => JA (xs.map (fun x => As.dat (enc x)) ++ as) Ω2)
    (hn : starEach (.Starred e p :: es) T.X.env = (true, eval e T.X.env) :: starEach es T.X.env := by rfl) : WA T Γ (.Starred e p :: es) Ω JA := fun σ H H0 hs sl => by
  refine of_pa (StX.pa_star pe_sem pa_sem hn) (sem_mono (h σ H H0 hs sl) fun v H1 ⟨H01, ax, Ω1, s1, hs1, ka, xs, sq, h1⟩ => ?_)
  obtain ⟨q, vs, rfl, lz, c, l⟩ := SqAny.get sq hs1 ka
  refine ⟨q, vs, rfl, ?_, semA_mono (h1 σ H1 H01 hs1 (sl.mono s1)) fun us H2 ⟨H02, as, Ω2, s2, hs2, kas, h2⟩ => ⟨H02, _, Ω2, s1.trans s2, hs2, ?_, h2⟩⟩
  · rw [T.K]
    rcases c with c | c
    · exact .inr c
    · exact .inl c
  · have := AsL.ofIs (l.mono s2)
    rw [List.map_map] at this
    exact this.append kas
def lenM (xs : List α) : M (List α) := chk (okLen xs.length) (.ok xs)
/-- [*a, ..] -/
theorem n_lstS {J : List α → OCtx → Prop} {Ψ : Exc → Prop} (h : WA T Γ es Ω fun as Ω1 => ∃ xs : List α, as = xs.map (fun x => As.dat (enc x)) ∧ Run (lenM xs) (fun xs => J xs Ω1) Ψ) : WN T Γ enc (.List es pos) Ω J :=
  n_lst [] fun σ H H0 hs sl => semA_mono (h σ H H0 hs sl) fun vs H1 ⟨H01, as, Ω1, s1, hs1, ka, xs, e1, hr⟩ => by
    obtain ⟨h1, h2⟩ := Run.chk hr
    exact ⟨H01, as, Ω1, s1, hs1, ka, xs, e1, okLen_le h1, h2.get⟩
/-! ### defs with a star parameter -/
theorem FnY.body {α β : Type} {W : Wd} {k : Nat} {qual : Str} {body : List Stmt} {scope : Scope} {f : Addr} {N : List Str} {s : Spc α β} {vl sl : List Nat} {gl : List Str} (ok : ScOk ⟨N, scope, vl, sl, gl, k, true⟩) (B : BodyOk W ⟨N, scope, vl, sl, gl, k, true⟩ body s)
    {cdv : Value} {A : Around} {outer : List Env} {s0 : Shared} {H : Hp} {vs : List V} {Q : VK} {E : XK} (hr : Room k (A.deeper (envOfC qual scope s0.heap.objs.size f cdv))) (h : spOf W.K s vs H Q E) :
    ∃ t, PSs (cxOf (L2.CX W.P W.w) W.P W.w W.K W.mg W.base N qual scope f cdv A outer s0 H E) body t ∧ t { nx := fun _ H' => Q .non H', rt := Q } (L2.start N vs) H := by
  obtain ⟨x, as, Ω, H0, hp, ha, hs, hm⟩ := h
  refine ⟨_, pss_sem, ?_⟩
  let X := cxOf (L2.CX W.P W.w) W.P W.w W.K W.mg W.base N qual scope f cdv A outer s0 H E
  let G := enOf H H0 Ω
  let Ψ : Exc → Prop := fun e => ∀ cls d H' H0', ExcOk W.K H0' e cls d → Hs W.K G (s.xo Ω) H0' H' → E cls d H'
  let xj : XJ := fun e _ Ω' => List.Sublist (s.xo Ω) Ω' ∧ Ψ e
  let T : TC W ⟨N, scope, vl, sl, gl, k, true⟩ := {
    X := X, G := G, xj := xj
    tk := (takes_of (X := X) rfl rfl rfl rfl).imp fun c d σ H' ⟨e, Γ, Ω', H0', a1, a2, _, a4, a5⟩ => by
      exact a5 c d H' H0' a1 (a2.sublist a4)
    hW := rfl, hN := rfl, hsc := rfl, ok := ok, hf := fun _ _ _ _ => .inl rfl, hc := rfl, room := fun _ => hr, pso := passes_of rfl }
  have q := B T ⟨rfl, rfl⟩ x as Ω _ _ hp hm (fun e Γ Ω' z l => ⟨l, z⟩) (L2.start N vs) H H0 hs (sl_start ha)
  refine .mk fun pins s1 I => ?_
  refine thn ((q).run pins s1 I) fun fl s2 z => ?_
  cases fl with
  | next =>
    obtain ⟨σ', H', I', Γ', Ω', H0', _, hs', sl', r, Ω'', p0, p1, p2⟩ := z
    exact ⟨σ', H', I', p2 .non H' H0' _ Ω'' p1 (hs'.sublist p0) Is.non⟩
  | ret u =>
    obtain ⟨v, σ', H', I', rv, a, Ω', H0', hs', ka, r, Ω'', p0, p1, p2⟩ := z
    exact ⟨v, σ', H', I', rv, p2 v H' H0' a Ω'' p1 (hs'.sublist p0) ka⟩
  | brk =>
    obtain ⟨σ', H', I', Γ', Ω', H0', _, hs', sl', r⟩ := z
    exact r.elim
  | cont =>
    obtain ⟨σ', H', I', Γ', Ω', H0', _, hs', sl', r⟩ := z
    exact r.elim
/-- n values ahead, the others in a tuple -/
def spV (n : Nat) (sp : Sp) : Sp := fun vs H Q E => ∃ ws rest, vs = ws ++ rest ∧ ws.length = n ∧ rest.length ≤ sizeLine ∧ ∀ p, H p = none → sp (ws ++ [V.ref p]) (upd H p (.tup rest)) Q E
structure FnV (W : Wd) (k : Nat) (f : Addr) (sp : Sp) : Prop where
  fr : FnR W.P W.w W.K W.mg W.base (L2.CX W.P W.w) k f sp
  kp : PySem.W.keepIn W.K (.ref f) = true
theorem FnV.mono {W : Wd} {j k : Nat} {f : Addr} {sp : Sp} (F : FnV W j f sp) (h : j ≤ k) : FnV W k f sp := ⟨F.fr.mono h, F.kp⟩
theorem FnV.of {α β : Type} {W : Wd} {k : Nat} {x qual pv : Str} {params : Arguments} {body : List Stmt} {scope : Scope} {f : Addr} {fd : FuncData} {N ps : List Str} {s : Spc α β} {vl sl : List Nat} {gl : List Str}
    (F : FunD W.K x qual params body scope [] [] f fd) (S : FnScope N (ps ++ [pv]) scope) (ok : ScOk ⟨N, scope, vl, sl, gl, k, true⟩)
    (hb : ∀ (kV doc pm : Value) (an : Option Addr) (cdv ct : Value) (us rest : List Value), us.length = ps.length → bindArgs (PySem.W.fnOf x qual params body scope .none kV doc pm an cdv ct) ⟨us ++ rest, []⟩ = (newTuple rest >>= fun t => pure (ps.zip us ++ [(pv, t)])))
    (B : BodyOk W ⟨N, scope, vl, sl, gl, k, true⟩ body s) : FnV W (k + 1) f (spV ps.length (spOf W.K s)) := by
  have kp := F.kp
  obtain ⟨oc, od, dV, kV, doc, pm, an, cdv, ct, osl, rfl, lk, hcd, hD, hK⟩ := F.ex
  have hdV : dV = .none := by
    rcases hD with ⟨_, rfl⟩ | ⟨e, _⟩
    · rfl
    · exact absurd rfl e
  subst hdV
  exact ⟨StX.fn_star lk hcd S StX.cxUp (hb kV doc pm an cdv ct) fun A outer s0 H vs Q E hr h => FnY.body ok B hr h, kp⟩
theorem FnV.of1 {α β : Type} {W : Wd} {k : Nat} {x qual p1 pv : Str} {params : Arguments} {body : List Stmt} {scope : Scope} {f : Addr} {fd : FuncData} {N : List Str} {s : Spc α β} {vl sl : List Nat} {gl : List Str}
    (F : FunD W.K x qual params body scope [] [] f fd) (S : FnScope N [p1, pv] scope) (ok : ScOk ⟨N, scope, vl, sl, gl, k, true⟩)
    (h0 : ∀ (kV doc pm : Value) (an : Option Addr) (cdv ct a : Value), bindArgs (PySem.W.fnOf x qual params body scope .none kV doc pm an cdv ct) ⟨[a], []⟩ = (newTuple [] >>= fun t => pure [(p1, a), (pv, t)]))
    (h1 : ∀ (kV doc pm : Value) (an : Option Addr) (cdv ct a r : Value) (rs : List Value), bindArgs (PySem.W.fnOf x qual params body scope .none kV doc pm an cdv ct) ⟨a :: r :: rs, []⟩ = (newTuple (r :: rs) >>= fun t => pure [(p1, a), (pv, t)]))
    (B : BodyOk W ⟨N, scope, vl, sl, gl, k, true⟩ body s) : FnV W (k + 1) f (spV 1 (spOf W.K s)) :=
  FnV.of (ps := [p1]) (pv := pv) F S ok (fun kV doc pm an cdv ct => StX.bind_star1 (B := fun vs => bindArgs (PySem.W.fnOf x qual params body scope .none kV doc pm an cdv ct) ⟨vs, []⟩) (h0 kV doc pm an cdv ct) (h1 kV doc pm an cdv ct)) B
theorem pe_methR0 {X : Cx} {CX : CXT} {k : Nat} {C f : Addr} {m : Str} {sp : Sp} {E : L2.St → XK} {o : Expr} {ta : TE} {apos pos : Pos} {pl : Sem Bool} (he : PE X o ta) (c : Cls X.K C) (hm : Meth X.K C m f)
    (F : FnR X.prog X.w X.K X.mg X.base CX k f sp) (hr : Room k X.A) (hx : ∀ σ, PassesAt CX X σ (E σ))
    (ht : eval (.Call (.Attribute o m apos) [] [] pos) X.env = (do
      let ov ← eval o X.env
      standAt apos.atName
      let (f, first) ← holding [ov] (getMethod ov m pl)
      callWith pos f first (backTo pos (starEach [] X.env)) (backToKw pos (keywordEach [] X.env))) := by rfl) :
    PE X (.Call (.Attribute o m apos) [] [] pos) (fun σ H Q => ta σ H fun x H1 => ∃ a dx fs, x = .ref a ∧ H1 a = some (.ins C dx fs) ∧ fs.lookup m = none ∧ sp [x] H1 Q (E σ)) := by
  refine ⟨fun pins s σ H Q I h => ?_⟩
  refine PySem.W.methodCall_KW (pl := pl) (thn (he.run pins s σ H _ I h) fun u s1 ⟨x, H1, I1, rx, a, dx, fs, ex, ea, l, q⟩ => ?_) ht
  subst ex
  obtain rfl : u = Value.ref a := rx
  refine getmeth_ok I1 ea c hm l ?_
  refine PySem.W.callWith_K0 (first := [.ref a]) I1.kIn hm.kp (wpAny_call (codeAny_mono (F X.A X.stack s1 H1 [.ref a] [.ref a] Q (E σ) hr I1.env0 (.cons rfl .nil) q) fun r s' hq => ?_))
  cases r with
  | error e => exact hx σ pins H1 s1 e s' I1 hq
  | ok fl =>
    cases fl with
    | ret u => exact I1.after hq
    | next => exact False.elim hq
    | brk => exact False.elim hq
    | cont => exact False.elim hq
theorem pe_methRA {X : Cx} {CX : CXT} {k : Nat} {C f : Addr} {m : Str} {sp : Sp} {E : L2.St → XK} {o e : Expr} {es : List Expr} {ta : TE} {t : TA} {apos pos : Pos} {pl : Sem Bool} (he : PE X o ta) (c : Cls X.K C) (hm : Meth X.K C m f)
    (F : FnR X.prog X.w X.K X.mg X.base CX k f sp) (hr : Room k X.A) (hx : ∀ σ, PassesAt CX X σ (E σ)) (ha : PA X (e :: es) t)
    (hst : starEach (e :: es) X.env = (false, eval e X.env) :: starEach es X.env := by rfl) (hpl : (backTo pos (starEach es X.env)).any (·.1) = false := by rfl)
    (ht : eval (.Call (.Attribute o m apos) (e :: es) [] pos) X.env = (do
      let ov ← eval o X.env
      standAt apos.atName
      let (f, first) ← holding [ov] (getMethod ov m pl)
      callWith pos f first (backTo pos (starEach (e :: es) X.env)) (backToKw pos (keywordEach [] X.env))) := by rfl) :
    PE X (.Call (.Attribute o m apos) (e :: es) [] pos) (fun σ H Q => ta σ H fun x H1 => ∃ a dx fs, x = .ref a ∧ H1 a = some (.ins C dx fs) ∧ fs.lookup m = none ∧ t σ H1 fun vs H2 => sp (x :: vs) H2 Q (E σ)) := by
  refine ⟨fun pins s σ H Q I h => ?_⟩
  refine PySem.W.methodCall_KW (pl := pl) (thn (he.run pins s σ H _ I h) fun u s1 ⟨x, H1, I1, rx, a, dx, fs, ex, ea, l, q⟩ => ?_) ht
  subst ex
  obtain rfl : u = Value.ref a := rx
  refine getmeth_ok I1 ea c hm l ?_
  refine PySem.W.callWith_K (first := [.ref a]) (h₀ := X.base) I.ok.mod.kin hm.kp (thn (ha.run pos pins s1 σ H1 _ I1 q) fun us s2 ⟨vs, H2, I2, r, q2⟩ => ⟨I2.kIn, ?_⟩) hst hpl
  refine wpAny_call (codeAny_mono (F X.A X.stack s2 H2 (.ref a :: us) (.ref a :: vs) Q (E σ) hr I2.env0 (.cons rfl r) q2) fun r s' hq => ?_)
  cases r with
  | error e => exact hx σ pins H2 s2 e s' I2 hq
  | ok fl =>
    cases fl with
    | ret u => exact I2.after hq
    | next => exact False.elim hq
    | brk => exact False.elim hq
    | cont => exact False.elim hq
/-- a call whose last arguments go into a tuple -/
theorem CallK.goV {α β : Type} {s : Spc α β} {σ : L2.St} {Ω1 : OCtx} {H01 H1 H0 : Hp} {v0 : V} {vs : List V} {a0 : As} {ds : List D} (h : CallK T Γ s [a0, .dat (.tup ds)] Ω1 J) (hz : ds.length ≤ sizeLine) (s1 : Same H0 H01) (hs1 : Hs W.K T.G Ω1 H01 H1) (sl : Sl W.K Γ H01 σ) (k0 : AsOk W.K H01 a0 v0) (ka : IsL W.K H01 vs ds) :
    spV 1 (spOf W.K s) (v0 :: vs) H1 (QE W.K T.G J H0) (L2.WE (WOf W.K T.G T.xj) σ) := by
  have lz : vs.length ≤ sizeLine := by rw [ka.length]; exact hz
  refine ⟨[v0], vs, rfl, rfl, lz, fun q n => ?_⟩
  have s2 : Same H01 (upd H01 q (.tup vs)) := same_upd (hs1.free0 n)
  exact h.go (s1.trans s2) (hs1.alloc n) (sl.mono s2) (.cons (k0.mono s2) (.cons (is_tup (hs1.free0 n) lz ka) .nil))
theorem e_methV {α β : Type} {s : Spc α β} {k : Nat} {f : Addr} {m : Str} {c : String} {o : Expr} {apos : Pos} (pl : Sem Bool) (F : FnV W k f (spV 1 (spOf W.K s))) (hC : Cls W.K (He.ga W.K (Str.ofString c))) (hM : Meth W.K (He.ga W.K (Str.ofString c)) m f)
    (h : WE T Γ o Ω fun a0 Ω0 => InsAs c m Ω0 a0 ∧ WA T Γ (e :: es) Ω0 fun as Ω1 => ∃ ds : List D, as = ds.map As.dat ∧ ds.length ≤ sizeLine ∧ CallK T Γ s [a0, .dat (.tup ds)] Ω1 J)
    (hk : k ≤ S.lv := by decide) (hc : S.calm = true := by rfl)
    (hst : starEach (e :: es) T.X.env = (false, eval e T.X.env) :: starEach es T.X.env := by exact star_c rfl) (hpl : (backTo pos (starEach es T.X.env)).any (·.1) = false := by exact plain_of rfl)
    (ht : eval (.Call (.Attribute o m apos) (e :: es) [] pos) T.X.env = (do
      let ov ← eval o T.X.env
      standAt apos.atName
      let (f, first) ← holding [ov] (getMethod ov m pl)
      callWith pos f first (backTo pos (starEach (e :: es) T.X.env)) (backToKw pos (keywordEach [] T.X.env))) := by rfl) : WE T Γ (.Call (.Attribute o m apos) (e :: es) [] pos) Ω J := fun σ H H0 hs sl => by
  obtain ⟨fr, kp⟩ := F
  have hW := T.hW
  have tk := T.tk
  have hr : Room k T.X.A := (T.room hc).mono hk
  have core : ∀ (W' : Wd) (eW : (⟨T.X.prog, T.X.w, T.X.K, T.X.mg, T.X.base⟩ : Wd) = W') (sp : Sp), FnR W'.P W'.w W'.K W'.mg W'.base (L2.CX W'.P W'.w) k f sp → Cls W'.K (He.ga W.K (Str.ofString c)) → Meth W'.K (He.ga W.K (Str.ofString c)) m f →
      PE T.X (.Call (.Attribute o m apos) (e :: es) [] pos) (fun σ H Q => sem T.X o σ H fun x H1 => ∃ a dx fs, x = .ref a ∧ H1 a = some (.ins (He.ga W.K (Str.ofString c)) dx fs) ∧ fs.lookup m = none ∧ semA T.X (e :: es) σ H1 fun vs H2 => sp (x :: vs) H2 Q (L2.WE (WOf W.K T.G T.xj) σ)) := fun W' eW sp a hc' hm' => by
    subst eW
    exact pe_methRA (pl := pl) pe_sem hc' hm' a hr (fun σ => passAt tk σ) pa_sem hst hpl ht
  refine of_pe (core W hW _ fr hC hM) (sem_mono (h σ H H0 hs sl) fun v H1 ⟨H01, a0, Ω0, s1, hs1, k0, ia, h1⟩ => ?_)
  obtain ⟨p, dx, fs, rfl, e1, e2⟩ := ia.get hs1 k0
  refine ⟨p, dx, fs, rfl, e1, e2, semA_mono (h1 σ H1 H01 hs1 (sl.mono s1)) fun vs H2 ⟨H02, as, Ω1, s2, hs2, ka, ds, ed, hz, ck⟩ => ?_⟩
  exact ck.goV hz (s1.trans s2) hs2 ((sl.mono s1).mono s2) (k0.mono s2) (ka.dats ed)
theorem e_methV0 {α β : Type} {s : Spc α β} {k : Nat} {f : Addr} {m : Str} {c : String} {o : Expr} {apos : Pos} (pl : Sem Bool) (F : FnV W k f (spV 1 (spOf W.K s))) (hC : Cls W.K (He.ga W.K (Str.ofString c))) (hM : Meth W.K (He.ga W.K (Str.ofString c)) m f)
    (h : WE T Γ o Ω fun a0 Ω0 => InsAs c m Ω0 a0 ∧ CallK T Γ s [a0, .dat (.tup [])] Ω0 J)
    (hk : k ≤ S.lv := by decide) (hc : S.calm = true := by rfl)
    (ht : eval (.Call (.Attribute o m apos) [] [] pos) T.X.env = (do
      let ov ← eval o T.X.env
      standAt apos.atName
      let (f, first) ← holding [ov] (getMethod ov m pl)
      callWith pos f first (backTo pos (starEach [] T.X.env)) (backToKw pos (keywordEach [] T.X.env))) := by rfl) : WE T Γ (.Call (.Attribute o m apos) [] [] pos) Ω J := fun σ H H0 hs sl => by
  obtain ⟨fr, kp⟩ := F
  have hW := T.hW
  have tk := T.tk
  have hr : Room k T.X.A := (T.room hc).mono hk
  have core : ∀ (W' : Wd) (eW : (⟨T.X.prog, T.X.w, T.X.K, T.X.mg, T.X.base⟩ : Wd) = W') (sp : Sp), FnR W'.P W'.w W'.K W'.mg W'.base (L2.CX W'.P W'.w) k f sp → Cls W'.K (He.ga W.K (Str.ofString c)) → Meth W'.K (He.ga W.K (Str.ofString c)) m f →
      PE T.X (.Call (.Attribute o m apos) [] [] pos) (fun σ H Q => sem T.X o σ H fun x H1 => ∃ a dx fs, x = .ref a ∧ H1 a = some (.ins (He.ga W.K (Str.ofString c)) dx fs) ∧ fs.lookup m = none ∧ sp [x] H1 Q (L2.WE (WOf W.K T.G T.xj) σ)) := fun W' eW sp a hc' hm' => by
    subst eW
    exact pe_methR0 (pl := pl) pe_sem hc' hm' a hr (fun σ => passAt tk σ) ht
  refine of_pe (core W hW _ fr hC hM) (sem_mono (h σ H H0 hs sl) fun v H1 ⟨H01, a0, Ω0, s1, hs1, k0, ia, ck⟩ => ?_)
  obtain ⟨p, dx, fs, rfl, e1, e2⟩ := ia.get hs1 k0
  exact ⟨p, dx, fs, rfl, e1, e2, ck.goV (Nat.zero_le _) s1 hs1 (sl.mono s1) k0 .nil⟩
end
end Y
/-! Y26: own ==; making with a borrowed list. -/
namespace Y
open PySem PySem.Spec PyProof.Rows L2
section
variable {X : Cx}
def rEqOwn (C : Addr) (sp : Sp) : R2 := fun x y H Q => ∃ a b dx dy fs gs, x = .ref a ∧ y = .ref b ∧ H a = some (.ins C dx fs) ∧ H b = some (.ins C dy gs) ∧ sp [x, y] H (fun v H' => ∃ r, v = .bl r ∧ Q v H') (fun _ _ _ => False)
theorem op_eqOwn {C f : Addr} {k : Nat} {sp : Sp} (F : FnR X.prog X.w X.K X.mg X.base (L2.CX X.prog X.w) k f sp) (hr : Room k X.A) (hs : PySem.W.findIn X.K (.ref C) "__eq__" = some (some (.ref f))) (hf : PySem.W.isFn X.K (.ref f) = true)
    (hx : Passes (L2.CX X.prog X.w) X (fun _ _ _ => False)) : OpR X (compareOp .Eq) (rEqOwn C sp) := by
  intro pins s σ H x y v u Q I rx ry ⟨a, b, dx, dy, fs, gs, ex, ey, ha, hb', hsp⟩
  subst ex ey
  cases rx
  cases ry
  obtain ⟨mA, J, _⟩ := ins_get I.hok ha
  obtain ⟨mB, J', _⟩ := ins_get I.hok hb'
  obtain ⟨od, J, _⟩ := J.look
  obtain ⟨od', J', _⟩ := J'.look
  obtain ⟨m, hF⟩ := I.fr
  show wpAny (model X.prog X.w) X.A (richCompare .Eq (.ref a) (.ref b)) (EP X pins σ Q) X.xe s
  refine PySem.W.cmp_K (op := .Eq) (tb := .ref C) hr.units0 hF I.ok.mod.kin J J'.type (by simp [PySem.W.notFirst]) hs hf ?_
  have r2 : Vals [V.ref a, V.ref b] [Value.ref a, Value.ref b] := .cons rfl (.cons rfl .nil)
  refine wpAny_call (codeAny_mono (F X.A X.stack s H [.ref a, .ref b] [.ref a, .ref b] _ _ hr I.env0 r2 hsp) fun r s' hq => ?_)
  cases r with
  | error e => exact hx pins σ H s e s' I hq
  | ok fl =>
    cases fl with
    | ret w =>
      obtain ⟨z, H', I', rz, r, ez, q⟩ := I.after hq
      subst ez
      cases rz
      exact ⟨.bl r, H', I', rfl, q⟩
    | next => exact False.elim hq
    | brk => exact False.elim hq
    | cont => exact False.elim hq
theorem passes_no (tk : ∃ W, Takes X W) : Passes (L2.CX X.prog X.w) X (fun _ _ _ => False) := by
  obtain ⟨W, tk⟩ := tk
  intro pins σ H s e s' I c
  exact tk e s' (XE.of_call I (fun _ _ _ h => h.elim) c)
end
section
variable {W : Wd} {S : Sco} {T : TC W S} {Γ Δ : Ctx} {Ω Ω' Ω1 : OCtx} {J : JE} {JA : List As → OCtx → Prop} {e a b c d o elt tg : Expr} {es : List Expr} {pos p p2 p3 p4 apos cpos : Pos} {α β γ σ : Type} {enc : α → D} {enb : β → D} {eng : γ → D} {Z : Dz} {sts rest : List Stmt} {st : Stmt}
theorem FnY.fr {W : Wd} {k : Nat} {f : Addr} {sp : Sp} (F : FnY W k f sp) : FnR W.P W.w W.K W.mg W.base (L2.CX W.P W.w) k f sp := by
  obtain ⟨⟨fd, ps, ds, dvs, sp0, a, b, c, d⟩, kp⟩ := F
  exact (FnOk.raw a b c).imp d
theorem Is.ins {K : PySem.W.Frag} {H0 H : Hp} {v : V} {c : String} {ds : List (String × D)} (h : Is K H0 v (.obj c ds)) (s : Same H0 H) : ∃ a dx fs, v = .ref a ∧ H a = some (.ins (He.ga K (Str.ofString c)) dx fs) := by
  cases h with
  | obj h l => exact ⟨_, _, _, rfl, s _ _ h⟩
/-- x == y by the class's own __eq__ -/
theorem c_eqO {J : Bool → OCtx → Prop} {k : Nat} {f : Addr} {cn : String} {mir : α × β → M Bool} (F : FnY W k f (spOf W.K (sp0 (fun z => [.dat (enc z.1), .dat (enb z.2)]) mir D.bl))) (hM : Meth W.K (He.ga W.K (Str.ofString cn)) "__eq__" f)
    (oa : ∀ x, ∃ ds : List (String × D), enc x = .obj cn ds) (ob : ∀ x, ∃ ds : List (String × D), enb x = .obj cn ds)
    (h : WV T Γ enc a Ω fun x Ω1 => WV T Γ enb b Ω1 fun y Ω2 => Run (mir (x, y)) (fun r => J r Ω2) (fun _ => False)) (hk : k ≤ S.lv := by decide) (hc : S.calm = true := by rfl) : WC T Γ .Eq a b Ω J := fun σ H H0 hs sl => by
  have hW := T.hW
  have hr : Room k T.X.A := (T.room hc).mono hk
  have core : ∀ (W' : Wd) (eW : (⟨T.X.prog, T.X.w, T.X.K, T.X.mg, T.X.base⟩ : Wd) = W') (sp : Sp), FnR W'.P W'.w W'.K W'.mg W'.base (L2.CX W'.P W'.w) k f sp → PySem.W.findIn W'.K (.ref (He.ga W.K (Str.ofString cn))) "__eq__" = some (some (.ref f)) → PySem.W.isFn W'.K (.ref f) = true →
      OpR T.X (compareOp .Eq) (rEqOwn (He.ga W.K (Str.ofString cn)) sp) := fun W' eW sp a b c => by
    subst eW
    exact op_eqOwn a hr b c (passes_no ⟨_, T.tk⟩)
  refine of_op (core W hW _ F.fr hM.at_ hM.fn) (sem_mono (h σ H H0 hs sl) fun v H1 ⟨H01, ax, Ω1, s1, hs1, ka, x, ex, h1⟩ => sem_mono (h1 σ H1 H01 hs1 (sl.mono s1)) fun u H2 ⟨H02, ay, Ω2, s2, hs2, kb, y, ey, hm⟩ => ?_)
  subst ex ey
  obtain ⟨ds, e1⟩ := oa x
  obtain ⟨es, e2⟩ := ob y
  have ka2 : Is W.K H02 v (enc x) := Is.mono s2 ka
  obtain ⟨a1, dx, fs, rfl, i1⟩ := Is.ins (by rw [← e1]; exact ka2) hs2.sub
  obtain ⟨a2, dy, gs, rfl, i2⟩ := Is.ins (by rw [← e2]; exact kb) hs2.sub
  refine ⟨a1, a2, dx, dy, fs, gs, rfl, rfl, i1, i2, (x, y), _, [], H02, ⟨rfl, rfl⟩, .cons ka2 (.cons kb .nil), hs2.entry (fun e m => absurd m List.not_mem_nil) (by simp), hm.mono (fun r j v H' H0' a Ω' z1 z2 z3 => ?_) fun _ z => z.elim⟩
  obtain ⟨z4, z5⟩ := z1
  subst z4 z5
  obtain ⟨h1, _⟩ := hs2.backN (fun e m => absurd m List.not_mem_nil) z2 (Back.nil (Ωn := []))
  have z3' : Is W.K H0' v (.bl r) := z3
  cases z3'
  exact ⟨r, rfl, H0', .dat (.bl r), _, (s1.trans s2).trans z2.base, h1, Is.bl r, r, rfl, j⟩
/-! ### an __init__ that is handed an owned list, read alone -/
def spCb {α β : Type} (c : String) (fl : β → List (String × D)) (args : Addr → Addr → α → List As) (od : α → OD) (mir : α → M β) : Spc α β where
  pre := fun x as Ω => ∃ p q, as = args p q x ∧ Ω = [(p, .ins c []), (q, od x)]
  mir := mir
  post := fun x r Ω a Ω' => ∃ p q, Ω = [(p, .ins c []), (q, od x)] ∧ a = .dat .non ∧ Ω' = [(p, .ins c (datF (fl r))), (q, od x)]
  xo := fun Ω => Ω.drop 1
theorem rCb {α β : Type} {c : String} {fl : β → List (String × D)} {Φ : β → Prop} {Ψ : Exc → Prop} {r : β} {fs : List (String × As)} {p q : Addr} {Ω' : OCtx} {args : Addr → Addr → α → List As} {od : α → OD} {mir : α → M β} {x : α}
    (hm : Run (.ok r) Φ Ψ) (l : List.Sublist [(p, .ins c fs), (q, od x)] Ω') (e : fs = datF (fl r) := by rfl) : ∃ r' Ω'', List.Sublist Ω'' Ω' ∧ (spCb c fl args od mir).post x r' [(p, .ins c []), (q, od x)] (.dat .non) Ω'' ∧ Φ r' := ⟨r, _, l, ⟨p, q, rfl, rfl, by rw [e]⟩, hm.get⟩
/-- what is shown at C(.., xs), xs borrowed -/
def MakeB {α β : Type} (T : TC W S) (Γ : Ctx) (s : Spc α β) (c : String) (as : List As) (Ω1 : OCtx) (J : List (String × As) → OCtx → Prop) : Prop := ∃ (x0 : α) (j : Nat) (q : Addr) (od : OD), Ω1[j]? = some (q, od) ∧ ∀ p, s.pre x0 (.own p :: as) [(p, .ins c []), (q, od)] ∧ s.xo [(p, .ins c []), (q, od)] = [(q, od)] ∧
  Run (s.mir x0) (fun r => ∀ a Ω2, s.post x0 r [(p, .ins c []), (q, od)] a Ω2 → a = .dat .non ∧ ∃ fs, Ω2 = [(p, .ins c fs), (q, od)] ∧ J fs Ω1) (fun e => T.xj e Γ Ω1)
theorem MakeB.go {α β : Type} {s : Spc α β} {c : String} {σ : L2.St} {Ω1 : OCtx} {H01 H1 H0 : Hp} {vs : List V} {as : List As} {J : List (String × As) → OCtx → Prop} (h : MakeB T Γ s c as Ω1 J) (s1 : Same H0 H01) (hs1 : Hs W.K T.G Ω1 H01 H1) (sl : Sl W.K Γ H01 σ) (ka : AsL W.K H01 vs as)
    {x dx : Addr} (nx : H1 x = none) (nd : H1 dx = none) (ne : dx ≠ x) :
    spOf W.K s (.ref x :: vs) (upd (upd H1 dx (.own x)) x (.ins (He.ga W.K (Str.ofString c)) dx [])) (fun v H2 => v = .non ∧ QE W.K T.G (JI T c J) H0 (.ref x) H2) (L2.WE (WOf W.K T.G T.xj) σ) := by
  obtain ⟨x0, j, q, od, ej, h⟩ := h
  obtain ⟨hp, hxo, hm⟩ := h x
  have hs2 := hs1.alloc (o := .own x) nd
  have nx2 : upd H1 dx (.own x) x = none := by rw [upd_ne (Ne.symm ne)]; exact nx
  have hs3 : Hs W.K T.G ((x, OD.ins c []) :: Ω1) (upd H01 dx (.own x)) (upd (upd H1 dx (.own x)) x (.ins (He.ga W.K (Str.ofString c)) dx [])) := hs2.allocOwn nx2 ⟨dx, [], rfl, .nil⟩
  have sd : Same H01 (upd H01 dx (.own x)) := same_upd (hs1.free0 nd)
  have mq : (q, od) ∈ Ω1 := List.mem_of_getElem? ej
  have xq : x ≠ q := fun z => by subst z; exact hs1.notIn nx od mq
  have hin : ∀ e ∈ [(x, OD.ins c []), (q, od)], e ∈ ((x, OD.ins c []) :: Ω1) := fun e m => by
    rcases List.mem_cons.mp m with rfl | m
    · exact List.mem_cons_self ..
    · cases List.mem_singleton.mp m
      exact List.mem_cons_of_mem _ mq
  refine call_go (Ωp := [(x, OD.ins c []), (q, od)]) (Ωx := Ω1) hs3 (sl.mono sd) (.cons (show AsOk W.K (upd H01 dx (.own x)) (.own x) (.ref x) from rfl) (ka.mono sd)) hp hin (by simp [xq]) (fun r u m => ?_) hs1.nd (hm.mono (fun r jj a Ω2 v H' H0' z1 z2 z3 => ?_) fun _ z => z)
  · by_cases w : r = q
    · subst w
      obtain ⟨i, hi⟩ := List.mem_iff_getElem?.mp m
      have := hs1.uniq hi ej
      subst this
      rw [hi] at ej
      cases ej
      exact .inl (by rw [hxo]; exact List.mem_singleton.mpr rfl)
    · refine .inr ⟨List.mem_cons_of_mem _ m, fun z => ?_⟩
      have z' : r = x ∨ r = q := by simpa using z
      rcases z' with z' | z'
      · subst z'
        exact hs1.notIn nx u m
      · exact w z'
  · obtain ⟨e1, fs, e2, jj⟩ := jj a Ω2 z1
    subst e1 e2
    have bk := Back.two (Ωn := []) (Ω1 := (x, OD.ins c []) :: Ω1) (i := 0) (j := j + 1) (od' := OD.ins c fs) (ud' := od) rfl (show ((x, OD.ins c []) :: Ω1)[j + 1]? = some (q, od) from ej) (by omega)
    obtain ⟨h1, _⟩ := hs3.backN (Ωn := []) hin z2 bk
    have eq : ((((x, OD.ins c []) :: Ω1).set 0 (x, OD.ins c fs)).set (j + 1) (q, od)) = (x, OD.ins c fs) :: Ω1 := by
      show (x, OD.ins c fs) :: Ω1.set j (q, od) = _
      rw [set_self ej]
    rw [eq] at h1
    exact ⟨isN z3, H0', .own x, _, (s1.trans sd).trans z2.base, h1, rfl, x, fs, Ω1, rfl, hs1.free nx, rfl, jj⟩
/-- C(.., xs, ..), xs borrowed -/
theorem e_makeB {α β : Type} {s : Spc α β} {k i : Nat} {f : Addr} {x : Str} {c : String} {J : List (String × As) → OCtx → Prop} (F : FnY W k f (spOf W.K s)) (hM : Mk W.K (He.ga W.K (Str.ofString c)) f) (hm : W.mg x = some (.ref (He.ga W.K (Str.ofString c)))) (hg : S.gl[i]? = some x)
    (h : WA T Γ (e :: es) Ω fun as Ω1 => MakeB T Γ s c as Ω1 J)
    (hk : k + 1 ≤ S.lv := by decide) (hc : S.calm = true := by rfl)
    (he : starEach (e :: es) T.X.env = (false, eval e T.X.env) :: starEach es T.X.env := by exact star_c rfl) (hpl : (backTo pos (starEach es T.X.env)).any (·.1) = false := by exact plain_of rfl) : WE T Γ (.Call (.Name x p) (e :: es) [] pos) Ω (JI T c J) := fun σ H H0 hs sl => by
  obtain ⟨⟨fd, ps, ds, dvs, sp0, f1, f2, f3, f4⟩, kp⟩ := F
  have hW := T.hW
  have g := T.gl hg
  have tk := T.tk
  have hr : Room (k + 1) T.X.A := (T.room hc).mono hk
  have core : ∀ (W' : Wd) (eW : (⟨T.X.prog, T.X.w, T.X.K, T.X.mg, T.X.base⟩ : Wd) = W') , FnOk W'.P W'.w W'.K W'.mg W'.base (L2.CX W'.P W'.w) k f fd ps sp0 → Binds W'.K fd ps ds → W'.mg x = some (.ref (He.ga W.K (Str.ofString c))) → Mk W'.K (He.ga W.K (Str.ofString c)) f →
      PE T.X (.Call (.Name x p) (e :: es) [] pos) (tMakeSD (He.ga W.K (Str.ofString c)) sp0 dvs (L2.WE (WOf W.K T.G T.xj)) (semA T.X (e :: es))) := fun W' eW a b c d => by
    subst eW
    exact pe_makeSD d a hr g c b f3 (fun σ => passAt tk σ) pa_sem (T.ok.glo i x hg).2.1 he hpl
  refine of_pe (core W hW f1 f2 hm hM) (semA_mono (h σ H H0 hs sl) fun vs H1 ⟨H01, as, Ω1, s1, hs1, ka, ck⟩ => fun x dx n1 n2 n3 => ?_)
  rw [← List.cons_append]
  exact f4 _ _ _ _ (ck.go s1 hs1 (sl.mono s1) ka n1 n2 n3)
theorem kCb {c : String} {fl : β → List (String × D)} {J : List (String × As) → OCtx → Prop} {args : Addr → Addr → α → List As} {od : α → OD} {mir : α → M β} {as : List As} (x0 : α) (j : Nat) {q : Addr} (ej : Ω1[j]? = some (q, od x0)) (hm : Run (mir x0) (fun r => J (datF (fl r)) Ω1) (fun e => T.xj e Γ Ω1)) (has : ∀ p, .own p :: as = args p q x0 := by intro _; rfl) : MakeB T Γ (spCb c fl args od mir) c as Ω1 J :=
  ⟨x0, j, q, od x0, ej, fun p => ⟨⟨p, q, has p, rfl⟩, rfl, hm.mono (fun r jj a Ω2 ⟨p', q', e0, e1, e2⟩ => by
    have h1 : p = p' ∧ q = q' := by
      injection e0 with e0 e3
      injection e3 with e3
      exact ⟨congrArg Prod.fst e0, congrArg Prod.fst e3⟩
    obtain ⟨rfl, rfl⟩ := h1
    exact ⟨e1, datF (fl r), e2, jj⟩) fun _ z => z⟩⟩
end
end Y
/-! Y27: owned lists handed as data to a callee that keeps none of them: what comes back has no lists in it. -/
namespace Y
open PySem PySem.Spec PyProof.Rows L2
mutual
/-- no list below -/
def nol : D → Bool
  | .lst _ => false
  | .sqs _ => false
  | .tup ds => nols ds
  | .dic kvs => nolk kvs
  | .obj _ fs => nolf fs
  | _ => true
def nols : List D → Bool
  | [] => true
  | d :: ds => nol d && nols ds
def nolk : List (D × D) → Bool
  | [] => true
  | d :: ds => nol d.2 && nolk ds
def nolf : List (String × D) → Bool
  | [] => true
  | d :: ds => nol d.2 && nolf ds
end
/-- a heap without some of the lists -/
def Less (H H' : Hp) : Prop := ∀ b, H' b = H b ∨ ∃ vs, H b = some (.lst vs)
section
variable {K : PySem.W.Frag} {H H' : Hp}
theorem Less.rd (s : Less H H') {a : Addr} {u : HO} (h : Rd H a u) (n : ∀ vs, u ≠ .lst vs) : Rd H' a u := by
  rcases s a with e | ⟨vs, e⟩
  · rcases h with h | ⟨o, h⟩
    · exact .inl (e.trans h)
    · exact .inr ⟨o, e.trans h⟩
  · rcases h with h | ⟨o, h⟩
    · rw [e] at h
      exact absurd (Option.some.inj h).symm (n vs)
    · rw [e] at h
      cases h
theorem Less.sqt (s : Less H H') {a : Addr} {xs : List V} (h : SqT K H a xs) : SqT K H' a xs := by
  rcases h with h | h
  · exact .inl (s.rd h fun _ z => nomatch z)
  · exact .inr h
mutual
theorem Is.less (s : Less H H') : ∀ {v : V} {d : D}, Is K H v d → nol d = true → Is K H' v d
  | _, _, .non, _ => .non
  | _, _, .bl b, _ => .bl b
  | _, _, .int i, _ => .int i
  | _, _, .str x, _ => .str x
  | _, _, .lst z h l, n => by simp [nol] at n
  | _, _, .sqs z h l, n => by simp [nol] at n
  | _, _, .tup z h l, n => .tup z (s.sqt h) (IsL.less s l n)
  | _, _, .dk h l, n => .dk (s.rd h fun _ z => nomatch z) (IsK.less s l n)
  | _, _, .dt h l, n => .dt (s.rd h fun _ z => nomatch z) (IsT.less s l n)
  | _, _, .obj h l, n => .obj (by
      rcases s.rd (.inl h) (fun _ z => nomatch z) with q | ⟨o, q⟩
      · exact q
      · rcases s _ with e | ⟨vs, e⟩
        · rw [← e] at h
          rw [h] at q
          cases q
        · rw [h] at e
          cases e) (IsF.less s l n)
theorem IsL.less (s : Less H H') : ∀ {v : List V} {d : List D}, IsL K H v d → nols d = true → IsL K H' v d
  | _, _, .nil, _ => .nil
  | _, _, .cons h l, n => .cons (Is.less s h (Bool.and_eq_true_iff.mp n).1) (IsL.less s l (Bool.and_eq_true_iff.mp n).2)
theorem IsK.less (s : Less H H') : ∀ {v : List (Key × V)} {d : List (D × D)}, IsK K H v d → nolk d = true → IsK K H' v d
  | _, _, .nil, _ => .nil
  | _, _, .cons h l, n => .cons (Is.less s h (Bool.and_eq_true_iff.mp n).1) (IsK.less s l (Bool.and_eq_true_iff.mp n).2)
theorem IsT.less (s : Less H H') : ∀ {v : List (List Key × V)} {d : List (D × D)}, IsT K H v d → nolk d = true → IsT K H' v d
  | _, _, .nil, _ => .nil
  | _, _, .cons h l, n => .cons (Is.less s h (Bool.and_eq_true_iff.mp n).1) (IsT.less s l (Bool.and_eq_true_iff.mp n).2)
theorem IsF.less (s : Less H H') : ∀ {v : List (Str × V)} {d : List (String × D)}, IsF K H v d → nolf d = true → IsF K H' v d
  | _, _, .nil, _ => .nil
  | _, _, .cons h l, n => .cons (Is.less s h (Bool.and_eq_true_iff.mp n).1) (IsF.less s l (Bool.and_eq_true_iff.mp n).2)
end
end
theorem nols_map {α : Type} {enc : α → D} (h : ∀ x, nol (enc x) = true) : ∀ xs : List α, nols (xs.map enc) = true
  | [] => rfl
  | x :: xs => by
    rw [List.map_cons]
    show (nol (enc x) && nols (xs.map enc)) = true
    rw [h x, nols_map h xs]
    rfl
/-- a kind of data without lists -/
class Nol {α : Type} (enc : α → D) : Prop where
  h : ∀ x, nol (enc x) = true
instance : Nol D.int := ⟨fun _ => rfl⟩
instance : Nol D.bl := ⟨fun _ => rfl⟩
instance : Nol D.str := ⟨fun _ => rfl⟩
instance : Nol dN := ⟨fun _ => rfl⟩
section
variable {α β γ δ ε ζ : Type} {e : α → D} {f : β → D} {g : γ → D} {k : δ → D} {l : ε → D} {m : ζ → D} [he : Nol e] [hf : Nol f] [hg : Nol g] [hk : Nol k] [hl : Nol l] [hm : Nol m]
instance : Nol (dU e) := ⟨fun xs => nols_map he.h xs⟩
instance : Nol (dO e) := ⟨fun x => by cases x with | none => rfl | some x => exact he.h x⟩
instance : Nol (dT2 e f) := ⟨fun x => by simp [dT2, nol, nols, he.h, hf.h]⟩
instance : Nol (dT3 e f g) := ⟨fun x => by simp [dT3, nol, nols, he.h, hf.h, hg.h]⟩
instance : Nol (dT4 e f g k) := ⟨fun x => by simp [dT4, nol, nols, he.h, hf.h, hg.h, hk.h]⟩
instance : Nol (dT5 e f g k l) := ⟨fun x => by simp [dT5, nol, nols, he.h, hf.h, hg.h, hk.h, hl.h]⟩
instance : Nol (dT6 e f g k l m) := ⟨fun x => by simp [dT6, nol, nols, he.h, hf.h, hg.h, hk.h, hl.h, hm.h]⟩
end
/-- an exception whose parts have no lists -/
def M.flatE {α : Type} (m : M α) : M α := match m with
  | .exc e => chk (nolf e.fs) (.exc e)
  | m => m
theorem Run.flatE {α : Type} {m : M α} {Φ : α → Prop} {Ψ : Exc → Prop} (h : Run (M.flatE m) Φ Ψ) : Run m Φ (fun e => nolf e.fs = true ∧ Ψ e) := by
  cases m with
  | ok a => exact .ok h.get
  | exc e =>
    obtain ⟨h1, h2⟩ := Run.chk (show Run (Y.chk (nolf e.fs) (.exc e)) Φ Ψ from h)
    exact .exc ⟨h1, h2.getE⟩
  | stuck => exact h.no.elim
theorem Run.flatNo {α : Type} {m : M α} {Φ : α → Prop} {Ψ : Exc → Prop} (h : Run (M.noexc m) Φ Ψ) : Run m Φ (fun e => nolf e.fs = true ∧ Ψ e) := by
  cases m with
  | ok a => exact .ok h.get
  | exc e => exact h.no.elim
  | stuck => exact h.no.elim
end Y
/-! Y28: calls with owned lists seen as data. -/
namespace Y
open PySem PySem.Spec PyProof.Rows L2
def nolA : As → Bool
  | .dat d => nol d
  | .own _ => true
  | .exc _ _ _ => false
def nolO : OD → Bool
  | .lst as => as.all nolA
  | .dk kvs => kvs.all fun q => nolA q.2
  | .dt kvs => kvs.all fun q => nolA q.2
  | .ins _ fs => fs.all fun q => nolA q.2
theorem AsOk.less {K : PySem.W.Frag} {H H' : Hp} (s : Less H H') : ∀ {a : As} {v : V}, AsOk K H a v → nolA a = true → AsOk K H' a v
  | .dat _, _, h, n => Is.less s h n
  | .own _, _, h, _ => h
  | .exc _ _ _, _, _, n => nomatch n
theorem ODOk.less {K : PySem.W.Frag} {H H' : Hp} (s : Less H H') {od : OD} {ho : HO} (h : ODOk K H od ho) (n : nolO od = true) : ODOk K H' od ho := by
  cases od with
  | lst as =>
    obtain ⟨vs, e, z, l⟩ := h
    refine ⟨vs, e, z, ?_⟩
    have n : as.all nolA = true := n
    clear e z
    induction l with
    | nil => exact .nil
    | cons h l ih =>
      rw [List.all_cons] at n
      obtain ⟨n1, n2⟩ := Bool.and_eq_true_iff.mp n
      exact .cons (h.less s n1) (ih n2 n2)
  | dk kvs =>
    obtain ⟨vs, e, l⟩ := h
    refine ⟨vs, e, ?_⟩
    have n : kvs.all (fun q => nolA q.2) = true := n
    clear e
    induction l with
    | nil => exact .nil
    | cons h l ih =>
      rw [List.all_cons] at n
      obtain ⟨n1, n2⟩ := Bool.and_eq_true_iff.mp n
      exact .cons ⟨h.1, h.2.less s n1⟩ (ih n2 n2)
  | dt kvs =>
    obtain ⟨vs, e, l⟩ := h
    refine ⟨vs, e, ?_⟩
    have n : kvs.all (fun q => nolA q.2) = true := n
    clear e
    induction l with
    | nil => exact .nil
    | cons h l ih =>
      rw [List.all_cons] at n
      obtain ⟨n1, n2⟩ := Bool.and_eq_true_iff.mp n
      exact .cons ⟨h.1, h.2.less s n1⟩ (ih n2 n2)
  | ins c fs =>
    obtain ⟨dx, vs, e, l⟩ := h
    refine ⟨dx, vs, e, ?_⟩
    have n : fs.all (fun q => nolA q.2) = true := n
    clear e
    induction l with
    | nil => exact .nil
    | cons h l ih =>
      rw [List.all_cons] at n
      obtain ⟨n1, n2⟩ := Bool.and_eq_true_iff.mp n
      exact .cons ⟨h.1, h.2.less s n1⟩ (ih n2 n2)
theorem ExcOk.less {K : PySem.W.Frag} {H H' : Hp} (s : Less H H') {e : Exc} {cls : Value} {d : Option Addr} (h : ExcOk K H e cls d) (n : nolf e.fs = true) : ExcOk K H' e cls d := by
  obtain ⟨h1, h2⟩ := h
  refine ⟨h1, ?_⟩
  rcases h2 with h2 | ⟨dd, vs, h2, h3, h4⟩
  · exact .inl h2
  · refine .inr ⟨dd, vs, h2, ?_, IsF.less s h4 n⟩
    rcases s dd with e | ⟨ws, e⟩
    · exact e.trans h3
    · rw [h3] at e
      cases e
/-! ### some owned lists are seen -/
def Vw (Ω1 Ωp : OCtx) (b : Addr) : Prop := (∃ (j : Nat) (as : List As), Ω1[j]? = some (b, .lst as)) ∧ b ∉ Ωp.map (·.1)
open Classical in
noncomputable def upH (Ω1 Ωp : OCtx) (H01 H1 : Hp) : Hp := fun b => if Vw Ω1 Ωp b then H1 b else H01 b
open Classical in
noncomputable def dnH (Ω1 Ωp : OCtx) (H : Hp) : Hp := fun b => if Vw Ω1 Ωp b then none else H b
section
variable {K : PySem.W.Frag} {G : En} {Ω1 Ωp Ω' ΩN : OCtx} {H01 H1 H0' H' : Hp}
theorem up_y {b : Addr} (v : Vw Ω1 Ωp b) : upH Ω1 Ωp H01 H1 b = H1 b := if_pos v
theorem up_n {b : Addr} (v : ¬ Vw Ω1 Ωp b) : upH Ω1 Ωp H01 H1 b = H01 b := if_neg v
theorem dn_y {b : Addr} (v : Vw Ω1 Ωp b) : dnH Ω1 Ωp H0' b = none := if_pos v
theorem dn_n {b : Addr} (v : ¬ Vw Ω1 Ωp b) : dnH Ω1 Ωp H0' b = H0' b := if_neg v
theorem Vw.at (h1 : Hs K G Ω1 H01 H1) {b : Addr} (v : Vw Ω1 Ωp b) : H01 b = none ∧ ∃ vs, H1 b = some (.lst vs) := by
  obtain ⟨⟨j, as, e⟩, _⟩ := v
  obtain ⟨⟨ho, a, k⟩, z, _⟩ := h1.own _ _ (List.mem_of_getElem? e)
  obtain ⟨vs, rfl, _, _⟩ := k
  exact ⟨z, vs, a⟩
theorem up_same (h1 : Hs K G Ω1 H01 H1) : Same H01 (upH Ω1 Ωp H01 H1) := fun b o e => by
  by_cases v : Vw Ω1 Ωp b
  · rw [(v.at h1).1] at e
    cases e
  · rw [up_n v, e]
theorem up_sub (h1 : Hs K G Ω1 H01 H1) : Same (upH Ω1 Ωp H01 H1) H1 := fun b o e => by
  by_cases v : Vw Ω1 Ωp b
  · rw [up_y v] at e
    exact e
  · rw [up_n v] at e
    exact h1.sub _ _ e
theorem Hs.entryV (h1 : Hs K G Ω1 H01 H1) (hp : ∀ e ∈ Ωp, e ∈ Ω1) (nd : (Ωp.map (·.1)).Nodup) : Hs K (enOf H1 (upH Ω1 Ωp H01 H1) Ωp) Ωp (upH Ω1 Ωp H01 H1) H1 where
  sub := up_sub h1
  base := Same.refl _
  new := fun _ _ e => .inl e
  keep := fun _ _ e _ => e
  ownT := fun b m => by
    obtain ⟨⟨q, u⟩, m1, e1⟩ := List.mem_map.mp m
    cases e1
    obtain ⟨⟨ho, e, _⟩, _⟩ := h1.own q u (hp _ m1)
    rw [e]
    intro z
    cases z
  own := fun p o m => by
    obtain ⟨⟨ho, e, k⟩, b, _⟩ := h1.own p o (hp _ m)
    refine ⟨⟨ho, e, k.mono (up_same h1)⟩, ?_, .inl (List.mem_map.mpr ⟨_, m, rfl⟩)⟩
    rw [up_n fun v => v.2 (List.mem_map.mpr ⟨_, m, rfl⟩)]
    exact b
  nd := nd
theorem dn_less (h1 : Hs K G Ω1 H01 H1) (h2 : Hs K (enOf H1 (upH Ω1 Ωp H01 H1) Ωp) Ω' H0' H') : Less H0' (dnH Ω1 Ωp H0') := fun b => by
  by_cases v : Vw Ω1 Ωp b
  · obtain ⟨_, vs, e⟩ := v.at h1
    have : upH Ω1 Ωp H01 H1 b = some (.lst vs) := by rw [up_y v]; exact e
    exact .inr ⟨vs, h2.base _ _ this⟩
  · exact .inl (dn_n v)
theorem dn_base (h1 : Hs K G Ω1 H01 H1) (h2 : Hs K (enOf H1 (upH Ω1 Ωp H01 H1) Ωp) Ω' H0' H') : Same H01 (dnH Ω1 Ωp H0') := fun b o e => by
  by_cases v : Vw Ω1 Ωp b
  · rw [(v.at h1).1] at e
    cases e
  · rw [dn_n v]
    exact h2.base b o (by show upH Ω1 Ωp H01 H1 b = some o; rw [up_n v, e])
/-- behind the call -/
theorem Hs.backV (h1 : Hs K G Ω1 H01 H1) (hp : ∀ e ∈ Ωp, e ∈ Ω1) (h2 : Hs K (enOf H1 (upH Ω1 Ωp H01 H1) Ωp) Ω' H0' H') (hO : ∀ p o, (p, o) ∈ Ω' → nolO o = true)
    (hN : ∀ p o, (p, o) ∈ ΩN → (p, o) ∈ Ω' ∨ ((p, o) ∈ Ω1 ∧ p ∉ Ωp.map (·.1))) (nd : (ΩN.map (·.1)).Nodup) : Hs K G ΩN (dnH Ω1 Ωp H0') H' where
  sub := fun b o e => by
    by_cases v : Vw Ω1 Ωp b
    · rw [dn_y v] at e
      cases e
    · rw [dn_n v] at e
      exact h2.sub _ _ e
  base := h1.base.trans (dn_base h1 h2)
  new := fun b o e => by
    by_cases v : Vw Ω1 Ωp b
    · rw [dn_y v] at e
      cases e
    · rw [dn_n v] at e
      rcases h2.new b o e with q | q
      · have q' : upH Ω1 Ωp H01 H1 b = some o := q
        rw [up_n v] at q'
        exact h1.new b o q'
      · exact .inr (h1.free q)
  keep := fun b o e m => by
    refine h2.keep b o (h1.keep b o e m) fun z => ?_
    obtain ⟨⟨q, u⟩, m1, e1⟩ := List.mem_map.mp z
    cases e1
    rcases (h1.own q u (hp _ m1)).2.2 with w | w
    · exact m w
    · rw [w] at e
      cases e
  ownT := fun b m => by
    by_cases z : b ∈ Ωp.map (·.1)
    · exact h2.ownT b z
    · have n := h1.ownT b m
      cases e : H1 b with
      | none => exact absurd e n
      | some o =>
        rw [h2.keep b o e z]
        intro w
        cases w
  own := fun p o m => by
    rcases hN p o m with q | ⟨q, z⟩
    · obtain ⟨⟨ho, a, k⟩, b, c⟩ := h2.own p o q
      refine ⟨⟨ho, a, k.less (dn_less h1 h2) (hO p o q)⟩, ?_, ?_⟩
      · by_cases v : Vw Ω1 Ωp p
        · exact dn_y v
        · rw [dn_n v]
          exact b
      · rcases c with c | c
        · obtain ⟨⟨q2, u⟩, m1, e1⟩ := List.mem_map.mp c
          cases e1
          exact (h1.own q2 u (hp _ m1)).2.2
        · exact .inr (h1.free c)
    · obtain ⟨⟨ho, e, k⟩, b, c⟩ := h1.own p o q
      refine ⟨⟨ho, h2.keep p ho e z, k.mono (dn_base h1 h2)⟩, ?_, c⟩
      by_cases v : Vw Ω1 Ωp p
      · exact dn_y v
      · rw [dn_n v]
        cases w : H0' p with
        | none => rfl
        | some o' =>
          rcases h2.new p o' w with y | y
          · have y' : upH Ω1 Ωp H01 H1 p = some o' := y
            rw [up_n v, b] at y'
            cases y'
          · have y' : H1 p = none := y
            rw [e] at y'
            cases y'
  nd := nd
theorem Hs.backNV {Ω2 Ωn : OCtx} (h1 : Hs K G Ω1 H01 H1) (hp : ∀ e ∈ Ωp, e ∈ Ω1) (h2 : Hs K (enOf H1 (upH Ω1 Ωp H01 H1) Ωp) Ω2 H0' H') (hO : ∀ p o, (p, o) ∈ Ω2 → nolO o = true) (b : Back Ω1 Ωp Ω2 Ωn ΩN) : Hs K G ΩN (dnH Ω1 Ωp H0') H' ∧ ∀ q ∈ Ωn.map (·.1), G.He q = none := by
  obtain ⟨Ωr, Ω1', rfl, rfl, e1, e2, hm⟩ := b.ex
  have nd2 := h2.nd
  rw [List.map_append] at nd2
  have nn : ∀ q ∈ Ωn.map (·.1), q ∉ Ωp.map (·.1) := fun q m z => by
    rw [← e1] at z
    exact (List.nodup_append.mp nd2).2.2 q m q z rfl
  have fresh : ∀ q ∈ Ωn.map (·.1), H1 q = none := fun q m => by
    obtain ⟨⟨q', u⟩, m1, e1'⟩ := List.mem_map.mp m
    cases e1'
    rcases (h2.own q' u (List.mem_append_left _ m1)).2.2 with w | w
    · exact absurd w (nn _ m)
    · exact w
  refine ⟨h1.backV hp h2 hO (fun p o m => ?_) ?_, fun q m => h1.free (fresh q m)⟩
  · rcases List.mem_append.mp m with q | q
    · exact .inl (List.mem_append_left _ q)
    · rcases hm h1.nd p o q with q | q
      · exact .inl (List.mem_append_right _ q)
      · exact .inr q
  · rw [List.map_append, e2]
    refine List.nodup_append.mpr ⟨(List.nodup_append.mp nd2).1, h1.nd, fun a ha b hb e => ?_⟩
    subst e
    have n := fresh a ha
    obtain ⟨⟨q, u⟩, m1, e1⟩ := List.mem_map.mp hb
    cases e1
    obtain ⟨⟨ho, e, _⟩, _⟩ := h1.own q u m1
    rw [n] at e
    cases e
end
/-- an argument, and what the callee is told of it -/
inductive VwA (Ω1 : OCtx) (ip : List Nat) : As → As → Prop
  | same (a : As) : VwA Ω1 ip a a
  | see {q : Addr} (j : Nat) {ds : List D} : Ω1[j]? = some (q, .lst (ds.map As.dat)) → ip.elem j = false → VwA Ω1 ip (.own q) (.dat (.lst ds))
section
variable {W : Wd} {S : Sco} {T : TC W S} {Γ Δ : Ctx} {Ω Ω' Ω1 : OCtx} {J : JE} {JA : List As → OCtx → Prop} {e a b c d o elt tg : Expr} {es : List Expr} {pos p p2 p3 p4 apos cpos : Pos} {α β γ σ : Type} {enc : α → D} {encb : β → D} {eng : γ → D} {Z : Dz} {sts rest : List Stmt} {st : Stmt}
theorem vw_args {K : PySem.W.Frag} {G : En} {Ω1 Ωp : OCtx} {H01 H1 : Hp} {ip : List Nat} (h1 : Hs K G Ω1 H01 H1) (hip : ∀ e ∈ Ωp, ∃ i, ip.elem i = true ∧ Ω1[i]? = some e) : ∀ {vs : List V} {as as' : List As}, AsL K H01 vs as → Paired (VwA Ω1 ip) as as' → AsL K (upH Ω1 Ωp H01 H1) vs as'
  | _, _, _, .nil, .nil => .nil
  | _, _, _, .cons h l, .cons v w => .cons (by
      cases v with
      | same a => exact h.mono (up_same h1)
      | @see q j ds e n =>
        cases (show _ = V.ref q from h)
        obtain ⟨⟨ho, a, k⟩, z, _⟩ := h1.own _ _ (List.mem_of_getElem? e)
        obtain ⟨vs, rfl, lz, l⟩ := k
        have v : Vw Ω1 Ωp q := ⟨⟨j, _, e⟩, fun m => by
          obtain ⟨⟨q', u⟩, m1, e1⟩ := List.mem_map.mp m
          cases e1
          obtain ⟨i, hi, ei⟩ := hip _ m1
          have := h1.uniq ei e
          subst this
          rw [hi] at n
          cases n⟩
        refine Is.lst lz (by rw [up_y v]; exact a) (IsL.mono (up_same h1) l.dat)) (vw_args h1 hip l w)
theorem call_goV {s : Spc α β} {σ : L2.St} {Ω1 Ωp Ωx : OCtx} {H01 H1 : Hp} {vs : List V} {as as' : List As} {Q : VK} {x0 : α} {ip : List Nat} (hs1 : Hs W.K T.G Ω1 H01 H1) (sl : Sl W.K Γ H01 σ) (ka : AsL W.K H01 vs as) (hv : Paired (VwA Ω1 ip) as as') (hip : ∀ e ∈ Ωp, ∃ i, ip.elem i = true ∧ Ω1[i]? = some e)
    (hp : s.pre x0 as' Ωp) (nd : (Ωp.map (·.1)).Nodup) (hx : ∀ p o, (p, o) ∈ Ωx → (p, o) ∈ s.xo Ωp ∨ ((p, o) ∈ Ω1 ∧ p ∉ Ωp.map (·.1))) (ndx : (Ωx.map (·.1)).Nodup) (hxo : ∀ p o, (p, o) ∈ s.xo Ωp → nolO o = true)
    (hm : Run (s.mir x0) (fun r => ∀ a Ω' v H' H0', s.post x0 r Ωp a Ω' → Hs W.K (enOf H1 (upH Ω1 Ωp H01 H1) Ωp) Ω' H0' H' → AsOk W.K H0' a v → Q v H') (fun e => nolf e.fs = true ∧ T.xj e Γ Ωx)) :
    spOf W.K s vs H1 Q (L2.WE (WOf W.K T.G T.xj) σ) := by
  have hin : ∀ e ∈ Ωp, e ∈ Ω1 := fun e m => by
    obtain ⟨i, _, ei⟩ := hip e m
    exact List.mem_of_getElem? ei
  refine ⟨x0, as', Ωp, upH Ω1 Ωp H01 H1, hp, vw_args hs1 hip ka hv, hs1.entryV hin nd, hm.mono (fun r q v H' H0' a Ω' z1 z2 z3 => q a Ω' v H' H0' z1 z2 z3) fun e ⟨nf, q⟩ cls d H' H0' z1 z2 => ?_⟩
  exact ⟨e, Γ, Ωx, dnH Ω1 Ωp H0', z1.less (dn_less hs1 z2) nf, hs1.backV hin z2 hxo hx ndx, sl.mono (dn_base hs1 z2), q⟩
def CallVw {α β : Type} (T : TC W S) (Γ : Ctx) (s : Spc α β) (as : List As) (Ω1 : OCtx) (J : JE) : Prop := ∃ (x0 : α) (Ωp : OCtx) (as' : List As) (ip : List Nat), Paired (VwA Ω1 ip) as as' ∧ s.pre x0 as' Ωp ∧ (∀ e ∈ Ωp, ∃ i, ip.elem i = true ∧ Ω1[i]? = some e) ∧ (Ωp.map (·.1)).Nodup ∧ s.xo Ωp = Ωp ∧ (∀ p o, (p, o) ∈ Ωp → nolO o = true) ∧
  Run (s.mir x0) (fun r => ∀ a Ω2, s.post x0 r Ωp a Ω2 → nolA a = true ∧ (∀ p o, (p, o) ∈ Ω2 → nolO o = true) ∧ ∃ Ωn ΩN, Back Ω1 Ωp Ω2 Ωn ΩN ∧ ((∀ q ∈ Ωn.map (·.1), T.G.He q = none) → J a ΩN)) (fun e => nolf e.fs = true ∧ T.xj e Γ Ω1)
theorem CallVw.go {s : Spc α β} {σ : L2.St} {Ω1 : OCtx} {H01 H1 H0 : Hp} {vs : List V} {as : List As} (h : CallVw T Γ s as Ω1 J) (s1 : Same H0 H01) (hs1 : Hs W.K T.G Ω1 H01 H1) (sl : Sl W.K Γ H01 σ) (ka : AsL W.K H01 vs as) :
    spOf W.K s vs H1 (QE W.K T.G J H0) (L2.WE (WOf W.K T.G T.xj) σ) := by
  obtain ⟨x0, Ωp, as', ip, hv, hp, hip, nd, hxo, nO, hm⟩ := h
  have hin : ∀ e ∈ Ωp, e ∈ Ω1 := fun e m => by
    obtain ⟨i, _, ei⟩ := hip e m
    exact List.mem_of_getElem? ei
  refine call_goV hs1 sl ka hv hip hp nd (by rw [hxo]; exact keep_all hs1 hin) hs1.nd (by rw [hxo]; exact nO) (hm.mono (fun r q a Ω2 v H' H0' z1 z2 z3 => ?_) fun _ z => z)
  obtain ⟨na, n2, Ωn, ΩN, b, j⟩ := q a Ω2 z1
  obtain ⟨h1, h2⟩ := hs1.backNV hin z2 n2 b
  exact ⟨dnH Ω1 Ωp H0', a, ΩN, s1.trans (dn_base hs1 z2), h1, z3.less (dn_less hs1 z2) na, j h2⟩
/-- f(..), some owned lists seen -/
theorem e_callV {α β : Type} {s : Spc α β} {k i : Nat} {f : Addr} {x : Str} (F : FnY W k f (spOf W.K s)) (hm : W.mg x = some (.ref f)) (hg : S.gl[i]? = some x)
    (h : WA T Γ (e :: es) Ω fun as Ω1 => CallVw T Γ s as Ω1 J)
    (hk : k ≤ S.lv := by decide) (hc : S.calm = true := by rfl)
    (he : starEach (e :: es) T.X.env = (false, eval e T.X.env) :: starEach es T.X.env := by exact star_c rfl) (hpl : (backTo pos (starEach es T.X.env)).any (·.1) = false := by exact plain_of rfl) : WE T Γ (.Call (.Name x p) (e :: es) [] pos) Ω J := fun σ H H0 hs sl => by
  obtain ⟨⟨fd, ps, ds, dvs, sp0, f1, f2, f3, f4⟩, kp⟩ := F
  have hW := T.hW
  have g := T.gl hg
  have tk := T.tk
  have hr : Room k T.X.A := (T.room hc).mono hk
  have core : ∀ (W' : Wd) (eW : (⟨T.X.prog, T.X.w, T.X.K, T.X.mg, T.X.base⟩ : Wd) = W') , FnOk W'.P W'.w W'.K W'.mg W'.base (L2.CX W'.P W'.w) k f fd ps sp0 → Binds W'.K fd ps ds → W'.mg x = some (.ref f) → PySem.W.keepIn W'.K (.ref f) = true →
      PE T.X (.Call (.Name x p) (e :: es) [] pos) (tCallSD sp0 dvs (L2.WE (WOf W.K T.G T.xj)) (semA T.X (e :: es))) := fun W' eW a b c d => by
    subst eW
    exact pe_callSD a hr g c d b f3 (fun σ => passAt tk σ) pa_sem (T.ok.glo i x hg).2.1 he hpl
  refine of_pe (core W hW f1 f2 hm kp) (semA_mono (h σ H H0 hs sl) fun vs H1 ⟨H01, as, Ω1, s1, hs1, ka, ck⟩ => ?_)
  exact f4 _ _ _ _ (ck.go s1 hs1 (sl.mono s1) ka)
theorem e_methW {α β : Type} {s : Spc α β} {k : Nat} {f : Addr} {m : Str} {c : String} {o : Expr} {apos : Pos} (pl : Sem Bool) (F : FnY W k f (spOf W.K s)) (hC : Cls W.K (He.ga W.K (Str.ofString c))) (hM : Meth W.K (He.ga W.K (Str.ofString c)) m f)
    (h : WE T Γ o Ω fun a0 Ω0 => InsAs c m Ω0 a0 ∧ WA T Γ (e :: es) Ω0 fun as Ω1 => CallVw T Γ s (a0 :: as) Ω1 J)
    (hk : k ≤ S.lv := by decide) (hc : S.calm = true := by rfl)
    (hst : starEach (e :: es) T.X.env = (false, eval e T.X.env) :: starEach es T.X.env := by exact star_c rfl) (hpl : (backTo pos (starEach es T.X.env)).any (·.1) = false := by exact plain_of rfl)
    (ht : eval (.Call (.Attribute o m apos) (e :: es) [] pos) T.X.env = (do
      let ov ← eval o T.X.env
      standAt apos.atName
      let (f, first) ← holding [ov] (getMethod ov m pl)
      callWith pos f first (backTo pos (starEach (e :: es) T.X.env)) (backToKw pos (keywordEach [] T.X.env))) := by rfl) : WE T Γ (.Call (.Attribute o m apos) (e :: es) [] pos) Ω J := fun σ H H0 hs sl => by
  obtain ⟨⟨fd, ps, ds, dvs, sp0, f1, f2, f3, f4⟩, kp⟩ := F
  have hW := T.hW
  have tk := T.tk
  have hr : Room k T.X.A := (T.room hc).mono hk
  have core : ∀ (W' : Wd) (eW : (⟨T.X.prog, T.X.w, T.X.K, T.X.mg, T.X.base⟩ : Wd) = W') , FnOk W'.P W'.w W'.K W'.mg W'.base (L2.CX W'.P W'.w) k f fd ps sp0 → Binds W'.K fd ps ds → Cls W'.K (He.ga W.K (Str.ofString c)) → Meth W'.K (He.ga W.K (Str.ofString c)) m f →
      PE T.X (.Call (.Attribute o m apos) (e :: es) [] pos) (tMethSD (He.ga W.K (Str.ofString c)) m sp0 dvs (L2.WE (WOf W.K T.G T.xj)) (sem T.X o) (semA T.X (e :: es))) := fun W' eW a b hc' hm' => by
    subst eW
    exact pe_methSD (pl := pl) pe_sem hc' hm' a hr b f3 (fun σ => passAt tk σ) pa_sem hst hpl ht
  refine of_pe (core W hW f1 f2 hC hM) (sem_mono (h σ H H0 hs sl) fun v H1 ⟨H01, a0, Ω0, s1, hs1, k0, ia, h1⟩ => ?_)
  obtain ⟨p, dx, fs, rfl, e1, e2⟩ := ia.get hs1 k0
  refine ⟨p, dx, fs, rfl, e1, e2, semA_mono (h1 σ H1 H01 hs1 (sl.mono s1)) fun vs H2 ⟨H02, as, Ω1, s2, hs2, ka, ck⟩ => ?_⟩
  have q := ck.go (s1.trans s2) hs2 ((sl.mono s1).mono s2) (.cons (k0.mono s2) ka)
  rw [← List.cons_append]
  exact f4 _ _ _ _ q
/-- C(..), some owned lists seen -/
def MakeVw {α β : Type} (T : TC W S) (Γ : Ctx) (s : Spc α β) (c : String) (as : List As) (Ω1 : OCtx) (J : List (String × As) → OCtx → Prop) : Prop := ∃ (x0 : α) (as' : List As), Paired (VwA Ω1 []) as as' ∧ ∀ q, s.pre x0 (.own q :: as') [(q, .ins c [])] ∧ s.xo [(q, .ins c [])] = [] ∧
  Run (s.mir x0) (fun r => ∀ a Ω2, s.post x0 r [(q, .ins c [])] a Ω2 → a = .dat .non ∧ ∃ fs, Ω2 = [(q, .ins c fs)] ∧ nolO (.ins c fs) = true ∧ J fs Ω1) (fun e => nolf e.fs = true ∧ T.xj e Γ Ω1)
theorem vw_up {Ω1 : OCtx} {z : Addr × OD} : ∀ {as as' : List As}, Paired (VwA Ω1 []) as as' → Paired (VwA (z :: Ω1) [0]) as as'
  | _, _, .nil => .nil
  | _, _, .cons v w => .cons (by
      cases v with
      | same => exact .same _
      | see j e n => exact .see (j + 1) e rfl) (vw_up w)
theorem MakeVw.go {s : Spc α β} {c : String} {σ : L2.St} {Ω1 : OCtx} {H01 H1 H0 : Hp} {vs : List V} {as : List As} {J : List (String × As) → OCtx → Prop} (h : MakeVw T Γ s c as Ω1 J) (s1 : Same H0 H01) (hs1 : Hs W.K T.G Ω1 H01 H1) (sl : Sl W.K Γ H01 σ) (ka : AsL W.K H01 vs as)
    {x dx : Addr} (nx : H1 x = none) (nd : H1 dx = none) (ne : dx ≠ x) :
    spOf W.K s (.ref x :: vs) (upd (upd H1 dx (.own x)) x (.ins (He.ga W.K (Str.ofString c)) dx [])) (fun v H2 => v = .non ∧ QE W.K T.G (JI T c J) H0 (.ref x) H2) (L2.WE (WOf W.K T.G T.xj) σ) := by
  obtain ⟨x0, as', hv, h⟩ := h
  obtain ⟨hp, hxo, hm⟩ := h x
  have hs2 := hs1.alloc (o := .own x) nd
  have nx2 : upd H1 dx (.own x) x = none := by rw [upd_ne (Ne.symm ne)]; exact nx
  have hs3 : Hs W.K T.G ((x, OD.ins c []) :: Ω1) (upd H01 dx (.own x)) (upd (upd H1 dx (.own x)) x (.ins (He.ga W.K (Str.ofString c)) dx [])) := hs2.allocOwn nx2 ⟨dx, [], rfl, .nil⟩
  have sd : Same H01 (upd H01 dx (.own x)) := same_upd (hs1.free0 nd)
  have hip : ∀ e ∈ [(x, OD.ins c [])], ∃ i, [0].elem i = true ∧ ((x, OD.ins c []) :: Ω1)[i]? = some e := fun e m => by
    cases List.mem_singleton.mp m
    exact ⟨0, rfl, rfl⟩
  have hin : ∀ e ∈ [(x, OD.ins c [])], e ∈ ((x, OD.ins c []) :: Ω1) := fun e m => by
    cases List.mem_singleton.mp m
    exact List.mem_cons_self ..
  refine call_goV (Ωp := [(x, OD.ins c [])]) (Ωx := Ω1) (ip := [0]) hs3 (sl.mono sd) (.cons (show AsOk W.K (upd H01 dx (.own x)) (.own x) (.ref x) from rfl) (ka.mono sd)) (.cons (.same _) (vw_up hv)) hip hp (by simp) (fun q u m => .inr ⟨List.mem_cons_of_mem _ m, fun z => ?_⟩) hs1.nd (by rw [hxo]; exact fun _ _ m => absurd m List.not_mem_nil) (hm.mono (fun r q a Ω2 v H' H0' z1 z2 z3 => ?_) fun _ z => z)
  · have z' : q = x := by simpa using z
    subst z'
    exact hs1.notIn nx u m
  · obtain ⟨e1, fs, e2, nf, j⟩ := q a Ω2 z1
    subst e1 e2
    obtain ⟨h1, _⟩ := hs3.backNV (Ωn := []) (ΩN := (x, OD.ins c fs) :: Ω1) hin z2 (fun p o m => by cases List.mem_singleton.mp m; exact nf) (Back.one (Ωn := []) (Ω1 := (x, OD.ins c []) :: Ω1) (j := 0) (od' := OD.ins c fs) rfl)
    exact ⟨isN z3, _, .own x, _, (s1.trans sd).trans (dn_base hs3 z2), h1, rfl, x, fs, Ω1, rfl, hs1.free nx, rfl, j⟩
theorem e_makeV {α β : Type} {s : Spc α β} {k i : Nat} {f : Addr} {x : Str} {c : String} {J : List (String × As) → OCtx → Prop} (F : FnY W k f (spOf W.K s)) (hM : Mk W.K (He.ga W.K (Str.ofString c)) f) (hm : W.mg x = some (.ref (He.ga W.K (Str.ofString c)))) (hg : S.gl[i]? = some x)
    (h : WA T Γ (e :: es) Ω fun as Ω1 => MakeVw T Γ s c as Ω1 J)
    (hk : k + 1 ≤ S.lv := by decide) (hc : S.calm = true := by rfl)
    (he : starEach (e :: es) T.X.env = (false, eval e T.X.env) :: starEach es T.X.env := by exact star_c rfl) (hpl : (backTo pos (starEach es T.X.env)).any (·.1) = false := by exact plain_of rfl) : WE T Γ (.Call (.Name x p) (e :: es) [] pos) Ω (JI T c J) := fun σ H H0 hs sl => by
  obtain ⟨⟨fd, ps, ds, dvs, sp0, f1, f2, f3, f4⟩, kp⟩ := F
  have hW := T.hW
  have g := T.gl hg
  have tk := T.tk
  have hr : Room (k + 1) T.X.A := (T.room hc).mono hk
  have core : ∀ (W' : Wd) (eW : (⟨T.X.prog, T.X.w, T.X.K, T.X.mg, T.X.base⟩ : Wd) = W') , FnOk W'.P W'.w W'.K W'.mg W'.base (L2.CX W'.P W'.w) k f fd ps sp0 → Binds W'.K fd ps ds → W'.mg x = some (.ref (He.ga W.K (Str.ofString c))) → Mk W'.K (He.ga W.K (Str.ofString c)) f →
      PE T.X (.Call (.Name x p) (e :: es) [] pos) (tMakeSD (He.ga W.K (Str.ofString c)) sp0 dvs (L2.WE (WOf W.K T.G T.xj)) (semA T.X (e :: es))) := fun W' eW a b c d => by
    subst eW
    exact pe_makeSD d a hr g c b f3 (fun σ => passAt tk σ) pa_sem (T.ok.glo i x hg).2.1 he hpl
  refine of_pe (core W hW f1 f2 hm hM) (semA_mono (h σ H H0 hs sl) fun vs H1 ⟨H01, as, Ω1, s1, hs1, ka, ck⟩ => fun x dx n1 n2 n3 => ?_)
  rw [← List.cons_append]
  exact f4 _ _ _ _ (ck.go s1 hs1 (sl.mono s1) ka n1 n2 n3)
/-! what a caller shows -/
theorem kv0 {args : α → List As} {mir : α → M β} [hn : Nol encb] {as : List As} (x0 : α) (hv : Paired (VwA Ω1 []) as (args x0)) (hm : Run (mir x0) (fun r => J (.dat (encb r)) Ω1) (fun e => nolf e.fs = true ∧ T.xj e Γ Ω1)) : CallVw T Γ (sp0 args mir encb) as Ω1 J :=
  ⟨x0, [], args x0, [], hv, ⟨rfl, rfl⟩, fun e m => absurd m List.not_mem_nil, List.nodup_nil, rfl, fun p o m => absurd m List.not_mem_nil, hm.mono (fun r j a Ω2 ⟨e1, e2⟩ => by
    subst e1 e2
    exact ⟨hn.h r, fun p o m => absurd m List.not_mem_nil, [], Ω1, Back.nil, fun _ => j⟩) fun _ z => z⟩
theorem nol_oL [hn : Nol enc] (xs : List α) : nolO (oL enc xs) = true := by
  show (xs.map fun x => As.dat (enc x)).all nolA = true
  induction xs with
  | nil => rfl
  | cons x xs ih =>
    rw [List.map_cons, List.all_cons, ih]
    show (nol (enc x) && true) = true
    rw [hn.h x]
    rfl
theorem kv1 {args : Addr → α → List As} {od : α → OD} {mir : α → M (β × σ)} {od' : σ → OD} [hn : Nol encb] {as : List As} (x0 : α) (j : Nat) {q : Addr} (ej : Ω1[j]? = some (q, od x0)) (hv : Paired (VwA Ω1 [j]) as (args q x0)) (n1 : nolO (od x0) = true) (n2 : ∀ s, nolO (od' s) = true)
    (hm : Run (mir x0) (fun r => J (.dat (encb r.1)) (Ω1.set j (q, od' r.2))) (fun e => nolf e.fs = true ∧ T.xj e Γ Ω1)) : CallVw T Γ (sp1 args od mir encb od') as Ω1 J :=
  ⟨x0, [(q, od x0)], args q x0, [j], hv, ⟨q, rfl, rfl⟩, fun e m => ⟨j, by simp, by cases List.mem_singleton.mp m; exact ej⟩, by simp, rfl, fun p o m => by cases List.mem_singleton.mp m; exact n1, hm.mono (fun r jj a Ω2 ⟨p', e0, e1, e2⟩ => by
    have : q = p' := by injection e0 with e0; exact congrArg Prod.fst e0
    subst this e1 e2
    exact ⟨hn.h r.1, fun p o m => by cases List.mem_singleton.mp m; exact n2 r.2, [], _, Back.one (Ωn := []) ej, fun _ => jj⟩) fun _ z => z⟩
theorem kvC {c : String} {fl : β → List (String × D)} {J : List (String × As) → OCtx → Prop} {args : Addr → α → List As} {mir : α → M β} {as : List As} (x0 : α) (as' : List As) (hv : Paired (VwA Ω1 []) as as') (nf : ∀ r, nolf (fl r) = true) (hm : Run (mir x0) (fun r => J (datF (fl r)) Ω1) (fun e => nolf e.fs = true ∧ T.xj e Γ Ω1)) (has : ∀ q, .own q :: as' = args q x0 := by intro _; rfl) : MakeVw T Γ (spC c fl args mir) c as Ω1 J :=
  ⟨x0, as', hv, fun q => ⟨⟨q, has q, rfl⟩, rfl, hm.mono (fun r j a Ω2 ⟨p', e0, e1, e2⟩ => by
    have : q = p' := by injection e0 with e0; exact congrArg Prod.fst e0
    subst this
    refine ⟨e1, datF (fl r), e2, ?_, j⟩
    have := nf r
    show (datF (fl r)).all (fun q => nolA q.2) = true
    generalize fl r = l at this
    clear e2 j
    induction l with
    | nil => rfl
    | cons x xs ih =>
      obtain ⟨n1, n2⟩ := Bool.and_eq_true_iff.mp this
      show (nol x.2 && (datF xs).all (fun q => nolA q.2)) = true
      rw [n1, ih n2]
      rfl) fun _ z => z⟩⟩
theorem vw_see {q : Addr} {ip : List Nat} (j : Nat) {xs : List α} (e : Ω1[j]? = some (q, oL enc xs)) (n : ip.elem j = false) : VwA Ω1 ip (.own q) (.dat (dL enc xs)) := .see j (by rw [e]; unfold oL; rw [List.map_map]; rfl) n
end
end Y
/-! Y29: xs + ys where the second is drawn, len of a tuple of parts, isinstance of instances. -/
namespace Y
open PySem PySem.Spec PyProof.Rows L2
/-- a class whose instances isinstance looks at -/
structure InsK (K : PySem.W.Frag) (C : Addr) : Prop where
  cl : Cls K C
  ha : PySem.W.findIn K (.ref C) "__class__" = some (some (.builtin "object.__class__"))
  hn : PySem.W.specialIn K (.builtin "object.__class__") "__get__" = some (some (.builtin "getset_descriptor.__get__"))
  ht : PySem.W.takesIn K (.builtin "object.__class__") = some true
  hm : PySem.W.mroIn K C (.type "object") = some true
section
variable {W : Wd} {S : Sco} {T : TC W S} {Γ Δ : Ctx} {Ω Ω' Ω1 : OCtx} {J : JE} {JA : List As → OCtx → Prop} {e a b c d o elt tg : Expr} {es : List Expr} {pos p p2 p3 p4 apos cpos : Pos} {α β γ σ : Type} {enc : α → D} {encb : β → D} {eng : γ → D} {Z : Dz} {sts rest : List Stmt} {st : Stmt}
/-- xs + ys, xs standing: ys may be drawn -/
theorem n_catV {J : List α → OCtx → Prop} {Ψ : Exc → Prop} (h : WV T Γ (dL enc) a Ω fun xs Ω1 => WX T Γ enc b Ω1 fun ys Ω2 => Run (catM xs ys) (fun zs => J zs Ω2) Ψ) : WN T Γ enc (.BinOp a .Add b pos) Ω J := fun σ H H0 hs sl =>
  of_pe (pe_op op_cat pe_sem pe_sem) (sem_mono (h σ H H0 hs sl) fun v H1 ⟨H01, ax, Ω1, s1, hs1, ka, xs, lx, h1⟩ => sem_mono (h1 σ H1 H01 hs1 (sl.mono s1)) fun u H2 ⟨H02, ay, Ω2, s2, hs2, kb, ys, ly, hr⟩ => by
    subst lx
    obtain ⟨p, vs, rfl, z1, e1, l1⟩ := (show LstAs enc xs Ω2 (.dat (dL enc xs)) from .inl rfl).get hs2 (ka.mono s2)
    obtain ⟨q, us, rfl, z2, e2, l2⟩ := ly.get hs2 kb
    obtain ⟨h3, h4⟩ := chk_ok hr
    have h3 := of_decide_eq_true h3
    have n1 : vs.length = xs.length := by rw [l1.length, List.length_map]
    have n2 : us.length = ys.length := by rw [l2.length, List.length_map]
    exact ⟨p, q, vs, us, rfl, rfl, e1, e2, by omega, fun r n => .newN (s1.trans s2) hs2 n (by rw [List.length_append]; omega) (by rw [List.map_append]; exact l1.append l2) h4⟩)
/-- a tuple of parts of several kinds, as a sequence of data -/
theorem q_tupD {J : List D → OCtx → Prop} (f : α → List D) (hf : ∀ x, enc x = .tup (f x)) (h : WV T Γ enc e Ω fun x Ω1 => J (f x) Ω1) : WQ T Γ (fun d => d) e Ω J := WE.imp h fun a Ω' ⟨x, ea, j⟩ => ⟨f x, .inr (by rw [ea, hf x, List.map_id']), j⟩
/-- isinstance(x, C), x an instance -/
theorem v_isO {J : Bool → OCtx → Prop} {x : Str} {cn : String} {cc : V} {cv : Value} {r : Bool} (gi ii : Nat) (hm : W.mg "isinstance" = none) (hI : InsK W.K (He.ga W.K (Str.ofString cn))) (hk : IsCls W x cc cv) (hkit : PySem.W.kitOne W.K (.ref (He.ga W.K (Str.ofString cn))) cv = some r)
    (oa : ∀ x, ∃ ds : List (String × D), enc x = .obj cn ds) (h : WV T Γ enc e Ω fun _ Ω1 => J r Ω1)
    (hgx : S.gl[gi]? = some x) (hg : S.gl[ii]? = some ("isinstance" : Str) := by rfl)
    (he : starEach (e :: [.Name x apos]) T.X.env = (false, eval e T.X.env) :: starEach [.Name x apos] T.X.env := by rfl) (he2 : starEach (.Name x apos :: []) T.X.env = (false, eval (.Name x apos) T.X.env) :: starEach [] T.X.env := by rfl)
    (hpl : (backTo pos (starEach [.Name x apos] T.X.env)).any (·.1) = false := by rfl) : WV T Γ D.bl (.Call (.Name "isinstance" p) [e, .Name x apos] [] pos) Ω J := fun σ H H0 hs sl => by
  refine of_pe (pe_callB call_isi (T.gl hg) (T.free hm) boot_isi (pa_cons pe_sem (pa_cons (hk.pe hgx) pa_nil he2) he) (T.ok.glo ii _ hg).2.2 (T.ok.glo ii _ hg).2.1 he hpl) ?_
  refine sem_mono (h σ H H0 hs sl) fun v H1 ⟨H01, ax, Ω1, s1, hs1, ka, y, ea, j⟩ => ?_
  subst ea
  obtain ⟨ds, e1⟩ := oa y
  have ka' : Is W.K H01 v (.obj cn ds) := by rw [← e1]; exact ka
  obtain ⟨q, dx, fs, rfl, i1⟩ := Is.ins ka' hs1.sub
  exact ⟨.ref q, cc, _, cv, r, rfl, hk.clsV, by rw [T.K]; exact .base (.ins i1 hI.cl hI.ha hI.hn hI.ht hI.hm), by rw [T.K]; exact hkit, .mk (enc := D.bl) s1 hs1 (.bl _) j⟩
end
def ikB (K : Fr) (C : Addr) : Bool := He.eqO (PySem.W.findIn K (.ref C) "__class__") (some (some (.builtin "object.__class__"))) && (He.eqO (PySem.W.specialIn K (.builtin "object.__class__") "__get__") (some (some (.builtin "getset_descriptor.__get__"))) &&
  (decide (PySem.W.takesIn K (.builtin "object.__class__") = some true) && decide (PySem.W.mroIn K C (.type "object") = some true)))
theorem ikB_ok {K : Fr} {C : Addr} (h : ikB K C = true) (c : Cls K C) : InsK K C := by
  unfold ikB at h
  obtain ⟨h1, h⟩ := Bool.and_eq_true_iff.mp h
  obtain ⟨h2, h⟩ := Bool.and_eq_true_iff.mp h
  obtain ⟨h3, h4⟩ := Bool.and_eq_true_iff.mp h
  exact ⟨c, He.eqO_ok h1, He.eqO_ok h2, of_decide_eq_true h3, of_decide_eq_true h4⟩
end Y
/-! Y30: comprehensions whose elements are drawn. -/
namespace Y
open PySem PySem.Spec PyProof.Rows L2
def mapS {α β σ : Type} : List α → σ → (α → σ → M (β × σ)) → M (List β × σ)
  | [], s, _ => .ok ([], s)
  | x :: xs, s, f => M.bind (f x s) fun y => M.bind (mapS xs y.2 f) fun z => .ok (y.1 :: z.1, z.2)
theorem mapS_comp {α β σ : Type} (f : α → σ → M (β × σ)) : ∀ (xs : List α) (s : σ), mapS xs s f = compM xs s fun x s => M.bind (f x s) fun y => .ok (some y.1, y.2)
  | [], s => rfl
  | x :: xs, s => by
    unfold mapS compM
    dsimp only
    cases e : f x s with
    | ok y =>
      simp only [M.bind]
      rw [mapS_comp f xs y.2]
      simp only [M.bind]
    | exc e => rfl
    | stuck => rfl
section
variable {W : Wd} {S : Sco} {T : TC W S} {Γ Δ : Ctx} {Ω Ω' Ω1 : OCtx} {J : JE} {JA : List As → OCtx → Prop} {e a b c d o elt tg : Expr} {es : List Expr} {pos p p2 p3 p4 apos cpos : Pos} {α β γ σ : Type} {enc : α → D} {enb : β → D} {eng : γ → D} {Z : Dz} {sts rest : List Stmt} {st : Stmt}
theorem CompOk.mapS {scope : Scope} {own : List (Str × Nat)} {vl : List Nat} {gl : List Str} {xs : List α} {f : α → σ → M (β × σ)} {s0 : σ} {Φ : List β × σ → Prop} {Ψ : Exc → Prop} (ΩS : σ → OCtx) (hm : Run (Y.mapS xs s0 f) Φ Ψ) (o0 : Ω = ΩS s0)
    (hb : ∀ x s (Φ' : β × σ → Prop), x ∈ xs → Run (f x s) Φ' Ψ → ∀ (T1 : TC W (blkS S scope own vl gl)) q (o : OD), T1.G = T.G → WG T1 (wipeC Γ (own.map (·.2))) tg (enc x) fun Γ2 =>
      ∀ (T3 : TC W (blkS S scope own vl gl)), T3.G = T.G → WV T3 Γ2 enb elt ((q, o) :: ΩS s) fun y Ω3 => ∃ s', Ω3 = (q, o) :: ΩS s' ∧ Φ' (y, s'))
    (hd : ∀ z, Φ z → ∀ q, T.G.He q = none → J (.own q) ((q, oL enb z.1) :: ΩS z.2)) : CompOk T scope own vl gl tg [] elt enc enb xs Γ Ω J := by
  rw [mapS_comp] at hm
  refine CompOk.st ΩS hm o0 (fun x s Φ' hx r T1 q o g1 => ?_) (fun ys s h => hd (ys, s) h)
  have g := hb x s (fun y => Φ' (some y.1, y.2)) hx ((Run.bind r).mono (fun _ z => z.get) fun _ z => z) T1 q o g1
  intro σ' H H0 v hs sl k
  refine .mk fun pins s1 u I rv => ?_
  refine thn ((g σ' H H0 v hs sl k).run pins s1 u I rv) fun _ s' ⟨σ2, H2, I2, eH, eo, Γ2, sl2, q2⟩ => ⟨σ2, H2, I2, eH, eo, Γ2, sl2, fun T2 e2 => ?_⟩
  exact f_nil ⟨fun _ T3 e3 => q2 T3 e3, fun h => nomatch h⟩
theorem v_catTM {J : γ → OCtx → Prop} {Ψ : Exc → Prop} (f : α → β → γ) (hf : ∀ x y, ∃ ds es, enc x = .tup ds ∧ enb y = .tup es ∧ eng (f x y) = .tup (ds ++ es) ∧ ds.length ≠ 0 ∧ es.length ≠ 0 ∧ ds.length + es.length ≤ sizeLine)
    (h : WV T Γ enc a Ω fun x Ω1 => WV T Γ enb b Ω1 fun y Ω2 => Run (.ok (f x y)) (fun z => J z Ω2) Ψ) : WV T Γ eng (.BinOp a .Add b pos) Ω J := v_catT f hf (WV.imp h fun _ _ h => WV.imp h fun _ _ h => h.get)
theorem s_asgM {tg : Expr} {Ψ : Exc → Prop} (h : WV T Γ enc e Ω fun x Ω1 => Run (.ok x) (fun x => WG T Γ tg (enc x) fun Γ' => Z.nx Γ' Ω1) Ψ) (hs : swapsWithSole [tg] e pos.line T.X.env = pure false := by rfl) (hw : swappedStores [tg] e T.X.env = pure none := by rfl) (h1 : (assignEach [tg] T.X.env).map (·.2) = [assign tg T.X.env] := by rfl) : WS T Γ (.Assign [tg] e pos) Ω Z :=
  s_asgG (WV.imp h fun _ _ h => h.get) hs hw h1
end
end Y
/-! P1: plain rules for mirrors: Ok m Φ, m ends well and Φ holds of its value. -/
namespace Y
open PySem PySem.Spec PyProof.Rows L2
section
variable {α β γ σ ρ τ : Type}
def Ok (m : M α) (Φ : α → Prop) : Prop := ∃ a, m = .ok a ∧ Φ a
theorem Ok.of {a : α} {Φ : α → Prop} (h : Φ a) : Ok (.ok a) Φ := ⟨a, rfl, h⟩
theorem Ok.eq {m : M α} {a : α} (h : m = .ok a) : Ok m (· = a) := ⟨a, h, rfl⟩
theorem Ok.imp {m : M α} {Φ Ψ : α → Prop} (h : Ok m Φ) (k : ∀ a, Φ a → Ψ a) : Ok m Ψ := by
  obtain ⟨a, e, f⟩ := h
  exact ⟨a, e, k a f⟩
theorem Ok.bind {m : M α} {k : α → M β} {Φ : α → Prop} {Ψ : β → Prop} (h : Ok m Φ) (c : ∀ a, Φ a → Ok (k a) Ψ) : Ok (M.bind m k) Ψ := by
  obtain ⟨a, e, f⟩ := h
  rw [e]
  exact c a f
theorem Ok.noexc {m : M α} {Φ : α → Prop} (h : Ok m Φ) : Ok m.noexc Φ := by
  obtain ⟨a, e, f⟩ := h
  rw [e]
  exact ⟨a, rfl, f⟩
theorem Ok.chk {b : Bool} {m : M α} {Φ : α → Prop} (hb : b = true) (h : Ok m Φ) : Ok (chk b m) Φ := by
  subst hb
  exact h
theorem Ok.ite {b : Bool} {m n : M α} {Φ : α → Prop} (h1 : b = true → Ok m Φ) (h2 : b = false → Ok n Φ) : Ok (bif b then m else n) Φ := by
  cases b with
  | true => exact h1 rfl
  | false => exact h2 rfl
/- no rfl proofs here: simp would leave the whole to the kernel's unfolding, which runs the mirrors -/
theorem bind_ok {a : α} {k : α → M β} : M.bind (.ok a) k = k a := by
  have h : ∀ m : M α, m = .ok a → M.bind m k = k a := fun m e => by rw [e]; rfl
  exact h _ (Eq.refl _)
theorem noexc_ok {a : α} : M.noexc (.ok a) = .ok a := by
  have h : ∀ m : M α, m = .ok a → M.noexc m = .ok a := fun m e => by rw [e]; rfl
  exact h _ (Eq.refl _)
theorem chk_true {m : M α} : Y.chk true m = m := by
  have h : ∀ b : Bool, b = true → Y.chk b m = m := fun b e => by rw [e]; rfl
  exact h _ (Eq.refl _)
theorem chk_of {b : Bool} {m : M α} (h : b = true) : Y.chk b m = m := by
  subst h
  rfl
theorem bind_ret {m : M α} : (M.bind m fun a => .ok a) = m := by
  cases m <;> rfl
theorem bind_assoc {m : M α} {f : α → M β} {g : β → M γ} : M.bind (M.bind m f) g = M.bind m fun a => M.bind (f a) g := by
  cases m <;> rfl
/-! numbers -/
theorem okLen_small {n : Nat} (h : n ≤ 1000000) : okLen n = true := okLen_of (Nat.le_trans h (by decide))
theorem line_small {n : Nat} (h : n ≤ 1000000) : n ≤ sizeLine := Nat.le_trans h (by decide)
theorem mulM_r {i j : Int} (h : -(2 ^ 64) < j ∧ j < 2 ^ 64) : mulM i j = .ok (i * j) := by
  unfold mulM
  rw [chk_of (by rw [Bool.or_eq_true_iff]; exact .inl (decide_eq_true (.inr h)))]
theorem mulM_l {i j : Int} (h : -(2 ^ 64) < i ∧ i < 2 ^ 64) : mulM i j = .ok (i * j) := by
  unfold mulM
  rw [chk_of (by rw [Bool.or_eq_true_iff]; exact .inl (decide_eq_true (.inl h)))]
theorem mulM_w {i j : Int} {a b : Nat} (ha : i.natAbs < 2 ^ a) (hb : j.natAbs < 2 ^ b) (h0 : 0 < a) (h1 : 0 < b) (h : a + b ≤ 1000000) : mulM i j = .ok (i * j) := by
  unfold mulM
  rw [chk_of (by rw [Bool.or_eq_true_iff]; exact .inr (decide_eq_true (wide_mul ha hb h0 h1 h)))]
theorem modM_of {i j : Int} (h : 0 < j) : modM i j = .ok (i % j) := by
  unfold modM
  rw [chk_of (decide_eq_true h)]
theorem divM_of {i j : Int} (h : 0 < j) (hj : j < 2 ^ 64) : divM i j = .ok (i / j) := by
  unfold divM
  rw [chk_of (decide_eq_true (wide_div (b := 65) h (by omega) (by decide) (by decide)))]
theorem powM_of {i j : Int} (h : 0 ≤ j ∧ j ≤ 1000000) (hi : i.natAbs < 2 ^ 64) : powM i j = .ok (i ^ j.toNat) := by
  unfold powM
  rw [chk_of (decide_eq_true ⟨h.1, h.2, hi⟩)]
/-! lists -/
theorem idxM_nat {xs : List α} {j : Nat} {x : α} (h : xs[j]? = some x) : idxM xs (j : Int) = .ok x := by
  unfold idxM
  rw [atI_nat h]
theorem idxM_of {xs : List α} {i : Int} {x : α} (h0 : 0 ≤ i) (h : xs[i.toNat]? = some x) : idxM xs i = .ok x := by
  have e : i = (i.toNat : Int) := by omega
  rw [e]
  exact idxM_nat h
theorem idxM_lt {xs : List α} {i : Int} (h0 : 0 ≤ i) (h : i < xs.length) : ∃ x, xs[i.toNat]? = some x ∧ idxM xs i = .ok x := by
  have l : i.toNat < xs.length := by omega
  exact ⟨xs[i.toNat], List.getElem?_eq_getElem l, idxM_of h0 (List.getElem?_eq_getElem l)⟩
theorem idxM_last {xs : List α} {x : α} : idxM (xs ++ [x]) (-1) = .ok x := by
  unfold idxM atI ixN
  rw [if_neg (by decide), if_pos (by simp; omega)]
  have e : (-1 + ((xs ++ [x]).length : Int)).toNat = xs.length := by simp; omega
  show (match (xs ++ [x])[(-1 + ((xs ++ [x]).length : Int)).toNat]? with | some x => M.ok x | none => M.stuck) = M.ok x
  rw [e]
  simp
theorem setM_of {xs : List α} {i : Int} {x : α} (h0 : 0 ≤ i) (h : i < xs.length) : setM xs i x = .ok (xs.set i.toNat x) := by
  unfold setM ixN
  rw [if_pos h0, if_pos h]
theorem appM_of {xs : List α} {x : α} (h : xs.length < 1000000) : appM xs x = .ok (xs ++ [x]) := by
  unfold appM
  rw [chk_of (decide_eq_true (Nat.lt_of_lt_of_le h (by decide)))]
theorem catM_of {xs ys : List α} (h : xs.length + ys.length ≤ 1000000) : catM xs ys = .ok (xs ++ ys) := by
  unfold catM
  rw [chk_of (decide_eq_true (line_small h))]
theorem repM_one {x : α} {n : Nat} (h : n ≤ 1000000) : repM [x] (n : Int) = .ok (List.replicate n x) := by
  unfold repM
  rw [chk_of (decide_eq_true ⟨by omega, by omega, by simp; exact line_small h⟩)]
  congr 1
  simp
theorem rngM_of {lo hi : Int} (h : -1000000 ≤ lo ∧ lo ≤ 1000000000000 ∧ -1000000000000 ≤ hi ∧ hi ≤ 1000000000000) : rngM lo hi = .ok (rng lo hi) := by
  unfold rngM rngOk
  rw [chk_of (decide_eq_true (by omega))]
theorem rng_nat (n : Nat) : rng 0 (n : Int) = (List.range n).map fun (i : Nat) => (i : Int) := by
  unfold rng
  simp
theorem rng_neg {n : Int} (h : n ≤ 0) : rng 0 n = [] := by
  unfold rng
  have : (n - 0).toNat = 0 := by omega
  rw [this]
  rfl
theorem rng_get {lo hi : Int} {i : Nat} {x : Int} (h : (rng lo hi)[i]? = some x) : x = lo + i ∧ x < hi ∧ lo ≤ x := by
  unfold rng at h
  rw [List.getElem?_map] at h
  by_cases l : i < (hi - lo).toNat
  · rw [List.getElem?_range l] at h
    have e : lo + (i : Int) = x := Option.some.inj h
    omega
  · rw [List.getElem?_eq_none (by simpa using l)] at h
    cases h
/-! loops -/
theorem Ok.fold {f : α → σ → M σ} (P : Nat → σ → Prop) : ∀ {xs : List α} {s : σ} (i0 : Nat), P i0 s → (∀ i x s, xs[i]? = some x → P (i0 + i) s → Ok (f x s) (P (i0 + i + 1))) → Ok (foldM xs s f) (P (i0 + xs.length))
  | [], s, i0, h, _ => .of h
  | x :: xs, s, i0, h, k => by
    refine Ok.bind (k 0 x s rfl h) fun s' h' => ?_
    have q := Ok.fold P (xs := xs) (s := s') (i0 + 1) h' fun i y s2 e p => by
      have := k (i + 1) y s2 (by simpa using e) (by rw [show i0 + (i + 1) = i0 + 1 + i by omega]; exact p)
      rw [show i0 + (i + 1) + 1 = i0 + 1 + i + 1 by omega] at this
      exact this
    rw [show i0 + (x :: xs).length = i0 + 1 + xs.length by simp; omega]
    exact q
/-- a loop whose turn has one answer, while I holds -/
theorem fold_eq {f : α → σ → M σ} {g : σ → α → σ} (I : σ → Prop) : ∀ {xs : List α} {s : σ}, I s → (∀ x ∈ xs, ∀ s, I s → f x s = .ok (g s x) ∧ I (g s x)) → foldM xs s f = .ok (xs.foldl g s) ∧ I (xs.foldl g s)
  | [], s, h, _ => ⟨rfl, h⟩
  | x :: xs, s, h, k => by
    obtain ⟨e, h'⟩ := k x List.mem_cons_self s h
    have q := fold_eq (f := f) (g := g) I (xs := xs) h' fun y hy s hs => k y (List.mem_cons_of_mem _ hy) s hs
    refine ⟨?_, q.2⟩
    show M.bind (f x s) _ = _
    rw [e]
    exact q.1
/-- a loop that is not left: every turn goes on -/
theorem forM_nx {f : α → σ → M (Stp σ ρ)} (P : Nat → σ → Prop) : ∀ {xs : List α} {s : σ} (i0 : Nat), P i0 s → (∀ i x s, xs[i]? = some x → P (i0 + i) s → Ok (f x s) fun st => ∃ s', st = .nx s' ∧ P (i0 + i + 1) s') → Ok (forM xs s f) fun st => ∃ s', st = .nx s' ∧ P (i0 + xs.length) s'
  | [], s, i0, h, _ => .of ⟨s, rfl, h⟩
  | x :: xs, s, i0, h, k => by
    refine Ok.bind (k 0 x s rfl h) fun st h' => ?_
    obtain ⟨s', e, h'⟩ := h'
    subst e
    have q := forM_nx P (xs := xs) (s := s') (i0 + 1) h' fun i y s2 e p => by
      have := k (i + 1) y s2 (by simpa using e) (by rw [show i0 + (i + 1) = i0 + 1 + i by omega]; exact p)
      rw [show i0 + (i + 1) + 1 = i0 + 1 + i + 1 by omega] at this
      exact this
    rw [show i0 + (x :: xs).length = i0 + 1 + xs.length by simp; omega]
    exact q
theorem mapM_eq {f : α → M β} {g : α → β} : ∀ {xs : List α}, (∀ x ∈ xs, f x = .ok (g x)) → Y.mapM xs f = .ok (xs.map g)
  | [], _ => rfl
  | x :: xs, k => by
    show M.bind (f x) _ = _
    rw [k x List.mem_cons_self]
    show M.bind (Y.mapM xs f) _ = _
    rw [mapM_eq (g := g) fun y hy => k y (List.mem_cons_of_mem _ hy)]
    rfl
theorem filM_eq {f : α → M (Option β)} {g : α → Option β} : ∀ {xs : List α}, (∀ x ∈ xs, f x = .ok (g x)) → Y.filM xs f = .ok (xs.filterMap g)
  | [], _ => rfl
  | x :: xs, k => by
    show M.bind (f x) _ = _
    rw [k x List.mem_cons_self]
    show M.bind (Y.filM xs f) _ = _
    rw [filM_eq (g := g) fun y hy => k y (List.mem_cons_of_mem _ hy)]
    rw [List.filterMap_cons]
    cases g x <;> rfl
theorem flatM_eq {f : α → M (List β)} {g : α → List β} : ∀ {xs : List α}, (∀ x ∈ xs, f x = .ok (g x)) → flatM xs f = .ok (xs.flatMap g)
  | [], _ => rfl
  | x :: xs, k => by
    show M.bind (f x) _ = _
    rw [k x List.mem_cons_self]
    show M.bind (flatM xs f) _ = _
    rw [flatM_eq (g := g) fun y hy => k y (List.mem_cons_of_mem _ hy)]
    rfl
end
end Y
/-! P2: == of data by types. -/
namespace Y
open PySem PySem.Spec PyProof.Rows L2
structure EqE {α : Type} (enc : α → D) (ok : α → Prop) (dp : Nat) : Prop where
  sh : ∀ x, ok x → dataB (enc x) = true ∧ (pyD (enc x)).canLay0 = true ∧ (pyD (enc x)).depth ≤ dp
  eq : ∀ x y, PyData.eqv (pyD (enc x)) (pyD (enc y)) = true ↔ x = y
theorem pyDs_map (ds : List D) : pyDs ds = ds.map pyD := by
  induction ds with
  | nil => simp [pyDs]
  | cons d ds ih => simp [pyDs, ih]
theorem eqD_of {α : Type} [DecidableEq α] {enc : α → D} {ok : α → Prop} {dp : Nat} (E : EqE enc ok dp) (hd : dp ≤ 64) {x y : α} (hx : ok x) (hy : ok y) : eqD (enc x) (enc y) = .ok (decide (x = y)) := by
  obtain ⟨a1, a2, a3⟩ := E.sh x hx
  obtain ⟨b1, b2, b3⟩ := E.sh y hy
  unfold eqD shD SeqAt.shaped
  rw [chk_of (by simp [a1, a2, b1, b2]; omega)]
  congr 1
  rw [Bool.eq_iff_iff]
  simp [E.eq]
theorem eqE_int : EqE D.int (fun _ => True) 0 := ⟨fun x _ => by simp [dataB, pyD, PyData.canLay0, PyData.depth], fun x y => by simp [pyD, PyData.eqv]⟩
theorem eqE_bl : EqE D.bl (fun _ => True) 0 := ⟨fun x _ => by simp [dataB, pyD, PyData.canLay0, PyData.depth], fun x y => by simp [pyD, PyData.eqv]⟩
theorem eqE_str : EqE D.str (fun x => PyData.strOk x = true) 0 := ⟨fun x h => by simp [dataB, pyD, PyData.canLay0, PyData.depth, h], fun x y => by simp [pyD, PyData.eqv]⟩
section
variable {α β γ δ : Type} {e : α → D} {f : β → D} {g : γ → D} {k : δ → D} {o : α → Prop} {o2 : β → Prop} {o3 : γ → Prop} {o4 : δ → Prop} {n m p q : Nat}
theorem all_sh (E : EqE e o n) : ∀ xs : List α, (∀ x ∈ xs, o x) → dataBs (xs.map e) = true ∧ PyData.canLayAll0 (pyDs (xs.map e)) = true ∧ PyData.depthAll (pyDs (xs.map e)) ≤ n
  | [], _ => by simp [dataBs, pyDs, PyData.canLayAll0, PyData.depthAll]
  | x :: xs, h => by
    obtain ⟨a1, a2, a3⟩ := E.sh x (h x List.mem_cons_self)
    obtain ⟨b1, b2, b3⟩ := all_sh E xs fun y hy => h y (List.mem_cons_of_mem _ hy)
    simp only [List.map_cons, dataBs, pyDs, PyData.canLayAll0, PyData.depthAll, a1, a2, b1, b2, Bool.and_self, true_and]
    omega
theorem all_eq (E : EqE e o n) : ∀ xs ys : List α, PyData.eqvAll (pyDs (xs.map e)) (pyDs (ys.map e)) = true ↔ xs = ys
  | [], [] => by simp [pyDs, PyData.eqvAll]
  | [], y :: ys => by simp [pyDs, PyData.eqvAll]
  | x :: xs, [] => by simp [pyDs, PyData.eqvAll]
  | x :: xs, y :: ys => by
    simp only [List.map_cons, pyDs, PyData.eqvAll, Bool.and_eq_true, List.cons.injEq]
    rw [E.eq, all_eq E xs ys]
theorem eqE_L (E : EqE e o n) : EqE (dL e) (fun xs => ∀ x ∈ xs, o x) (n + 1) := ⟨fun xs h => by
  obtain ⟨a, b, c⟩ := all_sh E xs h
  simp only [dL, dataB, pyD, PyData.canLay0, PyData.depth]
  exact ⟨a, b, by omega⟩, fun xs ys => by
  simp only [dL, pyD, PyData.eqv]
  exact all_eq E xs ys⟩
theorem eqE_U (E : EqE e o n) : EqE (dU e) (fun xs => ∀ x ∈ xs, o x) (n + 1) := ⟨fun xs h => by
  obtain ⟨a, b, c⟩ := all_sh E xs h
  simp only [dU, dataB, pyD, PyData.canLay0, PyData.depth]
  exact ⟨a, b, by omega⟩, fun xs ys => by
  simp only [dU, pyD, PyData.eqv]
  exact all_eq E xs ys⟩
theorem eqE_2 (E : EqE e o n) (F : EqE f o2 m) : EqE (dT2 e f) (fun x => o x.1 ∧ o2 x.2) (max n m + 1) := ⟨fun x ⟨h1, h2⟩ => by
  obtain ⟨a1, a2, a3⟩ := E.sh x.1 h1
  obtain ⟨b1, b2, b3⟩ := F.sh x.2 h2
  simp only [dT2, dataB, dataBs, pyD, pyDs, PyData.canLay0, PyData.canLayAll0, PyData.depth, PyData.depthAll, a1, a2, b1, b2, Bool.and_self, true_and]
  omega, fun x y => by
  obtain ⟨x1, x2⟩ := x
  obtain ⟨y1, y2⟩ := y
  simp only [dT2, pyD, pyDs, PyData.eqv, PyData.eqvAll, Bool.and_true, Bool.and_eq_true, Prod.mk.injEq]
  rw [E.eq, F.eq]⟩
theorem eqE_3 (E : EqE e o n) (F : EqE f o2 m) (G : EqE g o3 p) : EqE (dT3 e f g) (fun x => o x.1 ∧ o2 x.2.1 ∧ o3 x.2.2) (max n (max m p) + 1) := ⟨fun x ⟨h1, h2, h3⟩ => by
  obtain ⟨a1, a2, a3⟩ := E.sh x.1 h1
  obtain ⟨b1, b2, b3⟩ := F.sh x.2.1 h2
  obtain ⟨c1, c2, c3⟩ := G.sh x.2.2 h3
  simp only [dT3, dataB, dataBs, pyD, pyDs, PyData.canLay0, PyData.canLayAll0, PyData.depth, PyData.depthAll, a1, a2, b1, b2, c1, c2, Bool.and_self, true_and]
  omega, fun x y => by
  obtain ⟨x1, x2, x3⟩ := x
  obtain ⟨y1, y2, y3⟩ := y
  simp only [dT3, pyD, pyDs, PyData.eqv, PyData.eqvAll, Bool.and_true, Bool.and_eq_true, Prod.mk.injEq]
  rw [E.eq, F.eq, G.eq]⟩
theorem eqE_4 (E : EqE e o n) (F : EqE f o2 m) (G : EqE g o3 p) (K : EqE k o4 q) : EqE (dT4 e f g k) (fun x => o x.1 ∧ o2 x.2.1 ∧ o3 x.2.2.1 ∧ o4 x.2.2.2) (max n (max m (max p q)) + 1) := ⟨fun x ⟨h1, h2, h3, h4⟩ => by
  obtain ⟨a1, a2, a3⟩ := E.sh x.1 h1
  obtain ⟨b1, b2, b3⟩ := F.sh x.2.1 h2
  obtain ⟨c1, c2, c3⟩ := G.sh x.2.2.1 h3
  obtain ⟨d1, d2, d3⟩ := K.sh x.2.2.2 h4
  simp only [dT4, dataB, dataBs, pyD, pyDs, PyData.canLay0, PyData.canLayAll0, PyData.depth, PyData.depthAll, a1, a2, b1, b2, c1, c2, d1, d2, Bool.and_self, true_and]
  omega, fun x y => by
  obtain ⟨x1, x2, x3, x4⟩ := x
  obtain ⟨y1, y2, y3, y4⟩ := y
  simp only [dT4, pyD, pyDs, PyData.eqv, PyData.eqvAll, Bool.and_true, Bool.and_eq_true, Prod.mk.injEq]
  rw [E.eq, F.eq, G.eq, K.eq]⟩
end
end Y
/-! P3: texts of numbers; what an exception's text asks. -/
namespace Y
open PySem PySem.Spec PyProof.Rows L2
theorem digits_le : ∀ (k m : Nat), m < 10 ^ (k + 1) → (Nat.toDigits 10 m).length ≤ k + 1
  | k, m, h => by
    by_cases hm : m < 10
    · rw [Nat.toDigits_of_lt_base hm]
      simp
    · cases k with
      | zero => simp at h; omega
      | succ k =>
        have t : Nat.toDigits 10 (m / 10) ++ Nat.toDigits 10 (m % 10) = Nat.toDigits 10 (10 * (m / 10) + m % 10) := Nat.toDigits_append_toDigits (by decide) (by omega) (Nat.mod_lt m (by decide))
        rw [Nat.div_add_mod] at t
        rw [← t, List.length_append, Nat.toDigits_of_lt_base (Nat.mod_lt m (by decide))]
        have h2 : m / 10 < 10 ^ (k + 1) := Nat.div_lt_of_lt_mul (by rw [Nat.pow_succ] at h; omega)
        have := digits_le k (m / 10) h2
        simp
        omega
theorem repr_len (m k : Nat) (h : m < 10 ^ (k + 1)) : (Nat.repr m).toList.length ≤ k + 1 := by
  rw [Nat.toList_repr]
  exact digits_le k m h
theorem num_len {i : Int} {k : Nat} (h : i.natAbs < 10 ^ (k + 1)) : (Str.ofString (toString i)).length ≤ k + 2 := by
  have e : (Str.ofString (toString i)).cps.toList = (toString i).toList.map Char.toNat := by rw [PySem.Str.ofString_eq_toList]
  have e2 : (Str.ofString (toString i)).length = (toString i).toList.length := by
    show (Str.ofString (toString i)).cps.size = _
    rw [← Array.length_toList, e, List.length_map]
  rw [e2]
  cases i with
  | ofNat m =>
    have : (toString (Int.ofNat m)).toList.length = (Nat.repr m).toList.length := rfl
    rw [this]
    have := repr_len m k (by simpa using h)
    omega
  | negSucc m =>
    have e3 : toString (Int.negSucc m) = "-" ++ Nat.repr (m + 1) := rfl
    rw [e3, String.toList_append, List.length_append]
    have := repr_len (m + 1) k (by simpa using h)
    have : "-".toList.length = 1 := rfl
    omega
theorem log2_small {n a : Nat} (h : n < 2 ^ a) (ha : 0 < a) (h2 : a ≤ 1920) : n.log2 < 1920 := Nat.lt_of_lt_of_le (PySem.Flt.log2_lt_of ha h) h2
end Y
/-! P4: what _law_same answers, by kinds of data. -/
namespace Y
open PySem PySem.Spec PyProof.Rows L2
/-- two of a kind are the same where they are equal -/
class SamE {α : Type} [DecidableEq α] (e : α → D) : Prop where
  eq : ∀ x y, sameB (e x) (e y) = decide (x = y)
/-- no None of this kind -/
class NonN {α : Type} (e : α → D) : Prop where
  l : ∀ x, sameB .non (e x) = false
  r : ∀ x, sameB (e x) .non = false
/-- always within depth n -/
class FlatE {α : Type} (n : Nat) (e : α → D) : Prop where
  ok : ∀ x, okS n (e x) = true
instance : SamE D.int := ⟨fun x y => by simp [sameB]⟩
instance : SamE D.bl := ⟨fun x y => by simp [sameB]⟩
instance : SamE D.str := ⟨fun x y => by simp [sameB]⟩
instance : SamE dN := ⟨fun x y => by cases x; cases y; rfl⟩
instance : NonN D.int := ⟨fun _ => rfl, fun _ => rfl⟩
instance : NonN D.bl := ⟨fun _ => rfl, fun _ => rfl⟩
instance : NonN D.str := ⟨fun _ => rfl, fun _ => rfl⟩
instance {n : Nat} : FlatE (n + 1) D.int := ⟨fun _ => rfl⟩
instance {n : Nat} : FlatE (n + 1) D.bl := ⟨fun _ => rfl⟩
instance {n : Nat} : FlatE (n + 1) D.str := ⟨fun _ => rfl⟩
instance {n : Nat} : FlatE (n + 1) dN := ⟨fun _ => rfl⟩
theorem sameBs_map {α : Type} [DecidableEq α] {e : α → D} [h : SamE e] : ∀ xs ys : List α, sameBs (xs.map e) (ys.map e) = decide (xs = ys)
  | [], [] => by simp [sameBs]
  | [], _ :: _ => by simp [sameBs]
  | _ :: _, [] => by simp [sameBs]
  | x :: xs, y :: ys => by
    rw [List.map_cons, List.map_cons]
    simp only [sameBs]
    rw [h.eq x y, sameBs_map xs ys]
    simp [Bool.decide_and]
section
variable {α β γ δ ε : Type} [DecidableEq α] [DecidableEq β] [DecidableEq γ] [DecidableEq δ] [DecidableEq ε] {e : α → D} {f : β → D} {g : γ → D} {k : δ → D} {l : ε → D} [he : SamE e] [hf : SamE f] [hg : SamE g] [hk : SamE k] [hl : SamE l]
instance : SamE (dL e) := ⟨fun xs ys => by simp only [dL, sameB]; exact sameBs_map xs ys⟩
instance : SamE (dU e) := ⟨fun xs ys => by simp only [dU, sameB]; exact sameBs_map xs ys⟩
instance : SamE (dT2 e f) := ⟨fun x y => by
  obtain ⟨a, b⟩ := x; obtain ⟨a', b'⟩ := y
  simp only [dT2, sameB, sameBs, he.eq, hf.eq, Prod.mk.injEq, Bool.decide_and, Bool.and_true]⟩
instance : SamE (dT3 e f g) := ⟨fun x y => by
  obtain ⟨a, b, c⟩ := x; obtain ⟨a', b', c'⟩ := y
  simp only [dT3, sameB, sameBs, he.eq, hf.eq, hg.eq, Prod.mk.injEq, Bool.decide_and, Bool.and_true]⟩
instance : SamE (dT4 e f g k) := ⟨fun x y => by
  obtain ⟨a, b, c, d⟩ := x; obtain ⟨a', b', c', d'⟩ := y
  simp only [dT4, sameB, sameBs, he.eq, hf.eq, hg.eq, hk.eq, Prod.mk.injEq, Bool.decide_and, Bool.and_true]⟩
instance : SamE (dT5 e f g k l) := ⟨fun x y => by
  obtain ⟨a, b, c, d, z⟩ := x; obtain ⟨a', b', c', d', z'⟩ := y
  simp only [dT5, sameB, sameBs, he.eq, hf.eq, hg.eq, hk.eq, hl.eq, Prod.mk.injEq, Bool.decide_and, Bool.and_true]⟩
instance [hn : NonN e] : SamE (dO e) := ⟨fun x y => by
  cases x with
  | none => cases y with
    | none => rfl
    | some y => simp only [dO]; rw [hn.l]; simp
  | some x => cases y with
    | none => simp only [dO]; rw [hn.r]; simp
    | some y => simp only [dO]; rw [he.eq]; simp⟩
end
section
variable {α β γ δ ε : Type} {e : α → D} {f : β → D} {g : γ → D} {k : δ → D} {l : ε → D} {n : Nat}
instance : NonN (dL e) := ⟨fun _ => rfl, fun _ => rfl⟩
instance : NonN (dU e) := ⟨fun _ => rfl, fun _ => rfl⟩
instance : NonN (dT2 e f) := ⟨fun _ => rfl, fun _ => rfl⟩
instance : NonN (dT3 e f g) := ⟨fun _ => rfl, fun _ => rfl⟩
instance : NonN (dT4 e f g k) := ⟨fun _ => rfl, fun _ => rfl⟩
instance : NonN (dT5 e f g k l) := ⟨fun _ => rfl, fun _ => rfl⟩
theorem okLen_lit {n : Nat} (h : n ≤ 16777216) : okLen n = true := by
  unfold okLen
  have : sizeLine = 16777216 := by decide
  simpa [this] using h
instance [he : FlatE (n + 1) e] : FlatE (n + 1) (dO e) := ⟨fun x => by cases x with | none => rfl | some x => exact he.ok x⟩
section
variable [he : FlatE n e] [hf : FlatE n f] [hg : FlatE n g] [hk : FlatE n k] [hl : FlatE n l]
instance : FlatE (n + 1) (dT2 e f) := ⟨fun x => by simp [dT2, okS, he.ok, hf.ok, okLen_lit]⟩
instance : FlatE (n + 1) (dT3 e f g) := ⟨fun x => by simp [dT3, okS, he.ok, hf.ok, hg.ok, okLen_lit]⟩
instance : FlatE (n + 1) (dT4 e f g k) := ⟨fun x => by simp [dT4, okS, he.ok, hf.ok, hg.ok, hk.ok, okLen_lit]⟩
instance : FlatE (n + 1) (dT5 e f g k l) := ⟨fun x => by simp [dT5, okS, he.ok, hf.ok, hg.ok, hk.ok, hl.ok, okLen_lit]⟩
end
theorem okS_l {xs : List α} (h : okLen xs.length = true) (hx : ∀ x ∈ xs, okS n (e x) = true) : okS (n + 1) (dL e xs) = true := by
  simp only [dL, okS, List.length_map, h, Bool.true_and, List.all_map, List.all_eq_true]
  exact hx
theorem okS_u {xs : List α} (h : okLen xs.length = true) (hx : ∀ x ∈ xs, okS n (e x) = true) : okS (n + 1) (dU e xs) = true := by
  simp only [dU, okS, List.length_map, h, Bool.true_and, List.all_map, List.all_eq_true]
  exact hx
theorem okS_lF [he : FlatE n e] {xs : List α} (h : okLen xs.length = true) : okS (n + 1) (dL e xs) = true := okS_l h fun x _ => he.ok x
theorem okS_uF [he : FlatE n e] {xs : List α} (h : okLen xs.length = true) : okS (n + 1) (dU e xs) = true := okS_u h fun x _ => he.ok x
/-- the whole: two of a kind -/
theorem same_ok [DecidableEq α] [he : SamE e] {x y : α} (h1 : okS n (e x) = true) (h2 : okS n (e y) = true) : M.noexc (mSame n (e x, e y)) = .ok (decide (x = y)) := by
  rw [mSame_ok h1 h2, he.eq]
  rfl
theorem same_flat [DecidableEq α] [he : SamE e] [hf : FlatE n e] {x y : α} : M.noexc (mSame n (e x, e y)) = .ok (decide (x = y)) := same_ok (hf.ok x) (hf.ok y)
end
end Y
/-! P5: the first of a list for which something is told. -/
namespace Y
open PySem PySem.Spec PyProof.Rows L2
variable {α β ρ σ : Type}
/-- the first word that g has, at its place -/
def firstG (g : Nat → α → Option ρ) : Nat → List α → Option ρ
  | _, [] => none
  | i, x :: xs => match g i x with
    | some r => some r
    | none => firstG g (i + 1) xs
theorem forM_first {f : Int → Unit → M (Stp Unit ρ)} {xs : List α} {g : Nat → α → Option ρ} {k : M ρ} (hf : ∀ (i : Nat) x, xs[i]? = some x → f (i : Int) () = .ok (match g i x with | none => .nx () | some r => .rt r)) :
    M.bind (forM (rng 0 (xs.length : Int)) () f) (fun st => aft st (fun _ => k) (fun r => .ok r)) = match firstG g 0 xs with | none => k | some r => .ok r := by
  rw [rng_nat]
  suffices h : ∀ (n j : Nat) (ys : List α), ys.length = n → (∀ (i : Nat) x, ys[i]? = some x → f ((j + i : Nat) : Int) () = .ok (match g (j + i) x with | none => .nx () | some r => .rt r)) →
      M.bind (forM ((List.range' j n).map fun (i : Nat) => (i : Int)) () f) (fun st => aft st (fun _ => k) (fun r => .ok r)) = match firstG g j ys with | none => k | some r => .ok r by
    have := h xs.length 0 xs rfl (fun i x e => by rw [Nat.zero_add]; exact hf i x e)
    rw [List.range_eq_range']
    exact this
  intro n
  induction n with
  | zero =>
    intro j ys hl _
    obtain rfl := List.eq_nil_of_length_eq_zero hl
    simp [firstG, forM, M.bind, aft]
  | succ n ih =>
    intro j ys hl hf
    cases ys with
    | nil => simp at hl
    | cons y ys =>
      rw [List.range'_succ, List.map_cons]
      have e := hf 0 y rfl
      rw [Nat.add_zero] at e
      simp only [forM, firstG]
      rw [e]
      cases q : g j y with
      | some r => simp [M.bind, aft]
      | none =>
        have := ih (j + 1) ys (by simpa using hl) (fun i x e => by
          have := hf (i + 1) x (by simpa using e)
          rw [show j + 1 + i = j + (i + 1) by omega]
          exact this)
        simp only [M.bind] at this ⊢
        exact this
theorem enumL_cons_aux (xs : List α) : enumL xs = xs.zipIdx.map fun q => ((q.2 : Int), q.1) := by
  apply List.ext_getElem?
  intro i
  cases e : xs[i]? with
  | none =>
    have : xs.length ≤ i := by simpa using e
    rw [List.getElem?_eq_none (by rw [enumL_length]; exact this), List.getElem?_eq_none (by simpa using this)]
  | some x => rw [enumL_get e, List.getElem?_map, List.getElem?_zipIdx, e]; simp
theorem fold_first {f : Int × α → Unit → M Unit} {xs : List α} {g : Nat → α → Option Exc} (hf : ∀ (i : Nat) x, xs[i]? = some x → f ((i : Int), x) () = match g i x with | none => .ok () | some e => .exc e) :
    foldM (enumL xs) () f = match firstG g 0 xs with | none => .ok () | some e => .exc e := by
  rw [enumL_cons_aux]
  suffices h : ∀ (ys : List α) (j : Nat), (∀ (i : Nat) x, ys[i]? = some x → f (((j + i : Nat) : Int), x) () = match g (j + i) x with | none => .ok () | some e => .exc e) →
      foldM ((ys.zipIdx j).map fun q => ((q.2 : Int), q.1)) () f = match firstG g j ys with | none => .ok () | some e => .exc e by
    exact h xs 0 fun i x e => by rw [Nat.zero_add]; exact hf i x e
  intro ys
  induction ys with
  | nil => intro j _; simp [foldM, firstG]
  | cons y ys ih =>
    intro j hf
    rw [List.zipIdx_cons, List.map_cons]
    have e := hf 0 y rfl
    rw [Nat.add_zero] at e
    simp only [foldM, firstG]
    rw [e]
    cases q : g j y with
    | some r => simp [M.bind]
    | none =>
      have := ih (j + 1) fun i x e => by
        have := hf (i + 1) x (by simpa using e)
        rw [show j + 1 + i = j + (i + 1) by omega]
        exact this
      simp only [M.bind] at this ⊢
      exact this
/-- over the items alone -/
theorem fold_firstU {f : α → Unit → M Unit} {xs : List α} {g : α → Option Exc} (hf : ∀ x ∈ xs, f x () = match g x with | none => .ok () | some e => .exc e) :
    foldM xs () f = match xs.findSome? g with | none => .ok () | some e => .exc e := by
  induction xs with
  | nil => simp [foldM]
  | cons y ys ih =>
    simp only [foldM, List.findSome?_cons]
    rw [hf y List.mem_cons_self]
    cases q : g y with
    | some r => simp [M.bind]
    | none =>
      have := ih fun x h => hf x (List.mem_cons_of_mem _ h)
      simp only [M.bind] at this ⊢
      exact this
end Y
/-! P6: steps of mirrors as rules of Ok; texts of exceptions; stateful comprehensions. -/
namespace Y
open PySem PySem.Spec PyProof.Rows L2
section
variable {α β γ σ ρ τ : Type}
theorem Ok.b1 {a : α} {k : α → M β} {Φ : β → Prop} (h : Ok (k a) Φ) : Ok (M.bind (.ok a) k) Φ := h
theorem Ok.bq {m : M α} {a : α} {k : α → M β} {Φ : β → Prop} (e : m = .ok a) (h : Ok (k a) Φ) : Ok (M.bind m k) Φ := by
  rw [e]
  exact h
theorem Ok.bnq {m : M α} {a : α} {k : α → M β} {Φ : β → Prop} (e : m = .ok a) (h : Ok (k a) Φ) : Ok (M.bind (M.noexc m) k) Φ := by
  rw [e]
  exact h
theorem Ok.bn {m : M α} {k : α → M β} {Φ : α → Prop} {Ψ : β → Prop} (h : Ok m Φ) (c : ∀ a, Φ a → Ok (k a) Ψ) : Ok (M.bind (M.noexc m) k) Ψ := h.noexc.bind c
theorem Ok.bpow {i j : Int} {k : Int → M β} {Φ : β → Prop} (h : Ok (k (i ^ j.toNat)) Φ) (h1 : 0 ≤ j ∧ j ≤ 1000000 := by decide) (hi : i.natAbs < 2 ^ 64 := by decide) : Ok (M.bind (powM i j) k) Φ := .bq (powM_of h1 hi) h
theorem Ok.bmulr {i j : Int} {k : Int → M β} {Φ : β → Prop} (h : Ok (k (i * j)) Φ) (h1 : -(2 ^ 64) < j ∧ j < 2 ^ 64 := by omega) : Ok (M.bind (mulM i j) k) Φ := .bq (mulM_r h1) h
theorem Ok.bmull {i j : Int} {k : Int → M β} {Φ : β → Prop} (h : Ok (k (i * j)) Φ) (h1 : -(2 ^ 64) < i ∧ i < 2 ^ 64 := by omega) : Ok (M.bind (mulM i j) k) Φ := .bq (mulM_l h1) h
theorem Ok.bmod {i j : Int} {k : Int → M β} {Φ : β → Prop} (h : Ok (k (i % j)) Φ) (h1 : 0 < j := by omega) : Ok (M.bind (modM i j) k) Φ := .bq (modM_of h1) h
theorem Ok.bdiv {i j : Int} {k : Int → M β} {Φ : β → Prop} (h : Ok (k (i / j)) Φ) (h1 : 0 < j := by omega) (h2 : j < 2 ^ 64 := by omega) : Ok (M.bind (divM i j) k) Φ := .bq (divM_of h1 h2) h
theorem Ok.bapp {xs : List α} {x : α} {k : List α → M β} {Φ : β → Prop} (h : Ok (k (xs ++ [x])) Φ) (h1 : xs.length < 1000000 := by first | omega | (simp; done) | (simp; omega)) : Ok (M.bind (appM xs x) k) Φ := .bq (appM_of h1) h
theorem Ok.bcat {xs ys : List α} {k : List α → M β} {Φ : β → Prop} (h : Ok (k (xs ++ ys)) Φ) (h1 : xs.length + ys.length ≤ 1000000 := by first | omega | (simp; done) | (simp; omega)) : Ok (M.bind (catM xs ys) k) Φ := .bq (catM_of h1) h
theorem Ok.brng {lo hi : Int} {k : List Int → M β} {Φ : β → Prop} (h : Ok (k (rng lo hi)) Φ) (h1 : -1000000 ≤ lo ∧ lo ≤ 1000000000000 ∧ -1000000000000 ≤ hi ∧ hi ≤ 1000000000000 := by omega) : Ok (M.bind (rngM lo hi) k) Φ := .bq (rngM_of h1) h
theorem Ok.bset {xs : List α} {i : Int} {x : α} {k : List α → M β} {Φ : β → Prop} (h : Ok (k (xs.set i.toNat x)) Φ) (h0 : 0 ≤ i := by omega) (h1 : i < xs.length := by first | omega | (simp; done) | (simp; omega)) : Ok (M.bind (setM xs i x) k) Φ := .bq (setM_of h0 h1) h
/-- an item, whichever it is -/
theorem Ok.bidx {xs : List α} {i : Int} {k : α → M β} {Φ : β → Prop} (h : ∀ x, xs[i.toNat]? = some x → Ok (k x) Φ) (h0 : 0 ≤ i := by omega) (h1 : i < xs.length := by first | omega | (simp; done) | (simp; omega)) : Ok (M.bind (idxM xs i) k) Φ := by
  obtain ⟨x, e, ei⟩ := idxM_lt h0 h1
  exact .bq ei (h x e)
theorem Ok.bidxN {xs : List α} {i : Nat} {x : α} {k : α → M β} {Φ : β → Prop} (e : xs[i]? = some x) (h : Ok (k x) Φ) : Ok (M.bind (idxM xs (i : Int)) k) Φ := .bq (idxM_nat e) h
theorem Ok.brep {x : α} {n : Nat} {k : List α → M β} {Φ : β → Prop} (h : Ok (k (List.replicate n x)) Φ) (h1 : n ≤ 1000000 := by omega) : Ok (M.bind (repM [x] (n : Int)) k) Φ := .bq (repM_one h1) h
theorem Ok.bsame {n : Nat} {e : α → D} [DecidableEq α] [SamE e] {x y : α} {k : Bool → M β} {Φ : β → Prop} (h : Ok (k (decide (x = y))) Φ) (h1 : okS n (e x) = true) (h2 : okS n (e y) = true) : Ok (M.bind (M.noexc (mSame n (e x, e y))) k) Φ := .bq (same_ok h1 h2) h
theorem Ok.bsameF {n : Nat} {e : α → D} [DecidableEq α] [SamE e] [FlatE n e] {x y : α} {k : Bool → M β} {Φ : β → Prop} (h : Ok (k (decide (x = y))) Φ) : Ok (M.bind (M.noexc (mSame n (e x, e y))) k) Φ := .bq same_flat h
theorem Ok.beqd {enc : α → D} {ok : α → Prop} {dp : Nat} [DecidableEq α] (E : EqE enc ok dp) {x y : α} {k : Bool → M β} {Φ : β → Prop} (h : Ok (k (decide (x = y))) Φ) (hx : ok x) (hy : ok y) (hd : dp ≤ 64 := by decide) : Ok (M.bind (eqD (enc x) (enc y)) k) Φ := .bq (eqD_of E hd hx hy) h
theorem Ok.opt {a : α} {f : α → M β} {Φ : β → Prop} (h : Ok (f a) Φ) : Ok (optM (some a) f) Φ := h
theorem Ok.get {m : M α} {a : α} (h : Ok m (· = a)) : m = .ok a := by
  obtain ⟨b, e, rfl⟩ := h
  exact e
theorem Ok.cT {b : Bool} {m n : M α} {Φ : α → Prop} (hb : b = true) (h : Ok m Φ) : Ok (bif b then m else n) Φ := by
  subst hb
  exact h
theorem Ok.cF {b : Bool} {m n : M α} {Φ : α → Prop} (hb : b = false) (h : Ok n Φ) : Ok (bif b then m else n) Φ := by
  subst hb
  exact h
/-- a comprehension that draws -/
theorem Ok.mapS {f : α → σ → M (β × σ)} (P : σ → Prop) (Q : β → Prop) : ∀ {xs : List α} {s : σ}, P s → (∀ x ∈ xs, ∀ s, P s → Ok (f x s) fun z => Q z.1 ∧ P z.2) → Ok (Y.mapS xs s f) fun z => (z.1.length = xs.length ∧ ∀ y ∈ z.1, Q y) ∧ P z.2
  | [], s, h, _ => .of ⟨⟨rfl, fun _ h => absurd h List.not_mem_nil⟩, h⟩
  | x :: xs, s, h, k => by
    refine (k x List.mem_cons_self s h).bind fun y ⟨hy, h1⟩ => ?_
    refine (Ok.mapS P Q (xs := xs) h1 fun z hz s hs => k z (List.mem_cons_of_mem _ hz) s hs).bind fun z ⟨⟨e, hz⟩, h2⟩ => ?_
    refine .of ⟨⟨by simp [e], fun w hw => ?_⟩, h2⟩
    rcases List.mem_cons.mp hw with q | q
    · rw [q]; exact hy
    · exact hz w q
/-- a walk over things of one kind -/
theorem Ok.foldI {f : α → σ → M σ} (P : σ → Prop) {xs : List α} {s : σ} (h : P s) (k : ∀ x ∈ xs, ∀ s, P s → Ok (f x s) P) : Ok (foldM xs s f) P :=
  Ok.fold (fun _ s => P s) 0 h fun i x s e p => k x (List.mem_of_getElem? e) s p
end
section
variable {α : Type}
theorem sIx_some {n d : Nat} {i : Int} (h0 : 0 ≤ i) : HT.sIx n d (some i) = min i.toNat n := by
  unfold HT.sIx
  simp
  omega
theorem cut_hi {xs : List α} {i : Int} (h0 : 0 ≤ i) : cutL xs none (some i) = xs.take i.toNat := by
  unfold cutL
  rw [sIx_some h0, show HT.sIx xs.length 0 none = 0 from rfl, List.drop_zero, Nat.sub_zero]
  rw [← List.take_take, List.take_length]
theorem cut_lo {xs : List α} {i : Int} (h0 : 0 ≤ i) : cutL xs (some i) none = xs.drop i.toNat := by
  unfold cutL
  rw [sIx_some h0, show HT.sIx xs.length xs.length none = xs.length from rfl]
  by_cases h : i.toNat ≤ xs.length
  · rw [Nat.min_eq_left h, List.take_of_length_le (by simp)]
  · rw [List.drop_eq_nil_of_le (by omega), List.drop_eq_nil_of_le (by omega)]
    simp
theorem cut_both {xs : List α} {i j : Int} (h0 : 0 ≤ i) (h1 : 0 ≤ j) : cutL xs (some i) (some j) = (xs.drop i.toNat).take (j.toNat - i.toNat) := by
  unfold cutL
  rw [sIx_some h0, sIx_some h1]
  by_cases h : i.toNat ≤ xs.length
  · rw [Nat.min_eq_left h]
    by_cases h2 : j.toNat ≤ xs.length
    · rw [Nat.min_eq_left h2]
    · rw [Nat.min_eq_right (by omega), List.take_of_length_le (by simp), List.take_of_length_le (by simp; omega)]
  · rw [List.drop_eq_nil_of_le (by omega), List.drop_eq_nil_of_le (by omega)]
    simp
theorem cut_all {xs : List α} : cutL xs none none = xs := by
  unfold cutL
  simp [HT.sIx]
end
theorem app_len (x y : Str) : (x ++ y).length = x.length + y.length := by
  show (Str.append x y).cps.size = _
  simp [Str.append, Str.length]
/-- the texts and numbers that an exception's text takes are short -/
def fmtS (ds : List D) : List (Str ⊕ Nat) → Bool
  | [] => true
  | .inl x :: r => decide (x.length ≤ 1000) && fmtS ds r
  | .inr i :: r => (match i with
    | 0 => false
    | i + 1 => match ds[i]? with
      | some (.str y) => decide (y.length ≤ 1000)
      | some (.int n) => decide (n.natAbs < 10 ^ 500)
      | _ => false) && fmtS ds r
theorem pow500 : (10 : Nat) ^ 500 < 2 ^ 1800 := by decide +kernel
theorem fmtB_of {ds : List D} : ∀ {parts : List (Str ⊕ Nat)} {acc : Str}, fmtS ds parts = true → acc.length + parts.length * 1000 ≤ 1000000 → fmtB ds parts acc = true
  | [], _, _, _ => rfl
  | .inl x :: r, acc, h, l => by
    simp only [fmtS, Bool.and_eq_true, decide_eq_true_eq] at h
    simp only [List.length_cons] at l
    simp only [fmtB, Bool.and_eq_true, decide_eq_true_eq]
    have e := app_len acc x
    exact ⟨line_small (by omega), fmtB_of h.2 (by omega)⟩
  | .inr 0 :: r, acc, h, l => by simp [fmtS] at h
  | .inr (i + 1) :: r, acc, h, l => by
    simp only [fmtS, Bool.and_eq_true] at h
    simp only [List.length_cons] at l
    obtain ⟨h1, h2⟩ := h
    cases e : ds[i]? with
    | none => rw [e] at h1; simp at h1
    | some d =>
      rw [e] at h1
      cases d with
      | str y =>
        have h1 := of_decide_eq_true h1
        have q := app_len acc y
        simp only [fmtB, e, Bool.and_eq_true, decide_eq_true_eq]
        exact ⟨line_small (by omega), line_small (by omega), fmtB_of h2 (by omega)⟩
      | int n =>
        have h1 := of_decide_eq_true h1
        have q := app_len acc (toString n : Str)
        have z := num_len (i := n) (k := 499) h1
        have z : (toString n : Str).length ≤ 501 := z
        have w := log2_small (n := n.natAbs) (a := 1800) (Nat.lt_trans h1 pow500) (by decide) (by decide)
        simp only [fmtB, e, Bool.and_eq_true, decide_eq_true_eq]
        exact ⟨w, line_small (by omega), fmtB_of h2 (by omega)⟩
      | _ => simp at h1
end Y
namespace KK
open PySem PySem.Spec PyProof.Rows L2 Y
def top (i : Nat) : Stmt := PySem.Challenge.pw_depotyear_k06_net_parts_and_refusals.main.body.getD i (.Pass ⟨0, 0, 0, 0⟩)
def parts_BadNet : List (Str ⊕ Nat) := [.inl (Str.ofString "wrong net: "), .inr 1, .inl (Str.ofString " "), .inr 2]
def fl_BadNet : List (String × Nat) := [("part", 1), ("place", 2)]
def parts_UnknownSpan : List (Str ⊕ Nat) := [.inl (Str.ofString "unknown span: "), .inr 1]
def fl_UnknownSpan : List (String × Nat) := [("number", 1)]
structure Net where
  round_length : Int
  events : Int
  spans : List ((Int) × (Int) × (Int) × (Int))
def flNet (b : Net) : List (String × D) := [("round_length", D.int b.round_length), ("events", D.int b.events), ("spans", (dU (dT4 D.int D.int D.int D.int)) b.spans)]
def dNet (b : Net) : D := .obj "Net" (flNet b)
theorem nolf_Net (x : Net) : nolf (flNet x) = true := by simp [flNet, nolf, Nol.h]
instance : Nol dNet := ⟨nolf_Net⟩
theorem fld_Net_round_length : FldOf dNet "Net" "round_length" D.int (fun b => b.round_length) := fun x => ⟨_, rfl, rfl⟩
theorem fld_Net_events : FldOf dNet "Net" "events" D.int (fun b => b.events) := fun x => ⟨_, rfl, rfl⟩
theorem fld_Net_spans : FldOf dNet "Net" "spans" (dU (dT4 D.int D.int D.int D.int)) (fun b => b.spans) := fun x => ⟨_, rfl, rfl⟩
theorem nf_Net_plus : NoF dNet "Net" "plus" := fun x => ⟨_, rfl, by rfl⟩
theorem nf_Net_without : NoF dNet "Net" "without" := fun x => ⟨_, rfl, by rfl⟩
def known_ (c : String) : Bool := ["DepotError", "BadRounds", "BadNet", "BadTimes", "BadPath", "UnknownSpan", "UnknownEvent", "BrokenSpan", "TooMany", "ShutRing"].contains c
def named_BadNet (c : String) : Bool := ["BadNet"].contains c
def named_UnknownSpan (c : String) : Bool := ["UnknownSpan"].contains c
structure Fa (W : Wd) : Prop where
  ValueError : W.mg "ValueError" = none
  Exception : W.mg "Exception" = none
  len : W.mg "len" = none
  abs : W.mg "abs" = none
  int : W.mg "int" = none
  list : W.mg "list" = none
  tuple : W.mg "tuple" = none
  range : W.mg "range" = none
  enumerate : W.mg "enumerate" = none
  set : W.mg "set" = none
  sorted : W.mg "sorted" = none
  sum : W.mg "sum" = none
  any : W.mg "any" = none
  all : W.mg "all" = none
  min : W.mg "min" = none
  max : W.mg "max" = none
  isinstance : W.mg "isinstance" = none
  bool : W.mg "bool" = none
  str : W.mg "str" = none
  zip : W.mg "zip" = none
  super : W.mg "super" = none
  catch_BadNet : Catches W "BadNet" known_ named_BadNet
  catch_UnknownSpan : Catches W "UnknownSpan" known_ named_UnknownSpan
  cf_Net_events : ClsF W "Net" "events"
  cf_Net_round_length : ClsF W "Net" "round_length"
  cf_Net_spans : ClsF W "Net" "spans"
  cls_Net : Cls W.K (He.ga W.K (Str.ofString "Net"))
  cls_Netg : W.mg "Net" = some (.ref (He.ga W.K (Str.ofString "Net")))
  cls_BadNetg : W.mg "BadNet" = some (.ref (He.ga W.K (Str.ofString "BadNet")))
  cls_BadPathg : W.mg "BadPath" = some (.ref (He.ga W.K (Str.ofString "BadPath")))
  cls_BadRoundsg : W.mg "BadRounds" = some (.ref (He.ga W.K (Str.ofString "BadRounds")))
  cls_BadTimesg : W.mg "BadTimes" = some (.ref (He.ga W.K (Str.ofString "BadTimes")))
  cls_BrokenSpang : W.mg "BrokenSpan" = some (.ref (He.ga W.K (Str.ofString "BrokenSpan")))
  cls_DepotErrorg : W.mg "DepotError" = some (.ref (He.ga W.K (Str.ofString "DepotError")))
  cls_ShutRingg : W.mg "ShutRing" = some (.ref (He.ga W.K (Str.ofString "ShutRing")))
  cls_TooManyg : W.mg "TooMany" = some (.ref (He.ga W.K (Str.ofString "TooMany")))
  cls_UnknownEventg : W.mg "UnknownEvent" = some (.ref (He.ga W.K (Str.ofString "UnknownEvent")))
  cls_UnknownSpang : W.mg "UnknownSpan" = some (.ref (He.ga W.K (Str.ofString "UnknownSpan")))
  def_Net___eq__ : ∃ fd, FunD W.K "__eq__" "Net.__eq__" (defArgs (inClass (top 20) 1)) (defBody (inClass (top 20) 1)) (defScope (inClass (top 20) 1)) [] [] (He.ma W.K (He.ga W.K (Str.ofString "Net")) "__eq__") fd
  def_Net_init : ∃ fd, FunD W.K "__init__" "Net.__init__" (defArgs (inClass (top 20) 0)) (defBody (inClass (top 20) 0)) (defScope (inClass (top 20) 0)) [] [] (He.ma W.K (He.ga W.K (Str.ofString "Net")) "__init__") fd
  def_Net_plus : ∃ fd, FunD W.K "plus" "Net.plus" (defArgs (inClass (top 20) 2)) (defBody (inClass (top 20) 2)) (defScope (inClass (top 20) 2)) [] [] (He.ma W.K (He.ga W.K (Str.ofString "Net")) "plus") fd
  def_Net_without : ∃ fd, FunD W.K "without" "Net.without" (defArgs (inClass (top 20) 3)) (defBody (inClass (top 20) 3)) (defScope (inClass (top 20) 3)) [] [] (He.ma W.K (He.ga W.K (Str.ofString "Net")) "without") fd
  def__law_any_spans : ∃ fd, FunD W.K "_law_any_spans" "_law_any_spans" (defArgs (top 29)) (defBody (top 29)) (defScope (top 29)) [] [] (He.ga W.K "_law_any_spans") fd
  def__law_cell : ∃ fd, FunD W.K "_law_cell" "_law_cell" (defArgs (top 22)) (defBody (top 22)) (defScope (top 22)) [] [] (He.ga W.K "_law_cell") fd
  def__law_count : ∃ fd, FunD W.K "_law_count" "_law_count" (defArgs (top 28)) (defBody (top 28)) (defScope (top 28)) [] [] (He.ga W.K "_law_count") fd
  def__law_fault : ∃ fd, FunD W.K "_law_fault" "_law_fault" (defArgs (top 30)) (defBody (top 30)) (defScope (top 30)) [] [] (He.ga W.K "_law_fault") fd
  def__law_judged : ∃ fd, FunD W.K "_law_judged" "_law_judged" (defArgs (top 34)) (defBody (top 34)) (defScope (top 34)) [] [] (He.ga W.K "_law_judged") fd
  def__law_length : ∃ fd, FunD W.K "_law_length" "_law_length" (defArgs (top 26)) (defBody (top 26)) (defScope (top 26)) [] [] (He.ga W.K "_law_length") fd
  def__law_many : ∃ fd, FunD W.K "_law_many" "_law_many" (defArgs (top 27)) (defBody (top 27)) (defScope (top 27)) [] [] (He.ga W.K "_law_many") fd
  def__law_near_span : ∃ fd, FunD W.K "_law_near_span" "_law_near_span" (defArgs (top 31)) (defBody (top 31)) (defScope (top 31)) [] [] (He.ga W.K "_law_near_span") fd
  def__law_nets_near : ∃ fd, FunD W.K "_law_nets_near" "_law_nets_near" (defArgs (top 32)) (defBody (top 32)) (defScope (top 32)) [] [] (He.ga W.K "_law_nets_near") fd
  def__law_number : ∃ fd, FunD W.K "_law_number" "_law_number" (defArgs (top 37)) (defBody (top 37)) (defScope (top 37)) [] [] (He.ga W.K "_law_number") fd
  def__law_numbers : ∃ fd, FunD W.K "_law_numbers" "_law_numbers" (defArgs (top 38)) (defBody (top 38)) (defScope (top 38)) [] [] (He.ga W.K "_law_numbers") fd
  def__law_plus : ∃ fd, FunD W.K "_law_plus" "_law_plus" (defArgs (top 35)) (defBody (top 35)) (defScope (top 35)) [] [] (He.ga W.K "_law_plus") fd
  def__law_plus_good : ∃ fd, FunD W.K "_law_plus_good" "_law_plus_good" (defArgs (top 36)) (defBody (top 36)) (defScope (top 36)) [] [] (He.ga W.K "_law_plus_good") fd
  def__law_pool : ∃ fd, FunD W.K "_law_pool" "_law_pool" (defArgs (top 23)) (defBody (top 23)) (defScope (top 23)) [] [] (He.ga W.K "_law_pool") fd
  def__law_same : ∃ fd, FunD W.K "_law_same" "_law_same" (defArgs (top 25)) (defBody (top 25)) (defScope (top 25)) [] [] (He.ga W.K "_law_same") fd
  def__law_shows : ∃ fd, FunD W.K "_law_shows" "_law_shows" (defArgs (top 33)) (defBody (top 33)) (defScope (top 33)) [] [] (He.ga W.K "_law_shows") fd
  def__law_take : ∃ fd, FunD W.K "_law_take" "_law_take" (defArgs (top 24)) (defBody (top 24)) (defScope (top 24)) [] [] (He.ga W.K "_law_take") fd
  def__law_without : ∃ fd, FunD W.K "_law_without" "_law_without" (defArgs (top 39)) (defBody (top 39)) (defScope (top 39)) [] [] (He.ga W.K "_law_without") fd
  def__law_without_good : ∃ fd, FunD W.K "_law_without_good" "_law_without_good" (defArgs (top 40)) (defBody (top 40)) (defScope (top 40)) [] [] (He.ga W.K "_law_without_good") fd
  def_is_span : ∃ fd, FunD W.K "is_span" "is_span" (defArgs (top 19)) (defBody (top 19)) (defScope (top 19)) [] [] (He.ga W.K "is_span") fd
  def_is_window : ∃ fd, FunD W.K "is_window" "is_window" (defArgs (top 18)) (defBody (top 18)) (defScope (top 18)) [] [] (He.ga W.K "is_window") fd
  def_law : ∃ fd, FunD W.K "law" "law" (defArgs (top 41)) (defBody (top 41)) (defScope (top 41)) [] [] (He.ga W.K "law") fd
  ec_BadNet : ExcC W.K (He.ga W.K (Str.ofString "BadNet"))
  ec_UnknownSpan : ExcC W.K (He.ga W.K (Str.ofString "UnknownSpan"))
  ek_BadNet_BadPath : PySem.W.kitOne W.K (.ref (He.ga W.K (Str.ofString "BadNet"))) (.ref (He.ga W.K (Str.ofString "BadPath"))) = some false
  ek_BadNet_BadRounds : PySem.W.kitOne W.K (.ref (He.ga W.K (Str.ofString "BadNet"))) (.ref (He.ga W.K (Str.ofString "BadRounds"))) = some false
  ek_BadNet_BadTimes : PySem.W.kitOne W.K (.ref (He.ga W.K (Str.ofString "BadNet"))) (.ref (He.ga W.K (Str.ofString "BadTimes"))) = some false
  ek_BadNet_BrokenSpan : PySem.W.kitOne W.K (.ref (He.ga W.K (Str.ofString "BadNet"))) (.ref (He.ga W.K (Str.ofString "BrokenSpan"))) = some false
  ek_BadNet_DepotError : PySem.W.kitOne W.K (.ref (He.ga W.K (Str.ofString "BadNet"))) (.ref (He.ga W.K (Str.ofString "DepotError"))) = some true
  ek_BadNet_ShutRing : PySem.W.kitOne W.K (.ref (He.ga W.K (Str.ofString "BadNet"))) (.ref (He.ga W.K (Str.ofString "ShutRing"))) = some false
  ek_BadNet_TooMany : PySem.W.kitOne W.K (.ref (He.ga W.K (Str.ofString "BadNet"))) (.ref (He.ga W.K (Str.ofString "TooMany"))) = some false
  ek_BadNet_UnknownEvent : PySem.W.kitOne W.K (.ref (He.ga W.K (Str.ofString "BadNet"))) (.ref (He.ga W.K (Str.ofString "UnknownEvent"))) = some false
  ek_BadNet_UnknownSpan : PySem.W.kitOne W.K (.ref (He.ga W.K (Str.ofString "BadNet"))) (.ref (He.ga W.K (Str.ofString "UnknownSpan"))) = some false
  ek_BadNet_ValueError : PySem.W.kitOne W.K (.ref (He.ga W.K (Str.ofString "BadNet"))) (.type "ValueError") = some true
  ek_Net_Net : PySem.W.kitOne W.K (.ref (He.ga W.K (Str.ofString "Net"))) (.ref (He.ga W.K (Str.ofString "Net"))) = some true
  ek_UnknownSpan_BadNet : PySem.W.kitOne W.K (.ref (He.ga W.K (Str.ofString "UnknownSpan"))) (.ref (He.ga W.K (Str.ofString "BadNet"))) = some false
  ek_UnknownSpan_DepotError : PySem.W.kitOne W.K (.ref (He.ga W.K (Str.ofString "UnknownSpan"))) (.ref (He.ga W.K (Str.ofString "DepotError"))) = some true
  ek_UnknownSpan_ValueError : PySem.W.kitOne W.K (.ref (He.ga W.K (Str.ofString "UnknownSpan"))) (.type "ValueError") = some true
  exc_BadNet : ExcCls W "BadNet" 2 parts_BadNet fl_BadNet
  exc_UnknownSpan : ExcCls W "UnknownSpan" 1 parts_UnknownSpan fl_UnknownSpan
  fn__law_any_spans : W.mg "_law_any_spans" = some (.ref (He.ga W.K "_law_any_spans"))
  fn__law_cell : W.mg "_law_cell" = some (.ref (He.ga W.K "_law_cell"))
  fn__law_count : W.mg "_law_count" = some (.ref (He.ga W.K "_law_count"))
  fn__law_fault : W.mg "_law_fault" = some (.ref (He.ga W.K "_law_fault"))
  fn__law_judged : W.mg "_law_judged" = some (.ref (He.ga W.K "_law_judged"))
  fn__law_length : W.mg "_law_length" = some (.ref (He.ga W.K "_law_length"))
  fn__law_many : W.mg "_law_many" = some (.ref (He.ga W.K "_law_many"))
  fn__law_near_span : W.mg "_law_near_span" = some (.ref (He.ga W.K "_law_near_span"))
  fn__law_nets_near : W.mg "_law_nets_near" = some (.ref (He.ga W.K "_law_nets_near"))
  fn__law_number : W.mg "_law_number" = some (.ref (He.ga W.K "_law_number"))
  fn__law_numbers : W.mg "_law_numbers" = some (.ref (He.ga W.K "_law_numbers"))
  fn__law_plus : W.mg "_law_plus" = some (.ref (He.ga W.K "_law_plus"))
  fn__law_plus_good : W.mg "_law_plus_good" = some (.ref (He.ga W.K "_law_plus_good"))
  fn__law_pool : W.mg "_law_pool" = some (.ref (He.ga W.K "_law_pool"))
  fn__law_same : W.mg "_law_same" = some (.ref (He.ga W.K "_law_same"))
  fn__law_shows : W.mg "_law_shows" = some (.ref (He.ga W.K "_law_shows"))
  fn__law_take : W.mg "_law_take" = some (.ref (He.ga W.K "_law_take"))
  fn__law_without : W.mg "_law_without" = some (.ref (He.ga W.K "_law_without"))
  fn__law_without_good : W.mg "_law_without_good" = some (.ref (He.ga W.K "_law_without_good"))
  fn_is_span : W.mg "is_span" = some (.ref (He.ga W.K "is_span"))
  fn_is_window : W.mg "is_window" = some (.ref (He.ga W.K "is_window"))
  -- ('ic', 'BadNet')
  -- ('ic', 'BadPath')
  -- ('ic', 'BadRounds')
  -- ('ic', 'BadTimes')
  -- ('ic', 'BrokenSpan')
  -- ('ic', 'DepotError')
  -- ('ic', 'Net')
  -- ('ic', 'ShutRing')
  -- ('ic', 'TooMany')
  -- ('ic', 'UnknownEvent')
  -- ('ic', 'UnknownSpan')
  -- ('ic', 'ValueError')
  -- ('ic', 'bool')
  -- ('ic', 'int')
  -- ('ic', 'list')
  -- ('ic', 'str')
  -- ('ic', 'tuple')
  ik_Net : InsK W.K (He.ga W.K (Str.ofString "Net"))
  int_LONGEST_ROUND : ∃ t, W.mg "LONGEST_ROUND" = some (.int (60) t)
  int_MOST_EVENTS : ∃ t, W.mg "MOST_EVENTS" = some (.int (12) t)
  int_MOST_MINUTES : ∃ t, W.mg "MOST_MINUTES" = some (.int (999) t)
  int_MOST_SPANS : ∃ t, W.mg "MOST_SPANS" = some (.int (24) t)
  int_SHORTEST_ROUND : ∃ t, W.mg "SHORTEST_ROUND" = some (.int (2) t)
  meth_Net___eq__ : Meth W.K (He.ga W.K (Str.ofString "Net")) "__eq__" (He.ma W.K (He.ga W.K (Str.ofString "Net")) "__eq__")
  meth_Net_plus : Meth W.K (He.ga W.K (Str.ofString "Net")) "plus" (He.ma W.K (He.ga W.K (Str.ofString "Net")) "plus")
  meth_Net_without : Meth W.K (He.ga W.K (Str.ofString "Net")) "without" (He.ma W.K (He.ga W.K (Str.ofString "Net")) "without")
  mk_Net : Mk W.K (He.ga W.K (Str.ofString "Net")) (He.ma W.K (He.ga W.K (Str.ofString "Net")) "__init__")
  xf_BadNet : XfC W.K (He.ga W.K (Str.ofString "BadNet"))
  xf_UnknownSpan : XfC W.K (He.ga W.K (Str.ofString "UnknownSpan"))
  xn_BadNet_part : PySem.W.findIn W.K (.ref (He.ga W.K (Str.ofString "BadNet"))) (Str.ofString "part") = some none
  xn_BadNet_place : PySem.W.findIn W.K (.ref (He.ga W.K (Str.ofString "BadNet"))) (Str.ofString "place") = some none
  xn_UnknownSpan_number : PySem.W.findIn W.K (.ref (He.ga W.K (Str.ofString "UnknownSpan"))) (Str.ofString "number") = some none
theorem ic_BadNet {W : Wd} (g : Fa W) : IsCls W "BadNet" (.ref (He.ga W.K (Str.ofString "BadNet"))) (.ref (He.ga W.K (Str.ofString "BadNet"))) := .own _ g.cls_BadNetg (by decide)
theorem ic_BadPath {W : Wd} (g : Fa W) : IsCls W "BadPath" (.ref (He.ga W.K (Str.ofString "BadPath"))) (.ref (He.ga W.K (Str.ofString "BadPath"))) := .own _ g.cls_BadPathg (by decide)
theorem ic_BadRounds {W : Wd} (g : Fa W) : IsCls W "BadRounds" (.ref (He.ga W.K (Str.ofString "BadRounds"))) (.ref (He.ga W.K (Str.ofString "BadRounds"))) := .own _ g.cls_BadRoundsg (by decide)
theorem ic_BadTimes {W : Wd} (g : Fa W) : IsCls W "BadTimes" (.ref (He.ga W.K (Str.ofString "BadTimes"))) (.ref (He.ga W.K (Str.ofString "BadTimes"))) := .own _ g.cls_BadTimesg (by decide)
theorem ic_BrokenSpan {W : Wd} (g : Fa W) : IsCls W "BrokenSpan" (.ref (He.ga W.K (Str.ofString "BrokenSpan"))) (.ref (He.ga W.K (Str.ofString "BrokenSpan"))) := .own _ g.cls_BrokenSpang (by decide)
theorem ic_DepotError {W : Wd} (g : Fa W) : IsCls W "DepotError" (.ref (He.ga W.K (Str.ofString "DepotError"))) (.ref (He.ga W.K (Str.ofString "DepotError"))) := .own _ g.cls_DepotErrorg (by decide)
theorem ic_Net {W : Wd} (g : Fa W) : IsCls W "Net" (.ref (He.ga W.K (Str.ofString "Net"))) (.ref (He.ga W.K (Str.ofString "Net"))) := .own _ g.cls_Netg (by decide)
theorem ic_ShutRing {W : Wd} (g : Fa W) : IsCls W "ShutRing" (.ref (He.ga W.K (Str.ofString "ShutRing"))) (.ref (He.ga W.K (Str.ofString "ShutRing"))) := .own _ g.cls_ShutRingg (by decide)
theorem ic_TooMany {W : Wd} (g : Fa W) : IsCls W "TooMany" (.ref (He.ga W.K (Str.ofString "TooMany"))) (.ref (He.ga W.K (Str.ofString "TooMany"))) := .own _ g.cls_TooManyg (by decide)
theorem ic_UnknownEvent {W : Wd} (g : Fa W) : IsCls W "UnknownEvent" (.ref (He.ga W.K (Str.ofString "UnknownEvent"))) (.ref (He.ga W.K (Str.ofString "UnknownEvent"))) := .own _ g.cls_UnknownEventg (by decide)
theorem ic_UnknownSpan {W : Wd} (g : Fa W) : IsCls W "UnknownSpan" (.ref (He.ga W.K (Str.ofString "UnknownSpan"))) (.ref (He.ga W.K (Str.ofString "UnknownSpan"))) := .own _ g.cls_UnknownSpang (by decide)
theorem ic_ValueError {W : Wd} (g : Fa W) : IsCls W "ValueError" (.ty "ValueError") (.type "ValueError") := .ty _ g.ValueError (by decide +kernel) (by decide)
theorem ic_bool {W : Wd} (g : Fa W) : IsCls W "bool" (.ty "bool") (.type "bool") := .ty _ g.bool (by decide +kernel) (by decide)
theorem ic_int {W : Wd} (g : Fa W) : IsCls W "int" (.ty "int") (.type "int") := .ty _ g.int (by decide +kernel) (by decide)
theorem ic_list {W : Wd} (g : Fa W) : IsCls W "list" (.ty "list") (.type "list") := .ty _ g.list (by decide +kernel) (by decide)
theorem ic_str {W : Wd} (g : Fa W) : IsCls W "str" (.ty "str") (.type "str") := .ty _ g.str (by decide +kernel) (by decide)
theorem ic_tuple {W : Wd} (g : Fa W) : IsCls W "tuple" (.ty "tuple") (.type "tuple") := .ty _ g.tuple (by decide +kernel) (by decide)
def m_law_cell (x : (List Int) × (Int)) : M (Int) :=
  (bif decide (x.2 < ((x.1.length : Nat) : Int)) then
  M.bind (idxM x.1 x.2) fun v_1 =>
  .ok ((if v_1 < 0 then -v_1 else v_1))
  else
  .ok ((0 : Int)))
abbrev s_law_cell : Spc ((List Int) × (Int)) (Int) := sp0 (fun x => [.dat (dS x.1), .dat (D.int x.2)]) m_law_cell D.int
abbrev c_law_cell : Sco := ⟨["script", "k"], defScope (top 22), [0, 1], [0, 1], ["len", "abs"], 0, true⟩
def m_law_pool (x : (List Int) × (Int)) : M (List (Int)) :=
  M.bind (M.noexc (m_law_cell ((x.1, x.2)))) fun r_1 =>
  M.bind (.ok (r_1 : Int)) fun cell_1 =>
  M.bind (powM ((10 : Int)) ((18 : Int))) fun n_1 =>
  M.bind (mulM ((1000 : Int)) x.2) fun n_2 =>
  .ok ([cell_1, (if decide (n_1 ≤ cell_1) then 1 else 0), n_2])
abbrev s_law_pool : Spc ((List Int) × (Int)) (List (Int)) := sp0O (fun x => [.dat (dS x.1), .dat (D.int x.2)]) m_law_pool D.int
abbrev c_law_pool : Sco := ⟨["script", "k", "cell"], defScope (top 23), [0, 1, 2], [0, 1, 2], ["int", "_law_cell"], 1, true⟩
def m_law_take (x : (List (Int)) × (Int)) : M ((Int) × List (Int)) :=
  M.bind (M.bind (idxM x.1 ((1 : Int))) fun v_1 =>
  (bif decide (v_1 = (1 : Int)) then
  M.bind (idxM x.1 ((0 : Int))) fun v_2 =>
  .ok (decide ((1 : Int) < v_2))
  else
  .ok false)) fun b_1 =>
  (bif b_1 then
  M.bind (idxM x.1 ((0 : Int))) fun v_3 =>
  M.bind (modM v_3 x.2) fun n_1 =>
  M.bind (.ok (n_1 : Int)) fun drawn_1 =>
  M.bind (idxM x.1 ((0 : Int))) fun v_4 =>
  M.bind (divM v_4 x.2) fun n_2 =>
  M.bind (setM x.1 ((0 : Int)) n_2) fun pool_1 =>
  .ok (drawn_1, pool_1)
  else
  M.bind (idxM x.1 ((2 : Int))) fun v_5 =>
  M.bind (setM x.1 ((2 : Int)) ((v_5 + (1 : Int)))) fun pool_2 =>
  M.bind (idxM pool_2 ((0 : Int))) fun v_6 =>
  M.bind (mulM ((v_6 + (7 : Int))) ((48271 : Int))) fun n_3 =>
  M.bind (idxM pool_2 ((2 : Int))) fun v_7 =>
  M.bind (mulM v_7 ((69621 : Int))) fun n_4 =>
  M.bind (modM ((n_3 + n_4)) ((2147483629 : Int))) fun n_5 =>
  M.bind (.ok (n_5 : Int)) fun mixed_1 =>
  M.bind (mulM mixed_1 ((16807 : Int))) fun n_6 =>
  M.bind (idxM pool_2 ((2 : Int))) fun v_8 =>
  M.bind (mulM v_8 ((7919 : Int))) fun n_7 =>
  M.bind (modM ((n_6 + n_7)) ((2147483587 : Int))) fun n_8 =>
  M.bind (.ok (n_8 : Int)) fun mixed_2 =>
  M.bind (idxM pool_2 ((0 : Int))) fun v_9 =>
  M.bind (bif decide ((15 : Int) < v_9) then
  M.bind (divM mixed_2 ((7 : Int))) fun n_9 =>
  M.bind (divM mixed_2 ((1009 : Int))) fun n_10 =>
  M.bind (idxM pool_2 ((2 : Int))) fun v_10 =>
  M.bind (mulM n_9 (((n_10 + v_10) + (3 : Int)))) fun n_11 =>
  M.bind (modM n_11 ((2147483563 : Int))) fun n_12 =>
  M.bind (.ok (n_12 : Int)) fun mixed_3 =>
  .ok ((mixed_3, pool_2))
  else
  .ok ((mixed_2, pool_2))) fun (s_1 : (Int) × (List (Int))) =>
  M.bind (divM s_1.1 ((11 : Int))) fun n_13 =>
  M.bind (modM n_13 x.2) fun n_14 =>
  .ok (n_14, s_1.2))
abbrev s_law_take : Spc ((List (Int)) × (Int)) ((Int) × List (Int)) := sp1 (fun p x => [.own p, .dat (D.int x.2)]) (fun x => oL D.int x.1) m_law_take D.int (fun s => oL D.int s)
abbrev c_law_take : Sco := ⟨["pool", "many", "mixed", "drawn"], defScope (top 24), [0, 1, 2, 3], [0, 1, 2, 3], ["int"], 0, true⟩
def m_law_length (x : (List (Int))) : M ((Int) × List (Int)) :=
  M.bind (M.noexc (m_law_take ((x, (3 : Int))))) fun r_1 =>
  (bif decide (r_1.1 = (0 : Int)) then
  M.bind (M.noexc (m_law_take ((r_1.2, (59 : Int))))) fun r_2 =>
  .ok (((2 : Int) + r_2.1), r_2.2)
  else
  M.bind (M.noexc (m_law_take ((r_1.2, (6 : Int))))) fun r_3 =>
  M.bind (idxM ([(2 : Int), (3 : Int), (5 : Int), (10 : Int), (24 : Int), (60 : Int)]) r_3.1) fun v_1 =>
  .ok (v_1, r_3.2))
abbrev s_law_length : Spc ((List (Int))) ((Int) × List (Int)) := sp1 (fun p x => [.own p]) (fun x => oL D.int x) m_law_length D.int (fun s => oL D.int s)
abbrev c_law_length : Sco := ⟨["pool"], defScope (top 26), [0], [0], ["_law_take"], 1, true⟩
def m_law_many (x : (List (Int))) : M ((Int) × List (Int)) :=
  M.bind (M.noexc (m_law_take ((x, (10 : Int))))) fun r_1 =>
  M.bind (.ok (r_1.1 : Int)) fun way_1 =>
  (bif decide (way_1 = (0 : Int)) then
  M.bind (M.noexc (m_law_take ((r_1.2, (2 : Int))))) fun r_2 =>
  .ok (r_2.1, r_2.2)
  else
  (bif decide (way_1 = (1 : Int)) then
  M.bind (M.noexc (m_law_take ((r_1.2, (6 : Int))))) fun r_3 =>
  .ok (((7 : Int) + r_3.1), r_3.2)
  else
  M.bind (M.noexc (m_law_take ((r_1.2, (5 : Int))))) fun r_4 =>
  .ok (((2 : Int) + r_4.1), r_4.2)))
abbrev s_law_many : Spc ((List (Int))) ((Int) × List (Int)) := sp1 (fun p x => [.own p]) (fun x => oL D.int x) m_law_many D.int (fun s => oL D.int s)
abbrev c_law_many : Sco := ⟨["pool", "way"], defScope (top 27), [0, 1], [0, 1], ["_law_take"], 1, true⟩
def m_law_any_spans (x : (List (Int)) × (Int) × (Int) × (Int)) : M ((List ((Int) × (Int) × (Int) × (Int))) × List (Int)) :=
  M.bind (rngM 0 x.2.2.2) fun xs_1 =>
  M.bind (foldM xs_1 ((x.1, ([] : List ((Int) × (Int) × (Int) × (Int))))) fun (it_1 : Int) (s_1 : (List (Int)) × (List ((Int) × (Int) × (Int) × (Int)))) =>
  M.bind (M.noexc (m_law_take ((s_1.1, x.2.2.1)))) fun r_1 =>
  M.bind (.ok (r_1.1 : Int)) fun start_1 =>
  M.bind (M.noexc (m_law_take ((r_1.2, (x.2.2.1 - (1 : Int)))))) fun r_2 =>
  M.bind (modM (((start_1 + (1 : Int)) + r_2.1)) x.2.2.1) fun n_1 =>
  M.bind (.ok (n_1 : Int)) fun end_1 =>
  M.bind (mulM ((3 : Int)) x.2.1) fun n_2 =>
  M.bind (.ok (n_2 : Int)) fun room_1 =>
  M.bind (M.noexc (m_law_take ((r_2.2, (6 : Int))))) fun r_3 =>
  M.bind (bif decide (r_3.1 = (0 : Int)) then
  M.bind (.ok ((1000 : Int) : Int)) fun room_2 =>
  .ok ((room_2, r_3.2))
  else
  .ok ((room_1, r_3.2))) fun (s_3 : (Int) × (List (Int))) =>
  M.bind (M.noexc (m_law_take ((s_3.2, s_3.1)))) fun r_4 =>
  M.bind (.ok (r_4.1 : Int)) fun low_1 =>
  M.bind (M.noexc (m_law_take ((r_4.2, (min x.2.1 (((1000 : Int) - low_1))))))) fun r_5 =>
  M.bind (appM s_1.2 ((start_1, end_1, low_1, (low_1 + r_5.1)))) fun spans_1 =>
  M.bind (M.noexc (m_law_take ((r_5.2, (8 : Int))))) fun r_6 =>
  M.bind (bif decide (r_6.1 = (0 : Int)) then
  M.bind (M.noexc (m_law_take ((r_6.2, (it_1 + (1 : Int)))))) fun r_7 =>
  M.bind (idxM spans_1 r_7.1) fun v_1 =>
  M.bind (setM spans_1 it_1 v_1) fun spans_2 =>
  .ok ((r_7.2, spans_2))
  else
  .ok ((r_6.2, spans_1))) fun (s_4 : (List (Int)) × (List ((Int) × (Int) × (Int) × (Int)))) =>
  .ok ((s_4.1, s_4.2))) fun (s_2 : (List (Int)) × (List ((Int) × (Int) × (Int) × (Int)))) =>
  .ok (s_2.2, s_2.1)
abbrev s_law_any_spans : Spc ((List (Int)) × (Int) × (Int) × (Int)) ((List ((Int) × (Int) × (Int) × (Int))) × List (Int)) := sp1 (fun p x => [.own p, .dat (D.int x.2.1), .dat (D.int x.2.2.1), .dat (D.int x.2.2.2)]) (fun x => oL D.int x.1) m_law_any_spans (dL (dT4 D.int D.int D.int D.int)) (fun s => oL D.int s)
abbrev c_law_any_spans : Sco := ⟨["pool", "length", "many", "count", "spans", "k", "start", "end", "room", "low"], defScope (top 29), [0, 1, 2, 3, 4, 5, 6, 7, 8, 9], [0, 1, 2, 3, 4, 5, 6, 7, 8, 9], ["range", "int", "min", "_law_take"], 1, true⟩
def m_law_count (x : (List (Int)) × (Int)) : M ((Int) × List (Int)) :=
  (bif decide (x.2 < (2 : Int)) then
  .ok ((0 : Int), x.1)
  else
  M.bind (M.noexc (m_law_take ((x.1, (10 : Int))))) fun r_1 =>
  (bif decide (r_1.1 = (0 : Int)) then
  M.bind (M.noexc (m_law_take ((r_1.2, (17 : Int))))) fun r_2 =>
  .ok (((8 : Int) + r_2.1), r_2.2)
  else
  M.bind (M.noexc (m_law_take ((r_1.2, (8 : Int))))) fun r_3 =>
  .ok (r_3.1, r_3.2)))
abbrev s_law_count : Spc ((List (Int)) × (Int)) ((Int) × List (Int)) := sp1 (fun p x => [.own p, .dat (D.int x.2)]) (fun x => oL D.int x.1) m_law_count D.int (fun s => oL D.int s)
abbrev c_law_count : Sco := ⟨["pool", "many"], defScope (top 28), [0, 1], [0, 1], ["_law_take"], 1, true⟩
def m_is_window (x : (Int) × (Int) × (Int) × (Int)) : M (Bool) :=
  (bif (decide ((0 : Int) ≤ x.2.1) && (decide (x.2.1 ≤ x.2.2.1) && decide (x.2.2.1 ≤ ((x.2.1 + x.1) - (1 : Int))))) then
  .ok (decide (x.2.2.1 ≤ x.2.2.2))
  else
  .ok false)
abbrev s_is_window : Spc ((Int) × (Int) × (Int) × (Int)) (Bool) := sp0 (fun x => [.dat (D.int x.1), .dat (D.int x.2.1), .dat (D.int x.2.2.1), .dat (D.int x.2.2.2)]) m_is_window D.bl
abbrev c_is_window : Sco := ⟨["round_length", "least", "most", "limit"], defScope (top 18), [0, 1, 2, 3], [0, 1, 2, 3], [], 0, true⟩
def m_is_span (x : (Int) × (Int) × ((Int) × (Int) × (Int) × (Int))) : M (Bool) :=
  (bif !decide ((4 : Int) = (4 : Int)) then
  .ok false
  else
  M.bind (.ok (x.2.2 : (Int) × (Int) × (Int) × (Int))) fun u_1 =>
  (bif ((!((decide ((0 : Int) ≤ u_1.1) && decide (u_1.1 < x.2.1)))) || ((!((decide ((0 : Int) ≤ u_1.2.1) && decide (u_1.2.1 < x.2.1)))) || decide (u_1.1 = u_1.2.1))) then
  .ok false
  else
  M.bind (M.noexc (m_is_window ((x.1, u_1.2.2.1, u_1.2.2.2, (999 : Int))))) fun r_1 =>
  .ok r_1))
abbrev s_is_span : Spc ((Int) × (Int) × ((Int) × (Int) × (Int) × (Int))) (Bool) := sp0 (fun x => [.dat (D.int x.1), .dat (D.int x.2.1), .dat ((dT4 D.int D.int D.int D.int) x.2.2)]) m_is_span D.bl
abbrev c_is_span : Sco := ⟨["round_length", "events", "span", "start", "end", "least", "most"], defScope (top 19), [0, 1, 2, 3, 4, 5, 6], [0, 1, 2, 3, 4, 5, 6], ["len", "MOST_MINUTES", "is_window"], 1, true⟩
def m_Net_Net (x : (Int) × (Int) × (List ((Int) × (Int) × (Int) × (Int)))) : M (Net) :=
  (bif !((decide ((2 : Int) ≤ x.1) && decide (x.1 ≤ (60 : Int)))) then
  chk (fmtB [D.str ((Str.ofString "round")), D.int ((0 : Int))] parts_BadNet Str.empty) (.exc ⟨"BadNet", fldD [D.str ((Str.ofString "round")), D.int ((0 : Int))] fl_BadNet []⟩)
  else
  (bif !((decide ((0 : Int) ≤ x.2.1) && decide (x.2.1 ≤ (12 : Int)))) then
  chk (fmtB [D.str ((Str.ofString "events")), D.int ((0 : Int))] parts_BadNet Str.empty) (.exc ⟨"BadNet", fldD [D.str ((Str.ofString "events")), D.int ((0 : Int))] fl_BadNet []⟩)
  else
  (bif decide ((24 : Int) < ((x.2.2.length : Nat) : Int)) then
  chk (fmtB [D.str ((Str.ofString "spans")), D.int ((0 : Int))] parts_BadNet Str.empty) (.exc ⟨"BadNet", fldD [D.str ((Str.ofString "spans")), D.int ((0 : Int))] fl_BadNet []⟩)
  else
  M.bind (foldM ((enumL x.2.2)) (()) fun (it_1 : (Int) × ((Int) × (Int) × (Int) × (Int))) (s_1 : Unit) =>
  M.bind (M.noexc (m_is_span ((x.1, x.2.1, it_1.2)))) fun r_1 =>
  (bif !r_1 then
  chk (fmtB [D.str ((Str.ofString "span")), D.int it_1.1] parts_BadNet Str.empty) (.exc ⟨"BadNet", fldD [D.str ((Str.ofString "span")), D.int it_1.1] fl_BadNet []⟩)
  else
  .ok (()))) fun (s_2 : Unit) =>
  M.bind (mapM x.2.2 fun (it_2 : (Int) × (Int) × (Int) × (Int)) =>
  .ok it_2) fun lst_1 =>
  .ok ⟨x.1, x.2.1, lst_1⟩)))
abbrev s_Net_Net : Spc ((Int) × (Int) × (List ((Int) × (Int) × (Int) × (Int)))) (Net) := spC "Net" flNet (fun p x => [.own p, .dat (D.int x.1), .dat (D.int x.2.1), .dat ((dL (dT4 D.int D.int D.int D.int)) x.2.2)]) m_Net_Net
abbrev c_Net_Net : Sco := ⟨["self", "round_length", "events", "spans", "place", "span"], defScope (inClass (top 20) 0), [0, 1, 2, 3, 4, 5], [0, 1, 2, 3, 4, 5], ["SHORTEST_ROUND", "LONGEST_ROUND", "BadNet", "MOST_EVENTS", "len", "MOST_SPANS", "enumerate", "is_span", "tuple"], 2, true⟩
def m_law_shows (x : (Net) × (Int) × (Int) × (List ((Int) × (Int) × (Int) × (Int)))) : M (Bool) :=
  M.bind (M.bind (M.noexc (mSame 1 (D.int x.1.round_length, D.int x.2.1))) fun r_1 =>
  (bif !r_1 then
  .ok true
  else
  M.bind (M.noexc (mSame 1 (D.int x.1.events, D.int x.2.2.1))) fun r_2 =>
  .ok (!r_2))) fun b_1 =>
  (bif b_1 then
  .ok false
  else
  M.bind (M.noexc (mSame 3 ((dU (dT4 D.int D.int D.int D.int)) x.1.spans, (dU (dT4 D.int D.int D.int D.int)) x.2.2.2))) fun r_3 =>
  .ok r_3)
abbrev s_law_shows : Spc ((Net) × (Int) × (Int) × (List ((Int) × (Int) × (Int) × (Int)))) (Bool) := sp0 (fun x => [.dat (dNet x.1), .dat (D.int x.2.1), .dat (D.int x.2.2.1), .dat ((dL (dT4 D.int D.int D.int D.int)) x.2.2.2)]) m_law_shows D.bl
abbrev c_law_shows : Sco := ⟨["net", "length", "many", "spans"], defScope (top 33), [0, 1, 2, 3], [0, 1, 2, 3], ["_law_same", "tuple"], 4, true⟩
def m_law_near_span (x : (List (Int)) × (Int) × (Int)) : M (((Int) × (Int) × (Int) × (Int)) × List (Int)) :=
  M.bind (.ok ((max x.2.2 ((2 : Int))) : Int)) fun room_1 =>
  M.bind (M.noexc (m_law_take ((x.1, room_1)))) fun r_1 =>
  M.bind (.ok (r_1.1 : Int)) fun start_1 =>
  M.bind (M.noexc (m_law_take ((r_1.2, (room_1 - (1 : Int)))))) fun r_2 =>
  M.bind (modM (((start_1 + (1 : Int)) + r_2.1)) room_1) fun n_1 =>
  M.bind (.ok (n_1 : Int)) fun end_1 =>
  M.bind (M.noexc (m_law_take ((r_2.2, ((1000 : Int) - x.2.1))))) fun r_3 =>
  M.bind (.ok (r_3.1 : Int)) fun low_1 =>
  M.bind (powM ((10 : Int)) ((8 : Int))) fun n_2 =>
  M.bind (M.noexc (m_law_take ((r_3.2, (6 : Int))))) fun r_4 =>
  M.bind (idxM ([(0 : Int), (0 : Int), (0 : Int), (1 : Int), (10 : Int), n_2]) r_4.1) fun v_1 =>
  M.bind (.ok (v_1 : Int)) fun far_1 =>
  M.bind (.ok ([(((-((1 : Int))) - far_1), end_1, low_1, low_1), ((x.2.2 + far_1), end_1, low_1, low_1), (start_1, ((-((1 : Int))) - far_1), low_1, low_1)] : List ((Int) × (Int) × (Int) × (Int)))) fun rows_1 =>
  M.bind (catM rows_1 ([(start_1, (x.2.2 + far_1), low_1, low_1), (start_1, start_1, low_1, low_1), (start_1, end_1, ((-((1 : Int))) - far_1), ((x.2.1 - (2 : Int)) - far_1))])) fun lst_1 =>
  M.bind (.ok (lst_1 : List ((Int) × (Int) × (Int) × (Int)))) fun rows_2 =>
  M.bind (catM rows_2 ([(start_1, end_1, ((low_1 + (1 : Int)) + far_1), low_1), (start_1, end_1, low_1, ((low_1 + x.2.1) + far_1)), (start_1, end_1, (999 : Int), (1000 : Int))])) fun lst_2 =>
  M.bind (.ok (lst_2 : List ((Int) × (Int) × (Int) × (Int)))) fun rows_3 =>
  M.bind (catM rows_3 ([(start_1, end_1, (1000 : Int), (1000 : Int)), (start_1, end_1, low_1, ((low_1 + x.2.1) - (1 : Int))), (start_1, end_1, low_1, low_1)])) fun lst_3 =>
  M.bind (.ok (lst_3 : List ((Int) × (Int) × (Int) × (Int)))) fun rows_4 =>
  M.bind (catM rows_4 ([(start_1, end_1, (0 : Int), (0 : Int)), (start_1, end_1, (0 : Int), (x.2.1 - (1 : Int))), (start_1, end_1, (999 : Int), (999 : Int))])) fun lst_4 =>
  M.bind (.ok (lst_4 : List ((Int) × (Int) × (Int) × (Int)))) fun rows_5 =>
  M.bind (catM rows_5 ([(start_1, end_1, ((1000 : Int) - x.2.1), (999 : Int))])) fun lst_5 =>
  M.bind (.ok (lst_5 : List ((Int) × (Int) × (Int) × (Int)))) fun rows_6 =>
  M.bind (M.noexc (m_law_take ((r_4.2, (16 : Int))))) fun r_5 =>
  M.bind (.ok (r_5.1 : Int)) fun way_1 =>
  M.bind ((bif decide (way_1 = (9 : Int)) then
  M.bind (M.noexc (m_law_take ((r_5.2, (2 : Int))))) fun r_6 =>
  .ok (decide (r_6.1 = (0 : Int)), r_6.2)
  else
  .ok (false, r_5.2))) fun b_1 =>
  let st_1 := b_1.2
  let b_1 := b_1.1
  (bif b_1 then
  M.bind (rngM 0 ((4 : Int))) fun xs_1 =>
  chk (okLen xs_1.length) (
  M.bind (mapS xs_1 st_1 fun (it_1 : Int) (s_1 : (List (Int))) =>
  M.bind (powM ((10 : Int)) ((9 : Int))) fun n_3 =>
  M.bind (mulM ((2 : Int)) n_3) fun n_4 =>
  M.bind (M.noexc (m_law_take ((s_1, (n_4 + (1 : Int)))))) fun r_7 =>
  M.bind (powM ((10 : Int)) ((9 : Int))) fun n_5 =>
  .ok ((r_7.1 - n_5), r_7.2)) fun z_1 =>
  M.bind (idxM z_1.1 ((0 : Int))) fun v_2 =>
  M.bind (idxM z_1.1 ((1 : Int))) fun v_3 =>
  M.bind (idxM z_1.1 ((2 : Int))) fun v_4 =>
  M.bind (idxM z_1.1 ((3 : Int))) fun v_5 =>
  .ok ((v_2, v_3, v_4, v_5), z_1.2))
  else
  M.bind (idxM rows_6 way_1) fun v_6 =>
  .ok (v_6, st_1))
abbrev s_law_near_span : Spc ((List (Int)) × (Int) × (Int)) (((Int) × (Int) × (Int) × (Int)) × List (Int)) := sp1 (fun p x => [.own p, .dat (D.int x.2.1), .dat (D.int x.2.2)]) (fun x => oL D.int x.1) m_law_near_span (dT4 D.int D.int D.int D.int) (fun s => oL D.int s)
abbrev c_law_near_span : Sco := ⟨["pool", "length", "many", "room", "start", "end", "low", "far", "rows", "way", "four", "k"], defScope (top 31), [0, 1, 2, 3, 4, 5, 6, 7, 8, 9, 10], [0, 1, 2, 3, 4, 5, 6, 7, 8, 9, 10], ["max", "int", "_law_take", "range"], 1, true⟩
def m_law_nets_near (x : (List (Int)) × (Int) × (Int) × (List ((Int) × (Int) × (Int) × (Int)))) : M ((List ((Int) × (Int) × (List ((Int) × (Int) × (Int) × (Int))))) × List (Int)) :=
  M.bind (M.noexc (m_law_take ((x.1, (((x.2.2.2.length : Nat) : Int) + (1 : Int)))))) fun r_1 =>
  M.bind (.ok (r_1.1 : Int)) fun at_1 =>
  M.bind (M.noexc (m_law_near_span ((r_1.2, x.2.1, x.2.2.1)))) fun r_2 =>
  M.bind (catM ((cutL x.2.2.2 none (some at_1))) ([r_2.1])) fun lst_1 =>
  M.bind (catM lst_1 ((cutL x.2.2.2 (some at_1) none))) fun lst_2 =>
  M.bind (.ok (lst_2 : List ((Int) × (Int) × (Int) × (Int)))) fun near_1 =>
  M.bind (M.noexc (m_law_take ((r_2.2, (2 : Int))))) fun r_3 =>
  M.bind (bif decide (r_3.1 = (0 : Int)) then
  M.bind (M.noexc (m_law_take ((r_3.2, (((near_1.length : Nat) : Int) - at_1))))) fun r_4 =>
  M.bind (.ok (((at_1 + (1 : Int)) + r_4.1) : Int)) fun at_2 =>
  M.bind (M.noexc (m_law_near_span ((r_4.2, x.2.1, x.2.2.1)))) fun r_5 =>
  M.bind (catM ((cutL near_1 none (some at_2))) ([r_5.1])) fun lst_3 =>
  M.bind (catM lst_3 ((cutL near_1 (some at_2) none))) fun lst_4 =>
  M.bind (.ok (lst_4 : List ((Int) × (Int) × (Int) × (Int)))) fun near_2 =>
  .ok ((at_2, near_2, r_5.2))
  else
  .ok ((at_1, near_1, r_3.2))) fun (s_1 : (Int) × (List ((Int) × (Int) × (Int) × (Int))) × (List (Int))) =>
  M.bind (M.noexc (m_law_take ((s_1.2.2, (63 : Int))))) fun r_6 =>
  M.bind (powM ((10 : Int)) ((9 : Int))) fun n_1 =>
  M.bind (powM ((10 : Int)) ((9 : Int))) fun n_2 =>
  M.bind (.ok ([(1 : Int), (61 : Int), (x.2.1 - (1 : Int)), (x.2.1 + (1 : Int)), r_6.1, n_1, ((0 : Int) - n_2)] : List (Int))) fun lengths_1 =>
  M.bind (M.noexc (m_law_take ((r_6.2, (7 : Int))))) fun r_7 =>
  M.bind (idxM lengths_1 r_7.1) fun v_1 =>
  M.bind (.ok (v_1 : Int)) fun length_near_1 =>
  M.bind (M.noexc (m_law_take ((r_7.2, (15 : Int))))) fun r_8 =>
  M.bind (powM ((10 : Int)) ((9 : Int))) fun n_3 =>
  M.bind (powM ((10 : Int)) ((9 : Int))) fun n_4 =>
  M.bind (.ok ([(-((1 : Int))), (13 : Int), (x.2.2.1 - (1 : Int)), (x.2.2.1 + (1 : Int)), r_8.1, n_3, ((0 : Int) - n_4)] : List (Int))) fun counts_1 =>
  M.bind (M.noexc (m_law_take ((r_8.2, (7 : Int))))) fun r_9 =>
  M.bind (idxM counts_1 r_9.1) fun v_2 =>
  M.bind (.ok (v_2 : Int)) fun many_near_1 =>
  M.bind (.ok (((1 : Int), (0 : Int), (0 : Int), (x.2.1 - (1 : Int))) : (Int) × (Int) × (Int) × (Int))) fun span_1 =>
  M.bind (repM ([span_1]) (((24 : Int) - ((x.2.2.2.length : Nat) : Int)))) fun lst_5 =>
  M.bind (catM x.2.2.2 lst_5) fun lst_6 =>
  M.bind (.ok (lst_6 : List ((Int) × (Int) × (Int) × (Int)))) fun filled_1 =>
  M.bind (.ok ([(x.2.1, x.2.2.1, x.2.2.2), (x.2.1, x.2.2.1, s_1.2.1), (length_near_1, x.2.2.1, x.2.2.2), (x.2.1, many_near_1, x.2.2.2)] : List ((Int) × (Int) × (List ((Int) × (Int) × (Int) × (Int)))))) fun rows_1 =>
  M.bind (catM s_1.2.1 filled_1) fun lst_7 =>
  M.bind (catM rows_1 ([(length_near_1, many_near_1, s_1.2.1), (x.2.1, many_near_1, lst_7), (x.2.1, x.2.2.1, filled_1)])) fun lst_8 =>
  M.bind (.ok (lst_8 : List ((Int) × (Int) × (List ((Int) × (Int) × (Int) × (Int)))))) fun rows_2 =>
  M.bind (catM filled_1 ([span_1])) fun lst_9 =>
  M.bind (catM rows_2 ([(x.2.1, x.2.2.1, lst_9), (x.2.1, x.2.2.1, x.2.2.2.reverse), (x.2.1, x.2.2.1, (cutL x.2.2.2 (some ((1 : Int))) none))])) fun lst_10 =>
  .ok (lst_10, r_9.2)
abbrev s_law_nets_near : Spc ((List (Int)) × (Int) × (Int) × (List ((Int) × (Int) × (Int) × (Int)))) ((List ((Int) × (Int) × (List ((Int) × (Int) × (Int) × (Int))))) × List (Int)) := sp1 (fun p x => [.own p, .dat (D.int x.2.1), .dat (D.int x.2.2.1), .dat ((dL (dT4 D.int D.int D.int D.int)) x.2.2.2)]) (fun x => oL D.int x.1) m_law_nets_near (dL (dT3 D.int D.int (dL (dT4 D.int D.int D.int D.int)))) (fun s => oL D.int s)
abbrev c_law_nets_near : Sco := ⟨["pool", "length", "many", "spans", "at", "near", "lengths", "length_near", "counts", "many_near", "span", "filled", "rows"], defScope (top 32), [0, 1, 2, 3, 4, 5, 6, 7, 8, 9, 10, 11, 12], [0, 1, 2, 3, 4, 5, 6, 7, 8, 9, 10, 11, 12], ["len", "_law_near_span", "_law_take"], 2, true⟩
def m_law_fault (x : (Int) × (Int) × (List ((Int) × (Int) × (Int) × (Int)))) : M (Option ((Str) × (Int))) :=
  (bif (decide (x.1 < (2 : Int)) || decide ((60 : Int) < x.1)) then
  .ok ((some (((Str.ofString "round"), (0 : Int)))))
  else
  (bif (decide (x.2.1 < (0 : Int)) || decide ((12 : Int) < x.2.1)) then
  .ok ((some (((Str.ofString "events"), (0 : Int)))))
  else
  (bif decide ((24 : Int) < ((x.2.2.length : Nat) : Int)) then
  .ok ((some (((Str.ofString "spans"), (0 : Int)))))
  else
  M.bind (rngM 0 (((x.2.2.length : Nat) : Int))) fun xs_1 =>
  M.bind (forM xs_1 (()) fun (it_1 : Int) (s_1 : Unit) =>
  M.bind (idxM x.2.2 it_1) fun v_1 =>
  M.bind (.ok (v_1 : (Int) × (Int) × (Int) × (Int))) fun span_1 =>
  (bif (decide ((min span_1.1 span_1.2.1) < (0 : Int)) || (decide ((x.2.1 - (1 : Int)) < (max span_1.1 span_1.2.1)) || decide (span_1.1 = span_1.2.1))) then
  .ok (.rt ((some (((Str.ofString "span"), it_1)))))
  else
  (bif (decide (span_1.2.2.1 < (0 : Int)) || (decide (span_1.2.2.2 < span_1.2.2.1) || (decide ((x.1 - (1 : Int)) < (span_1.2.2.2 - span_1.2.2.1)) || decide ((999 : Int) < span_1.2.2.2)))) then
  .ok (.rt ((some (((Str.ofString "span"), it_1)))))
  else
  .ok (.nx (()))))) fun st => aft st (fun (s_2 : Unit) =>
  .ok none) (fun r => .ok r))))
abbrev s_law_fault : Spc ((Int) × (Int) × (List ((Int) × (Int) × (Int) × (Int)))) (Option ((Str) × (Int))) := sp0 (fun x => [.dat (D.int x.1), .dat (D.int x.2.1), .dat ((dL (dT4 D.int D.int D.int D.int)) x.2.2)]) m_law_fault (dO (dT2 D.str D.int))
abbrev c_law_fault : Sco := ⟨["length", "many", "spans", "k", "span"], defScope (top 30), [0, 1, 2, 3, 4], [0, 1, 2, 3, 4], ["len", "range", "min", "max"], 0, true⟩
def m_Net___eq (x : (Net) × (Net)) : M (Bool) :=
  (bif true then
  (bif decide (x.1.round_length = x.2.round_length) then
  (bif decide (x.1.events = x.2.events) then
  M.bind (eqD ((dU (dT4 D.int D.int D.int D.int)) x.1.spans) ((dU (dT4 D.int D.int D.int D.int)) x.2.spans)) fun eq_1 =>
  .ok eq_1
  else
  .ok false)
  else
  .ok false)
  else
  .ok false)
abbrev s_Net___eq : Spc ((Net) × (Net)) (Bool) := sp0 (fun x => [.dat (dNet x.1), .dat (dNet x.2)]) m_Net___eq D.bl
abbrev c_Net___eq : Sco := ⟨["self", "other"], defScope (inClass (top 20) 1), [0, 1], [0, 1], ["isinstance", "Net"], 0, true⟩
def m_law_judged (x : (Net) × ((Int) × (Int) × (List ((Int) × (Int) × (Int) × (Int)))) × ((Int) × (Int) × (List ((Int) × (Int) × (Int) × (Int))))) : M (Bool) :=
  M.bind (M.noexc (m_law_fault ((x.2.2.1, x.2.2.2.1, x.2.2.2.2)))) fun r_1 =>
  M.bind (.ok (r_1 : Option ((Str) × (Int)))) fun due_1 =>
  M.bind (.ok (x.2.2.2.2 : List ((Int) × (Int) × (Int) × (Int)))) fun handed_1 =>
  M.bind (.ok (none : Option ((Str) × (Int) × (Bool) × (Bool) × (Bool)))) fun told_1 =>
  M.bind (.ok (none : Option (Net))) fun other_1 =>
  M.bind (catchM (
  M.bind (m_Net_Net ((x.2.2.1, x.2.2.2.1, handed_1))) fun obj_1 =>
  M.bind (.ok ((some obj_1) : Option (Net))) fun other_2 =>
  .ok ((told_1, other_2))) known_ named_BadNet fun ex_1 =>
  M.bind (.ok (false : Bool)) fun strange_1 =>
  (bif strange_1 then
  M.bind (.ok (true : Bool)) fun strange_3 =>
  M.bind (getS ex_1 "part") fun xf_3 =>
  M.bind (getI ex_1 "place") fun xf_4 =>
  M.bind (.ok ((some ((xf_3, xf_4, true, true, strange_3))) : Option ((Str) × (Int) × (Bool) × (Bool) × (Bool)))) fun told_3 =>
  .ok ((told_3, other_1))
  else
  M.bind (.ok (false : Bool)) fun strange_2 =>
  M.bind (getS ex_1 "part") fun xf_1 =>
  M.bind (getI ex_1 "place") fun xf_2 =>
  M.bind (.ok ((some ((xf_1, xf_2, true, true, strange_2))) : Option ((Str) × (Int) × (Bool) × (Bool) × (Bool)))) fun told_2 =>
  .ok ((told_2, other_1)))) fun (s_1 : (Option ((Str) × (Int) × (Bool) × (Bool) × (Bool))) × (Option (Net))) =>
  M.bind (M.noexc (mSame 3 ((dL (dT4 D.int D.int D.int D.int)) handed_1, (dL (dT4 D.int D.int D.int D.int)) x.2.2.2.2))) fun r_2 =>
  (bif !r_2 then
  .ok false
  else
  (bif due_1.isSome then
  optM due_1 fun (due_2 : (Str) × (Int)) =>
  (bif s_1.2.isNone then
  M.bind (.ok (due_2.1, due_2.2, ((true, true, false)).1, ((true, true, false)).2.1, ((true, true, false)).2.2)) fun tup_1 =>
  M.bind (M.noexc (mSame 2 ((dO (dT5 D.str D.int D.bl D.bl D.bl)) s_1.1, (dT5 D.str D.int D.bl D.bl D.bl) tup_1))) fun r_3 =>
  .ok r_3
  else
  .ok false)
  else
  M.bind ((bif s_1.1.isSome then
  .ok true
  else
  (bif s_1.2.isNone then
  .ok true
  else
  optM s_1.2 fun (other_3 : Net) =>
  M.bind (M.noexc (m_law_shows ((other_3, x.2.2.1, x.2.2.2.1, x.2.2.2.2)))) fun r_4 =>
  .ok (!r_4)))) fun b_1 =>
  (bif b_1 then
  .ok false
  else
  optM s_1.2 fun (other_4 : Net) =>
  M.bind (M.noexc (m_Net___eq (x.1, other_4))) fun eq_1 =>
  M.bind (eqD ((dT3 D.int D.int (dL (dT4 D.int D.int D.int D.int))) x.2.1) ((dT3 D.int D.int (dL (dT4 D.int D.int D.int D.int))) x.2.2)) fun eq_2 =>
  M.bind (M.noexc (mSame 1 (D.bl eq_1, D.bl eq_2))) fun r_5 =>
  (bif r_5 then
  M.bind (M.noexc (m_Net___eq (other_4, x.1))) fun eq_3 =>
  M.bind (eqD ((dT3 D.int D.int (dL (dT4 D.int D.int D.int D.int))) x.2.1) ((dT3 D.int D.int (dL (dT4 D.int D.int D.int D.int))) x.2.2)) fun eq_4 =>
  M.bind (M.noexc (mSame 1 (D.bl eq_3, D.bl eq_4))) fun r_6 =>
  .ok r_6
  else
  .ok false))))
abbrev s_law_judged : Spc ((Net) × ((Int) × (Int) × (List ((Int) × (Int) × (Int) × (Int)))) × ((Int) × (Int) × (List ((Int) × (Int) × (Int) × (Int))))) (Bool) := sp0 (fun x => [.dat (dNet x.1), .dat ((dT3 D.int D.int (dL (dT4 D.int D.int D.int D.int))) x.2.1), .dat ((dT3 D.int D.int (dL (dT4 D.int D.int D.int D.int))) x.2.2)]) m_law_judged D.bl
abbrev c_law_judged : Sco := ⟨["net", "first", "row", "due", "handed", "told", "other", "e", "strange"], defScope (top 34), [0, 1, 2, 3, 4, 5, 6, 7, 8], [0, 1, 2, 3, 4, 5, 6, 7, 8], ["list", "Net", "isinstance", "UnknownSpan", "UnknownEvent", "BadTimes", "BadPath", "BrokenSpan", "BadRounds", "ShutRing", "TooMany", "ValueError", "DepotError", "_law_same", "_law_shows", "BadNet", "_law_fault"], 5, true⟩
def m_Net_plus (x : (Net) × (List ((Int) × (Int) × (Int) × (Int)))) : M (Net) :=
  M.bind (lenM (x.1.spans ++ (x.2 ++ []))) fun lst_1 =>
  M.bind (m_Net_Net ((x.1.round_length, x.1.events, lst_1))) fun obj_1 =>
  .ok obj_1
abbrev s_Net_plus : Spc ((Net) × (List ((Int) × (Int) × (Int) × (Int)))) (Net) := sp0 (fun x => [.dat (dNet x.1), .dat ((dU (dT4 D.int D.int D.int D.int)) x.2)]) m_Net_plus dNet
abbrev c_Net_plus : Sco := ⟨["self", "spans"], defScope (inClass (top 20) 2), [0, 1], [0, 1], ["Net"], 4, true⟩
def m_law_plus (x : (Net) × (List ((Int) × (Int) × (Int) × (Int)))) : M (Net) :=
  (bif decide (((x.2.length : Nat) : Int) = (0 : Int)) then
  M.bind (m_Net_plus (x.1, ([] : List ((Int) × (Int) × (Int) × (Int))))) fun r_1 =>
  .ok r_1
  else
  (bif decide (((x.2.length : Nat) : Int) = (1 : Int)) then
  M.bind (idxM x.2 ((0 : Int))) fun v_1 =>
  M.bind (m_Net_plus (x.1, [v_1])) fun r_2 =>
  .ok r_2
  else
  (bif decide (((x.2.length : Nat) : Int) = (2 : Int)) then
  M.bind (idxM x.2 ((0 : Int))) fun v_2 =>
  M.bind (idxM x.2 ((1 : Int))) fun v_3 =>
  M.bind (m_Net_plus (x.1, [v_2, v_3])) fun r_3 =>
  .ok r_3
  else
  M.bind (idxM x.2 ((0 : Int))) fun v_4 =>
  M.bind (idxM x.2 ((1 : Int))) fun v_5 =>
  M.bind (idxM x.2 ((2 : Int))) fun v_6 =>
  M.bind (idxM x.2 ((3 : Int))) fun v_7 =>
  M.bind (idxM x.2 ((4 : Int))) fun v_8 =>
  M.bind (idxM x.2 ((5 : Int))) fun v_9 =>
  M.bind (m_Net_plus (x.1, [v_4, v_5, v_6, v_7, v_8, v_9])) fun r_4 =>
  .ok r_4)))
abbrev s_law_plus : Spc ((Net) × (List ((Int) × (Int) × (Int) × (Int)))) (Net) := sp0 (fun x => [.dat (dNet x.1), .dat ((dL (dT4 D.int D.int D.int D.int)) x.2)]) m_law_plus dNet
abbrev c_law_plus : Sco := ⟨["net", "added"], defScope (top 35), [0, 1], [0, 1], ["len"], 5, true⟩
def m_law_plus_good (x : (Net) × ((Int) × (Int) × (List ((Int) × (Int) × (Int) × (Int)))) × (List ((Int) × (Int) × (Int) × (Int)))) : M (Bool) :=
  M.bind (catM x.2.1.2.2 x.2.2) fun lst_1 =>
  M.bind (M.noexc (m_law_fault ((x.2.1.1, x.2.1.2.1, lst_1)))) fun r_1 =>
  M.bind (.ok (r_1 : Option ((Str) × (Int)))) fun due_1 =>
  M.bind (.ok (none : Option ((Str) × (Int)))) fun told_1 =>
  M.bind (.ok (none : Option (Net))) fun other_1 =>
  M.bind (catchM (
  M.bind (m_law_plus ((x.1, x.2.2))) fun r_2 =>
  M.bind (.ok ((some r_2) : Option (Net))) fun other_2 =>
  .ok ((told_1, other_2))) known_ named_BadNet fun ex_1 =>
  M.bind (getS ex_1 "part") fun xf_1 =>
  M.bind (getI ex_1 "place") fun xf_2 =>
  M.bind (.ok ((some ((xf_1, xf_2))) : Option ((Str) × (Int)))) fun told_2 =>
  .ok ((told_2, other_1))) fun (s_1 : (Option ((Str) × (Int))) × (Option (Net))) =>
  (bif due_1.isSome then
  optM due_1 fun (due_2 : (Str) × (Int)) =>
  (bif s_1.2.isNone then
  M.bind (M.noexc (mSame 2 ((dO (dT2 D.str D.int)) s_1.1, (dT2 D.str D.int) due_2))) fun r_3 =>
  .ok r_3
  else
  .ok false)
  else
  M.bind ((bif s_1.1.isSome then
  .ok true
  else
  (bif s_1.2.isNone then
  .ok true
  else
  optM s_1.2 fun (other_3 : Net) =>
  M.bind (catM x.2.1.2.2 x.2.2) fun lst_2 =>
  M.bind (M.noexc (m_law_shows ((other_3, x.2.1.1, x.2.1.2.1, lst_2)))) fun r_4 =>
  .ok (!r_4)))) fun b_1 =>
  (bif b_1 then
  .ok false
  else
  optM s_1.2 fun (other_4 : Net) =>
  M.bind (M.noexc (m_Net___eq (x.1, other_4))) fun eq_1 =>
  M.bind (eqD ((dL (dT4 D.int D.int D.int D.int)) x.2.2) ((dL (dT4 D.int D.int D.int D.int)) (([] : List ((Int) × (Int) × (Int) × (Int)))))) fun eq_2 =>
  M.bind (M.noexc (mSame 1 (D.bl eq_1, D.bl eq_2))) fun r_5 =>
  .ok r_5))
abbrev s_law_plus_good : Spc ((Net) × ((Int) × (Int) × (List ((Int) × (Int) × (Int) × (Int)))) × (List ((Int) × (Int) × (Int) × (Int)))) (Bool) := sp0 (fun x => [.dat (dNet x.1), .dat ((dT3 D.int D.int (dL (dT4 D.int D.int D.int D.int))) x.2.1), .dat ((dL (dT4 D.int D.int D.int D.int)) x.2.2)]) m_law_plus_good D.bl
abbrev c_law_plus_good : Sco := ⟨["net", "first", "added", "due", "told", "other", "e"], defScope (top 36), [0, 1, 2, 3, 4, 5, 6], [0, 1, 2, 3, 4, 5, 6], ["_law_plus", "_law_same", "_law_shows", "BadNet", "_law_fault"], 6, true⟩
def m_Net_without (x : (Net) × (List (Int))) : M (Net) :=
  M.bind (foldM x.2 (()) fun (it_1 : Int) (s_1 : Unit) =>
  (bif !((decide ((0 : Int) ≤ it_1) && decide (it_1 < ((x.1.spans.length : Nat) : Int)))) then
  chk (fmtB [D.int it_1] parts_UnknownSpan Str.empty) (.exc ⟨"UnknownSpan", fldD [D.int it_1] fl_UnknownSpan []⟩)
  else
  .ok (()))) fun (s_2 : Unit) =>
  M.bind (filM ((enumL x.1.spans)) fun (it_2 : (Int) × ((Int) × (Int) × (Int) × (Int))) =>
  (bif !decide (it_2.1 ∈ x.2) then
  .ok (some it_2.2)
  else
  .ok none)) fun lst_1 =>
  M.bind (m_Net_Net ((x.1.round_length, x.1.events, lst_1))) fun obj_1 =>
  .ok obj_1
abbrev s_Net_without : Spc ((Net) × (List (Int))) (Net) := sp0 (fun x => [.dat (dNet x.1), .dat ((dU D.int) x.2)]) m_Net_without dNet
abbrev c_Net_without : Sco := ⟨["self", "numbers", "number", "left", "place", "span"], defScope (inClass (top 20) 3), [0, 1, 2, 3], [0, 1, 2, 3], ["len", "UnknownSpan", "enumerate", "Net"], 4, true⟩
def m_law_without (x : (Net) × (List (Int))) : M (Net) :=
  (bif decide (((x.2.length : Nat) : Int) = (0 : Int)) then
  M.bind (m_Net_without (x.1, ([] : List (Int)))) fun r_1 =>
  .ok r_1
  else
  (bif decide (((x.2.length : Nat) : Int) = (1 : Int)) then
  M.bind (idxM x.2 ((0 : Int))) fun v_1 =>
  M.bind (m_Net_without (x.1, [v_1])) fun r_2 =>
  .ok r_2
  else
  (bif decide (((x.2.length : Nat) : Int) = (2 : Int)) then
  M.bind (idxM x.2 ((0 : Int))) fun v_2 =>
  M.bind (idxM x.2 ((1 : Int))) fun v_3 =>
  M.bind (m_Net_without (x.1, [v_2, v_3])) fun r_3 =>
  .ok r_3
  else
  (bif decide (((x.2.length : Nat) : Int) = (3 : Int)) then
  M.bind (idxM x.2 ((0 : Int))) fun v_4 =>
  M.bind (idxM x.2 ((1 : Int))) fun v_5 =>
  M.bind (idxM x.2 ((2 : Int))) fun v_6 =>
  M.bind (m_Net_without (x.1, [v_4, v_5, v_6])) fun r_4 =>
  .ok r_4
  else
  M.bind (idxM x.2 ((0 : Int))) fun v_7 =>
  M.bind (idxM x.2 ((1 : Int))) fun v_8 =>
  M.bind (idxM x.2 ((2 : Int))) fun v_9 =>
  M.bind (idxM x.2 ((3 : Int))) fun v_10 =>
  M.bind (idxM x.2 ((4 : Int))) fun v_11 =>
  M.bind (idxM x.2 ((5 : Int))) fun v_12 =>
  M.bind (m_Net_without (x.1, [v_7, v_8, v_9, v_10, v_11, v_12])) fun r_5 =>
  .ok r_5))))
abbrev s_law_without : Spc ((Net) × (List (Int))) (Net) := sp0 (fun x => [.dat (dNet x.1), .dat ((dL D.int) x.2)]) m_law_without dNet
abbrev c_law_without : Sco := ⟨["net", "numbers"], defScope (top 39), [0, 1], [0, 1], ["len"], 5, true⟩
def m_law_without_good (x : (Net) × ((Int) × (Int) × (List ((Int) × (Int) × (Int) × (Int)))) × (List (Int))) : M (Bool) :=
  M.bind (.ok (((x.2.1.2.2.length : Nat) : Int) : Int)) fun count_1 =>
  M.bind (filM x.2.2 fun (it_1 : Int) =>
  (bif (decide (it_1 < (0 : Int)) || decide (count_1 ≤ it_1)) then
  .ok (some it_1)
  else
  .ok none)) fun lst_1 =>
  M.bind (rngM 0 count_1) fun xs_1 =>
  chk (okLen xs_1.length) (
  M.bind (filM xs_1 fun (it_2 : Int) =>
  (bif !decide (it_2 ∈ x.2.2) then
  M.bind (idxM x.2.1.2.2 it_2) fun v_1 =>
  .ok (some v_1)
  else
  .ok none)) fun lst_2 =>
  M.bind (.ok (none : Option ((Int) × (Bool) × (Bool) × (Bool)))) fun told_1 =>
  M.bind (.ok (none : Option (Net))) fun other_1 =>
  M.bind (catchM (
  M.bind (m_law_without ((x.1, x.2.2))) fun r_1 =>
  M.bind (.ok ((some r_1) : Option (Net))) fun other_2 =>
  .ok ((told_1, other_2))) known_ named_UnknownSpan fun ex_1 =>
  M.bind (getI ex_1 "number") fun xf_1 =>
  M.bind (.ok ((some ((xf_1, true, true, false))) : Option ((Int) × (Bool) × (Bool) × (Bool)))) fun told_2 =>
  .ok ((told_2, other_1))) fun (s_1 : (Option ((Int) × (Bool) × (Bool) × (Bool))) × (Option (Net))) =>
  M.bind (eqD ((dL D.int) lst_1) ((dL D.int) (([] : List (Int))))) fun eq_1 =>
  (bif !eq_1 then
  (bif s_1.2.isNone then
  M.bind (idxM lst_1 ((0 : Int))) fun v_2 =>
  M.bind (M.noexc (mSame 2 ((dO (dT4 D.int D.bl D.bl D.bl)) s_1.1, (dT4 D.int D.bl D.bl D.bl) ((v_2, true, true, false))))) fun r_2 =>
  .ok r_2
  else
  .ok false)
  else
  M.bind ((bif s_1.1.isSome then
  .ok true
  else
  (bif s_1.2.isNone then
  .ok true
  else
  optM s_1.2 fun (other_3 : Net) =>
  M.bind (M.noexc (m_law_shows ((other_3, x.2.1.1, x.2.1.2.1, lst_2)))) fun r_3 =>
  .ok (!r_3)))) fun b_1 =>
  (bif b_1 then
  .ok false
  else
  optM s_1.2 fun (other_4 : Net) =>
  M.bind (M.noexc (m_Net___eq (x.1, other_4))) fun eq_2 =>
  M.bind (eqD ((dL D.int) x.2.2) ((dL D.int) (([] : List (Int))))) fun eq_3 =>
  M.bind (M.noexc (mSame 1 (D.bl eq_2, D.bl eq_3))) fun r_4 =>
  .ok r_4)))
abbrev s_law_without_good : Spc ((Net) × ((Int) × (Int) × (List ((Int) × (Int) × (Int) × (Int)))) × (List (Int))) (Bool) := sp0 (fun x => [.dat (dNet x.1), .dat ((dT3 D.int D.int (dL (dT4 D.int D.int D.int D.int))) x.2.1), .dat ((dL D.int) x.2.2)]) m_law_without_good D.bl
abbrev c_law_without_good : Sco := ⟨["net", "first", "numbers", "count", "strangers", "left", "told", "other", "e", "k", "number"], defScope (top 40), [0, 1, 2, 3, 4, 5, 6, 7, 8], [0, 1, 2, 3, 4, 5, 6, 7, 8], ["len", "range", "_law_without", "isinstance", "BadNet", "ValueError", "DepotError", "_law_same", "_law_shows", "UnknownSpan"], 6, true⟩
def m_law_number (x : (List (Int)) × (Int) × (List (Int)) × (Int)) : M ((Int) × List (Int)) :=
  M.bind (rngM 0 x.2.1) fun xs_1 =>
  chk (okLen xs_1.length) (
  M.bind (filM xs_1 fun (it_1 : Int) =>
  (bif !decide (it_1 ∈ x.2.2.1) then
  .ok (some it_1)
  else
  .ok none)) fun lst_1 =>
  M.bind (powM ((10 : Int)) ((8 : Int))) fun n_1 =>
  M.bind (M.noexc (m_law_take ((x.1, (5 : Int))))) fun r_1 =>
  M.bind (idxM ([(0 : Int), (0 : Int), (1 : Int), (24 : Int), n_1]) r_1.1) fun v_1 =>
  M.bind (.ok (v_1 : Int)) fun far_1 =>
  M.bind (M.bind (eqD ((dL D.int) lst_1) ((dL D.int) (([] : List (Int))))) fun eq_1 =>
  (bif eq_1 then
  .ok (true, r_1.2)
  else
  M.bind (M.noexc (m_law_take ((r_1.2, x.2.2.2)))) fun r_2 =>
  .ok (decide (r_2.1 = (0 : Int)), r_2.2))) fun b_1 =>
  let st_1 := b_1.2
  let b_1 := b_1.1
  (bif b_1 then
  M.bind (M.noexc (m_law_take ((st_1, (2 : Int))))) fun r_3 =>
  M.bind (idxM ([((-((1 : Int))) - far_1), (x.2.1 + far_1)]) r_3.1) fun v_2 =>
  .ok (v_2, r_3.2)
  else
  M.bind (M.noexc (m_law_take ((st_1, ((lst_1.length : Nat) : Int))))) fun r_4 =>
  M.bind (idxM lst_1 r_4.1) fun v_3 =>
  .ok (v_3, r_4.2)))
abbrev s_law_number : Spc ((List (Int)) × (Int) × (List (Int)) × (Int)) ((Int) × List (Int)) := sp1 (fun p x => [.own p, .dat (D.int x.2.1), .dat ((dL D.int) x.2.2.1), .dat (D.int x.2.2.2)]) (fun x => oL D.int x.1) m_law_number D.int (fun s => oL D.int s)
abbrev c_law_number : Sco := ⟨["pool", "count", "numbers", "chance", "left", "far", "one"], defScope (top 37), [0, 1, 2, 3, 4, 5], [0, 1, 2, 3, 4, 5], ["range", "_law_take", "len"], 1, true⟩
def m_law_numbers (x : (List (Int)) × (Int)) : M ((List (Int)) × List (Int)) :=
  M.bind (M.noexc (m_law_take ((x.1, (4 : Int))))) fun r_1 =>
  M.bind (rngM 0 r_1.1) fun xs_1 =>
  M.bind (foldM xs_1 ((r_1.2, ([] : List (Int)))) fun (it_1 : Int) (s_1 : (List (Int)) × (List (Int))) =>
  M.bind (M.noexc (m_law_number ((s_1.1, x.2, s_1.2, (3 : Int))))) fun r_2 =>
  M.bind (appM s_1.2 r_2.1) fun numbers_1 =>
  .ok ((r_2.2, numbers_1))) fun (s_2 : (List (Int)) × (List (Int))) =>
  M.bind (M.noexc (m_law_take ((s_2.1, (8 : Int))))) fun r_3 =>
  M.bind (bif decide (r_3.1 = (0 : Int)) then
  M.bind (rngM 0 (((6 : Int) - ((s_2.2.length : Nat) : Int)))) fun xs_2 =>
  M.bind (foldM xs_2 ((r_3.2, s_2.2)) fun (it_2 : Int) (s_4 : (List (Int)) × (List (Int))) =>
  M.bind (M.noexc (m_law_number ((s_4.1, x.2, s_4.2, (20 : Int))))) fun r_4 =>
  M.bind (appM s_4.2 r_4.1) fun numbers_2 =>
  .ok ((r_4.2, numbers_2))) fun (s_5 : (List (Int)) × (List (Int))) =>
  .ok ((s_5.1, s_5.2))
  else
  .ok ((r_3.2, s_2.2))) fun (s_3 : (List (Int)) × (List (Int))) =>
  .ok (s_3.2, s_3.1)
abbrev s_law_numbers : Spc ((List (Int)) × (Int)) ((List (Int)) × List (Int)) := sp1 (fun p x => [.own p, .dat (D.int x.2)]) (fun x => oL D.int x.1) m_law_numbers (dL D.int) (fun s => oL D.int s)
abbrev c_law_numbers : Sco := ⟨["pool", "count", "numbers", "k"], defScope (top 38), [0, 1, 2, 3], [0, 1, 2, 3], ["range", "_law_number", "len", "_law_take"], 2, true⟩
def m_law (x : (List Int)) : M (Bool) :=
  M.bind (M.noexc (m_law_pool ((x, (0 : Int))))) fun r_1 =>
  M.bind (M.noexc (m_law_length r_1)) fun r_2 =>
  M.bind (.ok (r_2.1 : Int)) fun length_1 =>
  M.bind (M.noexc (m_law_many r_2.2)) fun r_3 =>
  M.bind (.ok (r_3.1 : Int)) fun many_1 =>
  M.bind (M.noexc (m_law_count ((r_3.2, many_1)))) fun r_4 =>
  M.bind (M.noexc (m_law_any_spans ((r_4.2, length_1, many_1, r_4.1)))) fun r_5 =>
  M.bind (.ok (r_5.1 : List ((Int) × (Int) × (Int) × (Int)))) fun spans_1 =>
  M.bind (.ok ((length_1, many_1, spans_1) : (Int) × (Int) × (List ((Int) × (Int) × (Int) × (Int))))) fun first_1 =>
  M.bind (M.flatE (m_Net_Net ((length_1, many_1, spans_1)))) fun obj_1 =>
  M.bind (.ok (obj_1 : Net)) fun net_1 =>
  M.bind (M.noexc (mSame 3 (dL (dT4 D.int D.int D.int D.int) spans_1, (dL (dT4 D.int D.int D.int D.int)) spans_1))) fun r_6 =>
  (bif !r_6 then
  .ok false
  else
  M.bind (appM spans_1 (((0 : Int), (1 : Int), (0 : Int), (0 : Int)))) fun handed_1 =>
  M.bind (setM handed_1 ((0 : Int)) (((1 : Int), (0 : Int), (0 : Int), (1 : Int)))) fun handed_2 =>
  M.bind (M.noexc (m_law_shows ((net_1, length_1, many_1, spans_1)))) fun r_7 =>
  (bif !r_7 then
  .ok false
  else
  M.bind (M.noexc (m_law_pool ((x, (1 : Int))))) fun r_8 =>
  M.bind (M.noexc (m_law_nets_near ((r_8, length_1, many_1, spans_1)))) fun r_9 =>
  M.bind (forM r_9.1 r_9.2 fun (it_1 : (Int) × (Int) × (List ((Int) × (Int) × (Int) × (Int)))) (s_1 : (List (Int))) =>
  M.bind (M.noexc (m_law_judged ((net_1, first_1, it_1)))) fun r_10 =>
  (bif !r_10 then
  .ok (.rt false)
  else
  .ok (.nx s_1))) fun st => aft st (fun (s_2 : (List (Int))) =>
  M.bind (M.noexc (m_law_pool ((x, (2 : Int))))) fun r_11 =>
  M.bind (M.noexc (m_law_take ((r_11, (3 : Int))))) fun r_12 =>
  M.bind (rngM 0 r_12.1) fun xs_1 =>
  chk (okLen xs_1.length) (
  M.bind (mapS xs_1 r_12.2 fun (it_2 : Int) (s_3 : (List (Int))) =>
  M.bind (M.noexc (m_law_near_span ((s_3, length_1, many_1)))) fun r_13 =>
  .ok (r_13.1, r_13.2)) fun z_1 =>
  M.bind ((bif decide ((1 : Int) < many_1) then
  M.bind (M.noexc (m_law_take ((z_1.2, (8 : Int))))) fun r_14 =>
  .ok (decide (r_14.1 = (0 : Int)), r_14.2)
  else
  .ok (false, z_1.2))) fun b_1 =>
  let st_1 := b_1.2
  let b_1 := b_1.1
  M.bind (bif b_1 then
  M.bind (M.noexc (m_law_any_spans ((st_1, length_1, many_1, (6 : Int))))) fun r_15 =>
  M.bind (catM z_1.1 r_15.1) fun lst_1 =>
  M.bind (.ok ((cutL lst_1 none (some ((6 : Int)))) : List ((Int) × (Int) × (Int) × (Int)))) fun added_1 =>
  .ok ((added_1, r_15.2))
  else
  .ok ((z_1.1, st_1))) fun (s_5 : (List ((Int) × (Int) × (Int) × (Int))) × (List (Int))) =>
  M.bind (M.noexc (m_law_plus_good ((net_1, first_1, s_5.1)))) fun r_16 =>
  (bif !r_16 then
  .ok false
  else
  M.bind (M.noexc (m_law_pool ((x, (3 : Int))))) fun r_17 =>
  M.bind (M.noexc (m_law_numbers ((r_17, ((spans_1.length : Nat) : Int))))) fun r_18 =>
  M.bind (m_law_without_good ((net_1, first_1, r_18.1))) fun r_19 =>
  (bif !r_19 then
  .ok false
  else
  M.bind (M.bind (eqD ((dL (dT4 D.int D.int D.int D.int)) spans_1) ((dL (dT4 D.int D.int D.int D.int)) (([] : List ((Int) × (Int) × (Int) × (Int)))))) fun eq_1 =>
  (bif !eq_1 then
  M.bind (divM (((spans_1.length : Nat) : Int)) ((2 : Int))) fun n_1 =>
  M.bind (m_law_without_good ((net_1, first_1, [(((spans_1.length : Nat) : Int) - (1 : Int)), n_1, (((spans_1.length : Nat) : Int) - (1 : Int))]))) fun r_20 =>
  .ok (!r_20)
  else
  .ok false)) fun b_2 =>
  (bif b_2 then
  .ok false
  else
  M.bind (M.noexc (m_law_shows ((net_1, length_1, many_1, spans_1)))) fun r_21 =>
  (bif r_21 then
  M.bind (m_Net_Net ((length_1, many_1, spans_1))) fun obj_2 =>
  M.bind (M.noexc (m_Net___eq (net_1, obj_2))) fun eq_2 =>
  M.bind (M.noexc (mSame 1 (D.bl eq_2, D.bl true))) fun r_22 =>
  .ok r_22
  else
  .ok false)))))) (fun r => .ok r)))
abbrev s_law : Spc ((List Int)) (Bool) := sp0 (fun x => [.dat (dS x)]) m_law D.bl
abbrev c_law : Sco := ⟨["script", "pool", "length", "many", "spans", "first", "handed", "net", "row", "added", "k"], defScope (top 41), [0, 1, 2, 3, 4, 5, 6, 7, 8, 9], [0, 1, 2, 3, 4, 5, 6, 7, 8, 9], ["Net", "_law_same", "_law_judged", "range", "_law_take", "_law_any_spans", "len", "_law_without_good", "list", "_law_shows", "_law_numbers", "_law_pool", "_law_plus_good", "_law_nets_near", "_law_count", "_law_many", "_law_length"], 7, true⟩
theorem b_law_cell {W : Wd} (g : Fa W) : BodyOk W c_law_cell (defBody (top 22)) s_law_cell := by
  rintro T tt x as Ω Φ Ψ ⟨rfl, rfl⟩ hm hx
  simp only [s_law_cell, sp0, sp0O, sp1, sp1O, sp1b, sp1bO, sp2, spC] at hm
  unfold m_law_cell at hm
  refine Y.s_cons (Y.s_ite (Y.t_cmp (Y.c_lt (Y.v_var 1 rfl (Y.v_len 0 g.len (Y.q_s (Y.v_var 0 rfl ⟨fun hb => ?_, fun hb => ?_⟩)))))))
  · have hm := (Run.ite hm).1 hb
    exact Y.s_cons (Y.s_ret (WV.asE (enc := D.int) (Y.v_abs 1 g.abs (Y.v_ix (Ψ := Ψ) (Y.q_s (Y.v_var 0 rfl (Y.v_var 1 rfl ⟨rfl, (Y.step hm fun v_1 hm => (r0 hm))⟩)))))))
  · have hm := (Run.ite hm).2 hb
    refine Y.s_nil ?_
    exact Y.s_cons (Y.s_ret (WV.asE (enc := D.int) (Y.v_int (r0 hm))))
theorem f_law_cell {W : Wd} (g : Fa W) : FnY W 1 (He.ga W.K "_law_cell") (spOf W.K s_law_cell) := by
  obtain ⟨fd, F⟩ := g.def__law_cell
  exact FnY.of (N := ["script", "k"]) (ps := ["script", "k"]) F (C8.fnScope_by (by decide +kernel)) (scOk_of (by decide +kernel)) (by rintro x as Ω ⟨rfl, rfl⟩; rfl) (fun _ _ _ _ _ _ us hl => match us, hl with | [_, _], _ => rfl) (b_law_cell g)
theorem b_law_pool {W : Wd} (g : Fa W) : BodyOk W c_law_pool (defBody (top 23)) s_law_pool := by
  rintro T tt x as Ω Φ Ψ ⟨rfl, rfl⟩ hm hx
  simp only [s_law_pool, sp0, sp0O, sp1, sp1O, sp1b, sp1bO, sp2, spC] at hm
  unfold m_law_pool at hm
  refine Y.s_cons (Y.s_setL (Ψ := Ψ) (enc := D.int) 2 (Y.e_call (f_law_cell g) g.fn__law_cell (i := 1) rfl (Y.a_v (enc := dS) (Y.v_var 0 rfl (Y.a_v (enc := D.int) (Y.v_var 1 rfl (Y.a_nil (k0 ((x.1, x.2)) ((Run.noexc (Y.step hm (fun r_1 hm => ?_))).mono (fun _ q => q) (fun _ z => z.elim))))))))))
  refine ⟨_, rfl, (Y.step hm fun cell_1 hm => ?_)⟩
  refine Y.s_cons (Y.s_ret (Y.n_o (enc := D.int) (Y.n_lst (enc := D.int) [] (Y.a_v (enc := D.int) (Y.v_var 2 rfl (Y.a_v (enc := D.int) (Y.v_intB 0 g.int (Y.v_cmp (Y.c_ge (Y.v_var 2 rfl (Y.v_pow (Ψ := Ψ) (Y.v_int (Y.v_int (Y.step hm fun n_1 hm => ?_))))))))))))))
  refine Y.a_v (enc := D.int) (Y.v_mul (Ψ := Ψ) (Y.v_int (Y.v_var 1 rfl (Y.step hm fun n_2 hm => ?_))))
  exact Y.a_nil ⟨[cell_1, (if decide (n_1 ≤ cell_1) then 1 else 0), n_2], rfl, (show 3 ≤ sizeLine from by decide), fun q_1 hq_1 => (r0O hm (.cons₂ _ .slnil))⟩
theorem f_law_pool {W : Wd} (g : Fa W) : FnY W 2 (He.ga W.K "_law_pool") (spOf W.K s_law_pool) := by
  obtain ⟨fd, F⟩ := g.def__law_pool
  exact FnY.of (N := ["script", "k", "cell"]) (ps := ["script", "k"]) F (C8.fnScope_by (by decide +kernel)) (scOk_of (by decide +kernel)) (by rintro x as Ω ⟨rfl, rfl⟩; rfl) (fun _ _ _ _ _ _ us hl => match us, hl with | [_, _], _ => rfl) (b_law_pool g)
theorem b_law_take {W : Wd} (g : Fa W) : BodyOk W c_law_take (defBody (top 24)) s_law_take := by
  rintro T tt x as Ω Φ Ψ ⟨p, rfl, rfl⟩ hm hx
  simp only [s_law_take, sp0, sp0O, sp1, sp1O, sp1b, sp1bO, sp2, spC] at hm
  unfold m_law_take at hm
  refine Y.s_cons (Y.s_ite (WT.cut hm (fun _ hm => (Y.t_w (Y.w_and (Y.t_cmp (Y.c_eqI (Y.v_ix (Ψ := Ψ) (Y.q_own 0 0 rfl rfl (Y.v_int ⟨rfl, (Y.step hm fun v_1 hm => (Y.v_int ⟨fun hb => have hm := (Run.ite hm).1 hb; (Y.w_and1 (Y.t_cmp (Y.c_gt (Y.v_ix (Ψ := Ψ) (Y.q_own 0 0 rfl rfl (Y.v_int ⟨rfl, (Y.step hm fun v_2 hm => (Y.v_int ⟨rfl, hm.get⟩))⟩)))))), fun hb => have hm := (Run.ite hm).2 hb; ⟨rfl, hm.get⟩⟩))⟩)))))))) fun b_1 hm => ⟨fun hb => ?_, fun hb => ?_⟩))
  · have hm := (Run.ite hm).1 hb
    refine Y.s_cons (Y.s_setL (Ψ := Ψ) (enc := D.int) 3 (Y.v_mod (Ψ := Ψ) (Y.v_intI 0 g.int (Y.v_ix (Ψ := Ψ) (Y.q_own 0 0 rfl rfl (Y.v_int ⟨rfl, (Y.step hm fun v_3 hm => ?_)⟩))))))
    refine Y.v_var 1 rfl (Y.step hm fun n_1 hm => (Y.step hm fun drawn_1 hm => ?_))
    refine Y.s_cons (Y.s_setItem (Ψ := Ψ) (enc := D.int) 0 0 rfl (Y.v_div (Ψ := Ψ) (Y.v_ix (Ψ := Ψ) (Y.q_own 0 0 rfl rfl (Y.v_int ⟨rfl, (Y.step hm fun v_4 hm => ?_)⟩)))))
    refine Y.v_var 1 rfl (Y.step hm fun n_2 hm => ?_)
    refine Y.v_int ⟨_, rfl, Y.step hm fun pool_1 hm => ?_⟩
    exact Y.s_cons (Y.s_ret (WV.asE (enc := D.int) (Y.v_var 3 rfl (r1 hm (.cons₂ _ .slnil)))))
  · have hm := (Run.ite hm).2 hb
    refine Y.s_nil ?_
    refine Y.s_cons (Y.s_setItem (Ψ := Ψ) (enc := D.int) 0 0 rfl (Y.v_add (Y.v_ix (Ψ := Ψ) (Y.q_own 0 0 rfl rfl (Y.v_int ⟨rfl, (Y.step hm fun v_5 hm => ?_)⟩)))))
    refine Y.v_int (Y.v_int ⟨_, rfl, Y.step hm fun pool_2 hm => ?_⟩)
    refine Y.s_cons (Y.s_setL (Ψ := Ψ) (enc := D.int) 2 (Y.v_mod (Ψ := Ψ) (Y.v_intI 0 g.int (Y.v_add (Y.v_mul (Ψ := Ψ) (Y.v_add (Y.v_ix (Ψ := Ψ) (Y.q_own 0 0 rfl rfl (Y.v_int ⟨rfl, (Y.step hm fun v_6 hm => ?_)⟩)))))))))
    refine Y.v_int (Y.v_int (Y.step hm fun n_3 hm => ?_))
    refine Y.v_mul (Ψ := Ψ) (Y.v_ix (Ψ := Ψ) (Y.q_own 0 0 rfl rfl (Y.v_int ⟨rfl, (Y.step hm fun v_7 hm => ?_)⟩)))
    refine Y.v_int (Y.step hm fun n_4 hm => ?_)
    refine Y.v_int (Y.step hm fun n_5 hm => (Y.step hm fun mixed_1 hm => ?_))
    refine Y.s_cons (Y.s_setL (Ψ := Ψ) (enc := D.int) 2 (Y.v_mod (Ψ := Ψ) (Y.v_intI 0 g.int (Y.v_add (Y.v_mul (Ψ := Ψ) (Y.v_var 2 rfl (Y.v_int (Y.step hm fun n_6 hm => ?_))))))))
    refine Y.v_mul (Ψ := Ψ) (Y.v_ix (Ψ := Ψ) (Y.q_own 0 0 rfl rfl (Y.v_int ⟨rfl, (Y.step hm fun v_8 hm => ?_)⟩)))
    refine Y.v_int (Y.step hm fun n_7 hm => ?_)
    refine Y.v_int (Y.step hm fun n_8 hm => (Y.step hm fun mixed_2 hm => ?_))
    refine Y.s_iteG (ι := Unit) (σ := (Int) × (List (Int))) (fun _ => True) (fun _ s_1 => [some (.own p), some (.dat (D.int x.2)), some (.dat (D.int s_1.1)), none]) (fun _ s_1 => [(p, oL D.int s_1.2)]) (Y.t_cmp (Y.c_gt (Y.v_ix (Ψ := Ψ) (Y.q_own 0 0 rfl rfl (Y.v_int ⟨rfl, (Y.step hm fun v_9 hm => (Y.v_int ⟨_, _, _, hm, fun hb Φ' hm => ?_, fun hb Φ' hm => ?_, ?_⟩))⟩)))))
    · refine Y.s_cons (Y.s_setL (Ψ := Ψ) (enc := D.int) 2 (Y.v_mod (Ψ := Ψ) (Y.v_intI 0 g.int (Y.v_mul (Ψ := Ψ) (Y.v_div (Ψ := Ψ) (Y.v_var 2 rfl (Y.v_int (Y.step hm fun n_9 hm => ?_))))))))
      refine Y.v_add (Y.v_add (Y.v_div (Ψ := Ψ) (Y.v_var 2 rfl (Y.v_int (Y.step hm fun n_10 hm => ?_)))))
      refine Y.v_ix (Ψ := Ψ) (Y.q_own 0 0 rfl rfl (Y.v_int ⟨rfl, (Y.step hm fun v_10 hm => ?_)⟩))
      refine Y.v_int (Y.step hm fun n_11 hm => ?_)
      refine Y.v_int (Y.step hm fun n_12 hm => (Y.step hm fun mixed_3 hm => ?_))
      refine Y.s_nil ?_
      exact ⟨(), (mixed_3, pool_2), trivial, (.keep (.keep (.keep (.none .nil)))), (.cons₂ _ .slnil), hm.get⟩
    · refine Y.s_nil ?_
      exact ⟨(), (mixed_2, pool_2), trivial, (.keep (.keep (.keep (.none .nil)))), (.cons₂ _ .slnil), hm.get⟩
    · intro s_1 _ _ hm
      refine Y.s_cons (Y.s_ret (WV.asE (enc := D.int) (Y.v_mod (Ψ := Ψ) (Y.v_intI 0 g.int (Y.v_div (Ψ := Ψ) (Y.v_var 2 rfl (Y.v_int (Y.step hm fun n_13 hm => ?_))))))))
      exact Y.v_var 1 rfl (Y.step hm fun n_14 hm => (r1 hm (.cons₂ _ .slnil)))
theorem f_law_take {W : Wd} (g : Fa W) : FnY W 1 (He.ga W.K "_law_take") (spOf W.K s_law_take) := by
  obtain ⟨fd, F⟩ := g.def__law_take
  exact FnY.of (N := ["pool", "many", "mixed", "drawn"]) (ps := ["pool", "many"]) F (C8.fnScope_by (by decide +kernel)) (scOk_of (by decide +kernel)) (by rintro x as Ω ⟨p, rfl, rfl⟩; rfl) (fun _ _ _ _ _ _ us hl => match us, hl with | [_, _], _ => rfl) (b_law_take g)
theorem b_law_length {W : Wd} (g : Fa W) : BodyOk W c_law_length (defBody (top 26)) s_law_length := by
  rintro T tt x as Ω Φ Ψ ⟨p, rfl, rfl⟩ hm hx
  simp only [s_law_length, sp0, sp0O, sp1, sp1O, sp1b, sp1bO, sp2, spC] at hm
  unfold m_law_length at hm
  refine Y.s_cons (Y.s_ite (Y.t_cmp (Y.c_eqI (Y.e_call (f_law_take g) g.fn__law_take (i := 0) rfl (Y.a_cons (Y.e_var 0 rfl rfl rfl (Y.a_v (enc := D.int) (Y.v_int (Y.a_nil (k1 ((x, (3 : Int))) 0 rfl ((Run.noexc (Y.step hm (fun r_1 hm => ?_))).mono (fun _ q => q) (fun _ z => z.elim))))))))))))
  refine ⟨_, rfl, (Y.v_int ⟨fun hb => ?_, fun hb => ?_⟩)⟩
  · have hm := (Run.ite hm).1 hb
    exact Y.s_cons (Y.s_ret (WV.asE (enc := D.int) (Y.v_add (Y.v_int (Y.e_call (f_law_take g) g.fn__law_take (i := 0) rfl (Y.a_cons (Y.e_var 0 rfl rfl rfl (Y.a_v (enc := D.int) (Y.v_int (Y.a_nil (k1 ((r_1.2, (59 : Int))) 0 rfl ((Run.noexc (Y.step hm (fun r_2 hm => ⟨_, rfl, (r1 hm (.cons₂ _ .slnil))⟩))).mono (fun _ q => q) (fun _ z => z.elim)))))))))))))
  · have hm := (Run.ite hm).2 hb
    refine Y.s_nil ?_
    refine Y.s_cons (Y.s_ret (WV.asE (enc := D.int) (Y.v_ixL (Ψ := Ψ) (Y.n_v (Y.n_lst (enc := D.int) [] (Y.a_v (enc := D.int) (Y.v_int (Y.a_v (enc := D.int) (Y.v_int (Y.a_v (enc := D.int) (Y.v_int (Y.a_v (enc := D.int) (Y.v_int (Y.a_v (enc := D.int) (Y.v_int (Y.a_v (enc := D.int) (Y.v_int (Y.a_nil ⟨[(2 : Int), (3 : Int), (5 : Int), (10 : Int), (24 : Int), (60 : Int)], rfl, (show 6 ≤ sizeLine from by decide), (Y.e_call (f_law_take g) g.fn__law_take (i := 0) rfl (Y.a_cons (Y.e_var 0 rfl rfl rfl (Y.a_v (enc := D.int) (Y.v_int (Y.a_nil (k1 ((r_1.2, (6 : Int))) 0 rfl ((Run.noexc (Y.step hm (fun r_3 hm => ?_))).mono (fun _ q => q) (fun _ z => z.elim)))))))))⟩))))))))))))))))))
    exact ⟨_, rfl, (Y.step hm fun v_1 hm => (r1 hm (.cons₂ _ .slnil)))⟩
theorem f_law_length {W : Wd} (g : Fa W) : FnY W 2 (He.ga W.K "_law_length") (spOf W.K s_law_length) := by
  obtain ⟨fd, F⟩ := g.def__law_length
  exact FnY.of (N := ["pool"]) (ps := ["pool"]) F (C8.fnScope_by (by decide +kernel)) (scOk_of (by decide +kernel)) (by rintro x as Ω ⟨p, rfl, rfl⟩; rfl) (fun _ _ _ _ _ _ us hl => match us, hl with | [_], _ => rfl) (b_law_length g)
theorem b_law_many {W : Wd} (g : Fa W) : BodyOk W c_law_many (defBody (top 27)) s_law_many := by
  rintro T tt x as Ω Φ Ψ ⟨p, rfl, rfl⟩ hm hx
  simp only [s_law_many, sp0, sp0O, sp1, sp1O, sp1b, sp1bO, sp2, spC] at hm
  unfold m_law_many at hm
  refine Y.s_cons (Y.s_setL (Ψ := Ψ) (enc := D.int) 1 (Y.e_call (f_law_take g) g.fn__law_take (i := 0) rfl (Y.a_cons (Y.e_var 0 rfl rfl rfl (Y.a_v (enc := D.int) (Y.v_int (Y.a_nil (k1 ((x, (10 : Int))) 0 rfl ((Run.noexc (Y.step hm (fun r_1 hm => ?_))).mono (fun _ q => q) (fun _ z => z.elim))))))))))
  refine ⟨_, rfl, (Y.step hm fun way_1 hm => ?_)⟩
  refine Y.s_cons (Y.s_ite (Y.t_cmp (Y.c_eqI (Y.v_var 1 rfl (Y.v_int ⟨fun hb => ?_, fun hb => ?_⟩)))))
  · have hm := (Run.ite hm).1 hb
    exact Y.s_cons (Y.s_ret (WV.asE (enc := D.int) (Y.e_call (f_law_take g) g.fn__law_take (i := 0) rfl (Y.a_cons (Y.e_var 0 rfl rfl rfl (Y.a_v (enc := D.int) (Y.v_int (Y.a_nil (k1 ((r_1.2, (2 : Int))) 0 rfl ((Run.noexc (Y.step hm (fun r_2 hm => ⟨_, rfl, (r1 hm (.cons₂ _ .slnil))⟩))).mono (fun _ q => q) (fun _ z => z.elim)))))))))))
  · have hm := (Run.ite hm).2 hb
    refine Y.s_nil ?_
    refine Y.s_cons (Y.s_ite (Y.t_cmp (Y.c_eqI (Y.v_var 1 rfl (Y.v_int ⟨fun hb => ?_, fun hb => ?_⟩)))))
    · have hm := (Run.ite hm).1 hb
      exact Y.s_cons (Y.s_ret (WV.asE (enc := D.int) (Y.v_add (Y.v_int (Y.e_call (f_law_take g) g.fn__law_take (i := 0) rfl (Y.a_cons (Y.e_var 0 rfl rfl rfl (Y.a_v (enc := D.int) (Y.v_int (Y.a_nil (k1 ((r_1.2, (6 : Int))) 0 rfl ((Run.noexc (Y.step hm (fun r_3 hm => ⟨_, rfl, (r1 hm (.cons₂ _ .slnil))⟩))).mono (fun _ q => q) (fun _ z => z.elim)))))))))))))
    · have hm := (Run.ite hm).2 hb
      refine Y.s_nil ?_
      exact Y.s_cons (Y.s_ret (WV.asE (enc := D.int) (Y.v_add (Y.v_int (Y.e_call (f_law_take g) g.fn__law_take (i := 0) rfl (Y.a_cons (Y.e_var 0 rfl rfl rfl (Y.a_v (enc := D.int) (Y.v_int (Y.a_nil (k1 ((r_1.2, (5 : Int))) 0 rfl ((Run.noexc (Y.step hm (fun r_4 hm => ⟨_, rfl, (r1 hm (.cons₂ _ .slnil))⟩))).mono (fun _ q => q) (fun _ z => z.elim)))))))))))))
theorem f_law_many {W : Wd} (g : Fa W) : FnY W 2 (He.ga W.K "_law_many") (spOf W.K s_law_many) := by
  obtain ⟨fd, F⟩ := g.def__law_many
  exact FnY.of (N := ["pool", "way"]) (ps := ["pool"]) F (C8.fnScope_by (by decide +kernel)) (scOk_of (by decide +kernel)) (by rintro x as Ω ⟨p, rfl, rfl⟩; rfl) (fun _ _ _ _ _ _ us hl => match us, hl with | [_], _ => rfl) (b_law_many g)
theorem b_law_any_spans {W : Wd} (g : Fa W) : BodyOk W c_law_any_spans (defBody (top 29)) s_law_any_spans := by
  rintro T tt x as Ω Φ Ψ ⟨p, rfl, rfl⟩ hm hx
  simp only [s_law_any_spans, sp0, sp0O, sp1, sp1O, sp1b, sp1bO, sp2, spC] at hm
  unfold m_law_any_spans at hm
  refine Y.s_cons (Y.s_set 4 (Y.n_o (enc := (dT4 D.int D.int D.int D.int)) (Y.n_lst (enc := (dT4 D.int D.int D.int D.int)) [] (Y.a_nil ⟨([] : List ((Int) × (Int) × (Int) × (Int))), rfl, (show 0 ≤ sizeLine from by decide), fun q_1 hq_1 => ?_⟩))))
  refine Y.s_forG (ι := Unit) (σ := (List (Int)) × (List ((Int) × (Int) × (Int) × (Int)))) (fun _ => True) (fun _ s_1 => [some (.own p), some (.dat (D.int x.2.1)), some (.dat (D.int x.2.2.1)), some (.dat (D.int x.2.2.2)), some (.own q_1), none, none, none, none, none]) (fun _ s_1 => [(q_1, oL (dT4 D.int D.int D.int D.int) s_1.2), (p, oL D.int s_1.1)]) (Y.i_rng1 (Ψ := Ψ) 0 g.range (Y.v_var 3 rfl (Y.step hm fun xs_1 hm => ⟨_, _, (), _, hm, trivial, (.keep (.keep (.keep (.keep (.keep (.none (.none (.none (.none (.none .nil)))))))))), (.cons₂ _ (.cons₂ _ .slnil)), ?_, ?_⟩)))
  · intro it_1 s_1 _ Φ' hmem _ hm
    refine (Y.g_name 5 ?_)
    refine Y.s_cons (Y.s_setL (Ψ := Ψ) (enc := D.int) 6 (Y.e_call (f_law_take g) g.fn__law_take (i := 3) rfl (Y.a_cons (Y.e_var 0 rfl rfl rfl (Y.a_v (enc := D.int) (Y.v_var 2 rfl (Y.a_nil (k1 ((s_1.1, x.2.2.1)) 1 rfl ((Run.noexc (Y.step hm (fun r_1 hm => ?_))).mono (fun _ q => q) (fun _ z => z.elim))))))))))
    refine ⟨_, rfl, (Y.step hm fun start_1 hm => ?_)⟩
    refine Y.s_cons (Y.s_setL (Ψ := Ψ) (enc := D.int) 7 (Y.v_mod (Ψ := Ψ) (Y.v_intI 1 g.int (Y.v_add (Y.v_add (Y.v_var 6 rfl (Y.v_int (Y.e_call (f_law_take g) g.fn__law_take (i := 3) rfl (Y.a_cons (Y.e_var 0 rfl rfl rfl (Y.a_v (enc := D.int) (Y.v_sub (Y.v_var 2 rfl (Y.v_int (Y.a_nil (k1 ((r_1.2, (x.2.2.1 - (1 : Int)))) 1 rfl ((Run.noexc (Y.step hm (fun r_2 hm => ?_))).mono (fun _ q => q) (fun _ z => z.elim))))))))))))))))))
    refine ⟨_, rfl, (Y.v_var 2 rfl (Y.step hm fun n_1 hm => (Y.step hm fun end_1 hm => ?_)))⟩
    refine Y.s_cons (Y.s_setL (Ψ := Ψ) (enc := D.int) 8 (Y.v_mul (Ψ := Ψ) (Y.v_int (Y.v_var 1 rfl (Y.step hm fun n_2 hm => (Y.step hm fun room_1 hm => ?_))))))
    refine Y.nx_weak (Δ := [some (.own p), some (.dat (D.int x.2.1)), some (.dat (D.int x.2.2.1)), some (.dat (D.int x.2.2.2)), some (.own q_1), some (.dat (D.int it_1)), some (.dat (D.int start_1)), some (.dat (D.int end_1)), some (.dat (D.int room_1)), none]) (Ω' := [(q_1, oL (dT4 D.int D.int D.int D.int) s_1.2), (p, oL D.int r_2.2)]) ?_ (.keep (.keep (.keep (.keep (.keep (.keep (.keep (.keep (.keep (.none .nil)))))))))) (.cons₂ _ (.cons₂ _ .slnil))
    refine Y.s_iteG (ι := Unit) (σ := (Int) × (List (Int))) (fun _ => True) (fun _ s_3 => [some (.own p), some (.dat (D.int x.2.1)), some (.dat (D.int x.2.2.1)), some (.dat (D.int x.2.2.2)), some (.own q_1), some (.dat (D.int it_1)), some (.dat (D.int start_1)), some (.dat (D.int end_1)), some (.dat (D.int s_3.1)), none]) (fun _ s_3 => [(q_1, oL (dT4 D.int D.int D.int D.int) s_1.2), (p, oL D.int s_3.2)]) (Y.t_cmp (Y.c_eqI (Y.e_call (f_law_take g) g.fn__law_take (i := 3) rfl (Y.a_cons (Y.e_var 0 rfl rfl rfl (Y.a_v (enc := D.int) (Y.v_int (Y.a_nil (k1 ((r_2.2, (6 : Int))) 1 rfl ((Run.noexc (Y.step hm (fun r_3 hm => ⟨_, rfl, (Y.v_int ⟨_, _, _, hm, fun hb Φ' hm => ?_, fun hb Φ' hm => ?_, ?_⟩)⟩))).mono (fun _ q => q) (fun _ z => z.elim)))))))))))
    · refine Y.s_cons (Y.s_setL (Ψ := Ψ) (enc := D.int) 8 (Y.v_int (Y.step hm fun room_2 hm => ?_)))
      refine Y.s_nil ?_
      exact ⟨(), (room_2, r_3.2), trivial, (.keep (.keep (.keep (.keep (.keep (.keep (.keep (.keep (.keep (.none .nil)))))))))), (.cons₂ _ (.cons₂ _ .slnil)), hm.get⟩
    · refine Y.s_nil ?_
      exact ⟨(), (room_1, r_3.2), trivial, (.keep (.keep (.keep (.keep (.keep (.keep (.keep (.keep (.keep (.none .nil)))))))))), (.cons₂ _ (.cons₂ _ .slnil)), hm.get⟩
    · intro s_3 _ _ hm
      refine Y.s_cons (Y.s_setL (Ψ := Ψ) (enc := D.int) 9 (Y.e_call (f_law_take g) g.fn__law_take (i := 3) rfl (Y.a_cons (Y.e_var 0 rfl rfl rfl (Y.a_v (enc := D.int) (Y.v_var 8 rfl (Y.a_nil (k1 ((s_3.2, s_3.1)) 1 rfl ((Run.noexc (Y.step hm (fun r_4 hm => ?_))).mono (fun _ q => q) (fun _ z => z.elim))))))))))
      refine ⟨_, rfl, (Y.step hm fun low_1 hm => ?_)⟩
      refine Y.s_cons (Y.s_expr (WV.asE (Y.v_append (Ψ := Ψ) 4 0 rfl rfl (Y.v_tup (enb := (dT4 D.int D.int D.int D.int)) (Y.a_v (enc := D.int) (Y.v_var 6 rfl (Y.a_v (enc := D.int) (Y.v_var 7 rfl (Y.a_v (enc := D.int) (Y.v_var 9 rfl (Y.a_v (enc := D.int) (Y.v_add (Y.v_var 9 rfl (Y.e_call (f_law_take g) g.fn__law_take (i := 3) rfl (Y.a_cons (Y.e_var 0 rfl rfl rfl (Y.a_v (enc := D.int) (Y.v_min2 2 g.min (Y.v_var 1 rfl (Y.v_sub (Y.v_int (Y.v_var 9 rfl (Y.a_nil (k1 ((r_4.2, (min x.2.1 (((1000 : Int) - low_1))))) 1 rfl ((Run.noexc (Y.step hm (fun r_5 hm => ?_))).mono (fun _ q => q) (fun _ z => z.elim))))))))))))))))))))))))))
      refine ⟨_, rfl, (Y.a_nil ⟨(start_1, end_1, low_1, (low_1 + r_5.1)), _, rfl, rfl, (show 4 ≤ sizeLine from by decide), ⟨_, rfl, Y.step hm fun spans_1 hm => ?_⟩⟩)⟩
      refine Y.s_iteG (ι := Unit) (σ := (List (Int)) × (List ((Int) × (Int) × (Int) × (Int)))) (fun _ => True) (fun _ s_4 => [some (.own p), some (.dat (D.int x.2.1)), some (.dat (D.int x.2.2.1)), some (.dat (D.int x.2.2.2)), some (.own q_1), some (.dat (D.int it_1)), some (.dat (D.int start_1)), some (.dat (D.int end_1)), some (.dat (D.int s_3.1)), some (.dat (D.int low_1))]) (fun _ s_4 => [(q_1, oL (dT4 D.int D.int D.int D.int) s_4.2), (p, oL D.int s_4.1)]) (Y.t_cmp (Y.c_eqI (Y.e_call (f_law_take g) g.fn__law_take (i := 3) rfl (Y.a_cons (Y.e_var 0 rfl rfl rfl (Y.a_v (enc := D.int) (Y.v_int (Y.a_nil (k1 ((r_5.2, (8 : Int))) 1 rfl ((Run.noexc (Y.step hm (fun r_6 hm => ⟨_, rfl, (Y.v_int ⟨_, _, _, hm, fun hb Φ' hm => ?_, fun hb Φ' hm => ?_, ?_⟩)⟩))).mono (fun _ q => q) (fun _ z => z.elim)))))))))))
      · refine Y.s_cons (Y.s_setItem (Ψ := Ψ) (enc := (dT4 D.int D.int D.int D.int)) 4 0 rfl (Y.v_ixO (Ψ := Ψ) (enc := (dT4 D.int D.int D.int D.int)) (xs := spans_1) 4 0 rfl (Y.e_call (f_law_take g) g.fn__law_take (i := 3) rfl (Y.a_cons (Y.e_var 0 rfl rfl rfl (Y.a_v (enc := D.int) (Y.v_add (Y.v_var 5 rfl (Y.v_int (Y.a_nil (k1 ((r_6.2, (it_1 + (1 : Int)))) 1 rfl ((Run.noexc (Y.step hm (fun r_7 hm => ?_))).mono (fun _ q => q) (fun _ z => z.elim)))))))))))))
        refine ⟨_, rfl, ⟨rfl, (Y.step hm fun v_1 hm => ?_)⟩⟩
        refine Y.v_var 5 rfl ⟨_, rfl, Y.step hm fun spans_2 hm => ?_⟩
        refine Y.s_nil ?_
        exact ⟨(), (r_7.2, spans_2), trivial, (.keep (.keep (.keep (.keep (.keep (.keep (.keep (.keep (.keep (.keep .nil)))))))))), (.cons₂ _ (.cons₂ _ .slnil)), hm.get⟩
      · refine Y.s_nil ?_
        exact ⟨(), (r_6.2, spans_1), trivial, (.keep (.keep (.keep (.keep (.keep (.keep (.keep (.keep (.keep (.keep .nil)))))))))), (.cons₂ _ (.cons₂ _ .slnil)), hm.get⟩
      · intro s_4 _ _ hm
        refine Y.s_nil ?_
        exact ⟨(), (s_4.1, s_4.2), trivial, (.keep (.keep (.keep (.keep (.keep (.none (.none (.none (.none (.none .nil)))))))))), (.cons₂ _ (.cons₂ _ .slnil)), hm.get⟩
  · intro s_2 _ _ hm
    refine Y.s_frz 4 0 rfl rfl hq_1 ?_
    exact Y.s_cons (Y.s_ret (WV.asE (enc := (dL (dT4 D.int D.int D.int D.int))) (Y.v_var 4 rfl (r1 hm (.cons₂ _ .slnil)))))
theorem f_law_any_spans {W : Wd} (g : Fa W) : FnY W 2 (He.ga W.K "_law_any_spans") (spOf W.K s_law_any_spans) := by
  obtain ⟨fd, F⟩ := g.def__law_any_spans
  exact FnY.of (N := ["pool", "length", "many", "count", "spans", "k", "start", "end", "room", "low"]) (ps := ["pool", "length", "many", "count"]) F (C8.fnScope_by (by decide +kernel)) (scOk_of (by decide +kernel)) (by rintro x as Ω ⟨p, rfl, rfl⟩; rfl) (fun _ _ _ _ _ _ us hl => match us, hl with | [_, _, _, _], _ => rfl) (b_law_any_spans g)
theorem b_law_count {W : Wd} (g : Fa W) : BodyOk W c_law_count (defBody (top 28)) s_law_count := by
  rintro T tt x as Ω Φ Ψ ⟨p, rfl, rfl⟩ hm hx
  simp only [s_law_count, sp0, sp0O, sp1, sp1O, sp1b, sp1bO, sp2, spC] at hm
  unfold m_law_count at hm
  refine Y.s_cons (Y.s_ite (Y.t_cmp (Y.c_lt (Y.v_var 1 rfl (Y.v_int ⟨fun hb => ?_, fun hb => ?_⟩)))))
  · have hm := (Run.ite hm).1 hb
    exact Y.s_cons (Y.s_ret (WV.asE (enc := D.int) (Y.v_int (r1 hm (.cons₂ _ .slnil)))))
  · have hm := (Run.ite hm).2 hb
    refine Y.s_nil ?_
    refine Y.s_cons (Y.s_ite (Y.t_cmp (Y.c_eqI (Y.e_call (f_law_take g) g.fn__law_take (i := 0) rfl (Y.a_cons (Y.e_var 0 rfl rfl rfl (Y.a_v (enc := D.int) (Y.v_int (Y.a_nil (k1 ((x.1, (10 : Int))) 0 rfl ((Run.noexc (Y.step hm (fun r_1 hm => ?_))).mono (fun _ q => q) (fun _ z => z.elim))))))))))))
    refine ⟨_, rfl, (Y.v_int ⟨fun hb => ?_, fun hb => ?_⟩)⟩
    · have hm := (Run.ite hm).1 hb
      exact Y.s_cons (Y.s_ret (WV.asE (enc := D.int) (Y.v_add (Y.v_int (Y.e_call (f_law_take g) g.fn__law_take (i := 0) rfl (Y.a_cons (Y.e_var 0 rfl rfl rfl (Y.a_v (enc := D.int) (Y.v_int (Y.a_nil (k1 ((r_1.2, (17 : Int))) 0 rfl ((Run.noexc (Y.step hm (fun r_2 hm => ⟨_, rfl, (r1 hm (.cons₂ _ .slnil))⟩))).mono (fun _ q => q) (fun _ z => z.elim)))))))))))))
    · have hm := (Run.ite hm).2 hb
      refine Y.s_nil ?_
      exact Y.s_cons (Y.s_ret (WV.asE (enc := D.int) (Y.e_call (f_law_take g) g.fn__law_take (i := 0) rfl (Y.a_cons (Y.e_var 0 rfl rfl rfl (Y.a_v (enc := D.int) (Y.v_int (Y.a_nil (k1 ((r_1.2, (8 : Int))) 0 rfl ((Run.noexc (Y.step hm (fun r_3 hm => ⟨_, rfl, (r1 hm (.cons₂ _ .slnil))⟩))).mono (fun _ q => q) (fun _ z => z.elim)))))))))))
theorem f_law_count {W : Wd} (g : Fa W) : FnY W 2 (He.ga W.K "_law_count") (spOf W.K s_law_count) := by
  obtain ⟨fd, F⟩ := g.def__law_count
  exact FnY.of (N := ["pool", "many"]) (ps := ["pool", "many"]) F (C8.fnScope_by (by decide +kernel)) (scOk_of (by decide +kernel)) (by rintro x as Ω ⟨p, rfl, rfl⟩; rfl) (fun _ _ _ _ _ _ us hl => match us, hl with | [_, _], _ => rfl) (b_law_count g)
theorem b_is_window {W : Wd} (g : Fa W) : BodyOk W c_is_window (defBody (top 18)) s_is_window := by
  rintro T tt x as Ω Φ Ψ ⟨rfl, rfl⟩ hm hx
  simp only [s_is_window, sp0, sp0O, sp1, sp1O, sp1b, sp1bO, sp2, spC] at hm
  unfold m_is_window at hm
  exact Y.s_cons (Y.s_ret (WV.asE (enc := D.bl) (Y.v_and (Y.v_chain3 (fun _ => op_le) (fun _ => op_le) (fun _ => op_le) (Y.v_int (Y.v_var 1 rfl ⟨_, (Y.v_var 2 rfl ⟨rfl, rfl⟩), _, (Y.v_sub (Y.v_add (Y.v_var 1 rfl (Y.v_var 0 rfl (Y.v_int ⟨rfl, rfl⟩))))), ⟨fun hb => have hm := (Run.ite hm).1 hb; (Y.v_one (Y.v_cmp (Y.c_le (Y.v_var 2 rfl (Y.v_var 3 rfl (r0 hm)))))), fun hb => have hm := (Run.ite hm).2 hb; (r0 hm)⟩⟩))))))
theorem f_is_window {W : Wd} (g : Fa W) : FnY W 1 (He.ga W.K "is_window") (spOf W.K s_is_window) := by
  obtain ⟨fd, F⟩ := g.def_is_window
  exact FnY.of (N := ["round_length", "least", "most", "limit"]) (ps := ["round_length", "least", "most", "limit"]) F (C8.fnScope_by (by decide +kernel)) (scOk_of (by decide +kernel)) (by rintro x as Ω ⟨rfl, rfl⟩; rfl) (fun _ _ _ _ _ _ us hl => match us, hl with | [_, _, _, _], _ => rfl) (b_is_window g)
theorem b_is_span {W : Wd} (g : Fa W) : BodyOk W c_is_span (defBody (top 19)) s_is_span := by
  rintro T tt x as Ω Φ Ψ ⟨rfl, rfl⟩ hm hx
  simp only [s_is_span, sp0, sp0O, sp1, sp1O, sp1b, sp1bO, sp2, spC] at hm
  unfold m_is_span at hm
  refine Y.s_cons (Y.s_ite (Y.t_cmp (Y.c_neI (Y.v_len 0 g.len (Y.q_tupD (enc := (dT4 D.int D.int D.int D.int)) (fun x => [D.int x.1, D.int x.2.1, D.int x.2.2.1, D.int x.2.2.2]) (fun _ => rfl) (Y.v_var 2 rfl (Y.v_int ⟨fun hb => ?_, fun hb => ?_⟩)))))))
  · have hm := (Run.ite hm).1 hb
    exact Y.s_cons (Y.s_ret (WV.asE (enc := D.bl) (Y.v_bl (r0 hm))))
  · have hm := (Run.ite hm).2 hb
    refine Y.s_nil ?_
    refine Y.s_cons (Y.s_asgM (Ψ := Ψ) (enc := (dT4 D.int D.int D.int D.int)) (Y.v_var 2 rfl (Y.step hm fun u_1 hm => ?_)))
    refine Y.g_tup (Y.g_cons (Y.g_name 3 (Y.g_cons (Y.g_name 4 (Y.g_cons (Y.g_name 5 (Y.g_cons (Y.g_name 6 (Y.g_nil ?_)))))))))
    refine Y.nx_weak (Δ := [some (.dat (D.int x.1)), some (.dat (D.int x.2.1)), some (.dat ((dT4 D.int D.int D.int D.int) x.2.2)), some (.dat (D.int u_1.1)), some (.dat (D.int u_1.2.1)), some (.dat (D.int u_1.2.2.1)), some (.dat (D.int u_1.2.2.2))]) (Ω' := []) ?_ (.keep (.keep (.keep (.keep (.keep (.keep (.keep .nil))))))) .slnil
    refine Y.s_cons (Y.s_ite (Y.t_pure (Y.t_w (Y.w_orP (Y.t_notP (Y.t_chain (fun _ => op_le) (fun _ => op_lt) (Y.v_int (Y.v_var 3 rfl ⟨_, (Y.v_var 1 rfl ⟨rfl, rfl⟩), ⟨rfl, rfl⟩⟩)))) fun _ => (Y.w_orP (Y.t_notP (Y.t_chain (fun _ => op_le) (fun _ => op_lt) (Y.v_int (Y.v_var 4 rfl ⟨_, (Y.v_var 1 rfl ⟨rfl, rfl⟩), ⟨rfl, rfl⟩⟩)))) fun _ => (Y.w_or1 (Y.t_cmp (Y.c_eqI (Y.v_var 3 rfl (Y.v_var 4 rfl ⟨rfl, rfl⟩)))))))) ⟨fun hb => ?_, fun hb => ?_⟩))
    · have hm := (Run.ite hm).1 hb
      exact Y.s_cons (Y.s_ret (WV.asE (enc := D.bl) (Y.v_bl (r0 hm))))
    · have hm := (Run.ite hm).2 hb
      refine Y.s_nil ?_
      exact Y.s_cons (Y.s_ret (WV.asE (enc := D.bl) (Y.e_call (f_is_window g) g.fn_is_window (i := 2) rfl (Y.a_v (enc := D.int) (Y.v_var 0 rfl (Y.a_v (enc := D.int) (Y.v_var 5 rfl (Y.a_v (enc := D.int) (Y.v_var 6 rfl (Y.a_v (enc := D.int) (Y.v_globI 1 rfl g.int_MOST_MINUTES (Y.a_nil (k0 ((x.1, u_1.2.2.1, u_1.2.2.2, (999 : Int))) ((Run.noexc (Y.step hm (fun r_1 hm => ⟨_, rfl, (r0 hm)⟩))).mono (fun _ q => q) (fun _ z => z.elim)))))))))))))))
theorem f_is_span {W : Wd} (g : Fa W) : FnY W 2 (He.ga W.K "is_span") (spOf W.K s_is_span) := by
  obtain ⟨fd, F⟩ := g.def_is_span
  exact FnY.of (N := ["round_length", "events", "span", "start", "end", "least", "most"]) (ps := ["round_length", "events", "span"]) F (C8.fnScope_by (by decide +kernel)) (scOk_of (by decide +kernel)) (by rintro x as Ω ⟨rfl, rfl⟩; rfl) (fun _ _ _ _ _ _ us hl => match us, hl with | [_, _, _], _ => rfl) (b_is_span g)
theorem b_Net_Net {W : Wd} (g : Fa W) : BodyOk W c_Net_Net (defBody (inClass (top 20) 0)) s_Net_Net := by
  rintro T tt x as Ω Φ Ψ ⟨p, rfl, rfl⟩ hm hx
  simp only [s_Net_Net, sp0, sp0O, sp1, sp1O, sp1b, sp1bO, sp2, spC] at hm
  unfold m_Net_Net at hm
  refine Y.s_cons (Y.s_ite (Y.t_not (Y.t_chain (fun _ => op_le) (fun _ => op_le) (Y.v_globI 0 rfl g.int_SHORTEST_ROUND (Y.v_var 1 rfl ⟨_, (Y.v_globI 1 rfl g.int_LONGEST_ROUND ⟨rfl, rfl⟩), ⟨fun hb => ?_, fun hb => ?_⟩⟩)))))
  · have hm := (Run.ite hm).1 hb
    exact Y.s_cons (Y.s_raise 2 g.exc_BadNet g.cls_BadNetg rfl (Y.a_v (enc := D.str) (Y.v_str (Y.a_v (enc := D.int) (Y.v_int (Y.a_nil ⟨[D.str ((Str.ofString "round")), D.int ((0 : Int))], rfl, rfl, (Run.chk hm).1, hx _ _ _ (Run.chk hm).2.getE (List.nil_sublist _)⟩))))))
  · have hm := (Run.ite hm).2 hb
    refine Y.s_nil ?_
    refine Y.s_cons (Y.s_ite (Y.t_not (Y.t_chain (fun _ => op_le) (fun _ => op_le) (Y.v_int (Y.v_var 2 rfl ⟨_, (Y.v_globI 3 rfl g.int_MOST_EVENTS ⟨rfl, rfl⟩), ⟨fun hb => ?_, fun hb => ?_⟩⟩)))))
    · have hm := (Run.ite hm).1 hb
      exact Y.s_cons (Y.s_raise 2 g.exc_BadNet g.cls_BadNetg rfl (Y.a_v (enc := D.str) (Y.v_str (Y.a_v (enc := D.int) (Y.v_int (Y.a_nil ⟨[D.str ((Str.ofString "events")), D.int ((0 : Int))], rfl, rfl, (Run.chk hm).1, hx _ _ _ (Run.chk hm).2.getE (List.nil_sublist _)⟩))))))
    · have hm := (Run.ite hm).2 hb
      refine Y.s_nil ?_
      refine Y.s_cons (Y.s_ite (Y.t_cmp (Y.c_gt (Y.v_len 4 g.len (Y.q_v (Y.v_var 3 rfl (Y.v_globI 5 rfl g.int_MOST_SPANS ⟨fun hb => ?_, fun hb => ?_⟩)))))))
      · have hm := (Run.ite hm).1 hb
        exact Y.s_cons (Y.s_raise 2 g.exc_BadNet g.cls_BadNetg rfl (Y.a_v (enc := D.str) (Y.v_str (Y.a_v (enc := D.int) (Y.v_int (Y.a_nil ⟨[D.str ((Str.ofString "spans")), D.int ((0 : Int))], rfl, rfl, (Run.chk hm).1, hx _ _ _ (Run.chk hm).2.getE (List.nil_sublist _)⟩))))))
      · have hm := (Run.ite hm).2 hb
        refine Y.s_nil ?_
        refine Y.s_forG (ι := Unit) (σ := Unit) (fun _ => True) (fun _ s_1 => [some (.own p), some (.dat (D.int x.1)), some (.dat (D.int x.2.1)), some (.dat ((dL (dT4 D.int D.int D.int D.int)) x.2.2)), none, none]) (fun _ s_1 => [(p, .ins "Net" [])]) (Y.i_enum 6 g.enumerate (Y.v_var 3 rfl fun hz => ⟨_, _, (), _, hm, trivial, (.keep (.keep (.keep (.keep (.none (.none .nil)))))), (.cons₂ _ .slnil), ?_, ?_⟩))
        · intro it_1 s_1 _ Φ' hmem _ hm
          refine (Y.g_tup (Y.g_cons (Y.g_name 4 (Y.g_cons (Y.g_name 5 (Y.g_nil ?_))))))
          refine Y.s_cons (Y.s_ite (Y.t_not (Y.t_val (Y.e_call (f_is_span g) g.fn_is_span (i := 7) rfl (Y.a_v (enc := D.int) (Y.v_var 1 rfl (Y.a_v (enc := D.int) (Y.v_var 2 rfl (Y.a_v (enc := (dT4 D.int D.int D.int D.int)) (Y.v_var 5 rfl (Y.a_nil (k0 ((x.1, x.2.1, it_1.2)) ((Run.noexc (Y.step hm (fun r_1 hm => ⟨_, rfl, ⟨fun hb => ?_, fun hb => ?_⟩⟩))).mono (fun _ q => q) (fun _ z => z.elim))))))))))))))
          · have hm := (Run.ite hm).1 hb
            exact Y.s_cons (Y.s_raise 2 g.exc_BadNet g.cls_BadNetg rfl (Y.a_v (enc := D.str) (Y.v_str (Y.a_v (enc := D.int) (Y.v_var 4 rfl (Y.a_nil ⟨[D.str ((Str.ofString "span")), D.int it_1.1], rfl, rfl, (Run.chk hm).1, hx _ _ _ (Run.chk hm).2.getE (List.nil_sublist _)⟩))))))
          · have hm := (Run.ite hm).2 hb
            refine Y.s_nil ?_
            refine Y.s_nil ?_
            exact ⟨(), (), trivial, (.keep (.keep (.keep (.keep (.none (.none .nil)))))), (.cons₂ _ .slnil), hm.get⟩
        · intro s_2 _ _ hm
          refine Y.s_cons (Y.s_fld 0 0 g.cf_Net_round_length rfl (WV.asE (enc := D.int) (Y.v_var 1 rfl ⟨_, _, rfl, Nat.le_of_ble_eq_true rfl, rfl, ?_⟩)))
          refine Y.s_cons (Y.s_fld 0 0 g.cf_Net_events rfl (WV.asE (enc := D.int) (Y.v_var 2 rfl ⟨_, _, rfl, Nat.le_of_ble_eq_true rfl, rfl, ?_⟩)))
          refine Y.s_cons (Y.s_fld 0 0 g.cf_Net_spans rfl (WV.asE (enc := (dU (dT4 D.int D.int D.int D.int))) (Y.v_tupOf 8 g.tuple (Y.q_v (Y.n_v (Y.n_comp (scope := _) [("span", 5)] [5] ["tuple"] (by decide +kernel) (Y.i_lst (Y.v_var 3 rfl fun hz => ⟨hz, CompOk.mapM (Run.bind hm) (fun it_2 Φ' hmem hm T1 q o e1 => (Y.g_name 5 (fun T3 e3 => (Y.v_tupT 0 g.tuple (fun _ => ⟨_, rfl⟩) (Y.v_var 5 rfl ⟨rfl, hm.get⟩))))) (fun lst_1 hm q hq => ⟨q, lst_1, _, rfl, hq, rfl, ⟨_, _, rfl, Nat.le_of_ble_eq_true rfl, rfl, ?_⟩⟩)⟩))))))))
          refine Y.s_nil ?_
          exact rC hm (.cons₂ _ .slnil)
theorem f_Net_Net {W : Wd} (g : Fa W) : FnY W 3 (He.ma W.K (He.ga W.K (Str.ofString "Net")) "__init__") (spOf W.K s_Net_Net) := by
  obtain ⟨fd, F⟩ := g.def_Net_init
  exact FnY.of (N := ["self", "round_length", "events", "spans", "place", "span"]) (ps := ["self", "round_length", "events", "spans"]) F (C8.fnScope_by (by decide +kernel)) (scOk_of (by decide +kernel)) (by rintro x as Ω ⟨p, rfl, rfl⟩; rfl) (fun _ _ _ _ _ _ us hl => match us, hl with | [_, _, _, _], _ => rfl) (b_Net_Net g)
abbrev c_law_same (n : Nat) : Sco := ⟨["got", "due", "k"], defScope (top 25), [0, 1, 2], [0, 1, 2], ["isinstance", "bool", "int", "str", "list", "tuple", "len", "range", "_law_same"], n, true⟩
theorem b_law_same {W : Wd} (g : Fa W) (n : Nat) (F : FnY W (n + 1) (He.ga W.K "_law_same") (spOf W.K (spSame n))) : BodyOk W (c_law_same (n + 1)) (defBody (top 25)) (spSame (n + 1)) := by
  rintro T tt ⟨d, e⟩ as Ω Φ Ψ ⟨rfl, rfl⟩ hm hx
  have hm : Run (mSame (n + 1) (d, e)) Φ Ψ := hm
  obtain ⟨hok, hm⟩ := Run.chk hm
  obtain ⟨od, oe⟩ := Bool.and_eq_true_iff.mp hok
  have hv := hm.get
  clear hm
  dsimp only at od oe hv
  refine Y.s_cons (Y.s_ite (Y.t_pure (Y.t_w (Y.w_orP (Y.t_val (Y.v_isT 0 1 0 g.isinstance (ic_bool g) rfl od (by simp) ⟨rfl, rfl⟩ rfl)) fun _ => Y.w_or1 (Y.t_val (Y.v_isT 1 1 0 g.isinstance (ic_bool g) rfl oe (by simp) ⟨rfl, rfl⟩ rfl)))) ⟨fun hb => ?_, fun hb => ?_⟩))
  · refine Y.s_cons (Y.s_ret (WV.asE (enc := D.bl) (Y.v_and (Y.v_isT 0 1 0 g.isinstance (ic_bool g) rfl od (by simp) ⟨fun h1 => ?_, fun h1 => ?_⟩ rfl))))
    · refine Y.v_and (Y.v_isT 1 1 0 g.isinstance (ic_bool g) rfl oe (by simp) ⟨fun h2 => ?_, fun h2 => ?_⟩ rfl)
      · obtain ⟨b, rfl⟩ := isT_bool od h1
        obtain ⟨b', rfl⟩ := isT_bool oe h2
        refine Y.v_one (Y.v_cmp (Y.c_eqB (Y.v_var 0 rfl (Y.v_var 1 rfl ?_))))
        exact r0 (Ψ := Ψ) (.ok (by simpa [sameB] using hv))
      · exact r0 (Ψ := Ψ) (.ok (by rw [same_nb hb (by rw [h1, h2]; rfl)] at hv; exact hv))
    · exact r0 (Ψ := Ψ) (.ok (by rw [same_nb hb (by rw [h1]; rfl)] at hv; exact hv))
  refine Y.s_nil ?_
  obtain ⟨nbd, nbe⟩ := Bool.or_eq_false_iff.mp hb
  refine Y.s_cons (Y.s_ite (Y.t_pure (Y.t_w (Y.w_orP (Y.t_cmp (Y.c_isW (Y.d_any 0 rfl ⟨rfl, rfl⟩))) fun _ => Y.w_or1 (Y.t_cmp (Y.c_isW (Y.d_any 1 rfl ⟨rfl, rfl⟩))))) ⟨fun hn => ?_, fun hn => ?_⟩))
  · refine Y.s_cons (Y.s_ret (WV.asE (enc := D.bl) (Y.v_and (Y.v_cmp (Y.c_isW (Y.d_any 0 rfl ⟨fun h1 => ?_, fun h1 => ?_⟩))))))
    · refine Y.v_one (Y.v_cmp (Y.c_isW (Y.d_any 1 rfl ?_)))
      refine r0 (Ψ := Ψ) (.ok ?_)
      cases h2 : isNon e with
      | true => rw [same_nt (by rw [h1, h2]; rfl)] at hv; exact hv
      | false => rw [same_nn hn (by rw [h1, h2]; rfl)] at hv; exact hv
    · exact r0 (Ψ := Ψ) (.ok (by rw [same_nn hn (by rw [h1]; rfl)] at hv; exact hv))
  refine Y.s_nil ?_
  refine Y.s_cons (Y.s_ite (Y.t_val (Y.v_isT 1 2 0 g.isinstance (ic_int g) rfl oe (by simp) ⟨fun hi => ?_, fun hi => ?_⟩ rfl)))
  · obtain ⟨j, rfl⟩ := isT_int oe nbe hi
    refine Y.s_cons (Y.s_ret (WV.asE (enc := D.bl) (Y.v_and (Y.v_isT 0 2 0 g.isinstance (ic_int g) rfl od (by simp) ⟨fun h1 => ?_, fun h1 => ?_⟩ rfl))))
    · obtain ⟨i, rfl⟩ := isT_int od nbd h1
      refine Y.v_one (Y.v_cmp (Y.c_eqI (Y.v_var 0 rfl (Y.v_var 1 rfl ?_))))
      exact r0 (Ψ := Ψ) (.ok (by simpa [sameB] using hv))
    · exact r0 (Ψ := Ψ) (.ok (by rw [same_ni nbd h1] at hv; exact hv))
  refine Y.s_nil ?_
  refine Y.s_cons (Y.s_ite (Y.t_val (Y.v_isT 1 3 0 g.isinstance (ic_str g) rfl oe (by simp) ⟨fun hs => ?_, fun hs => ?_⟩ rfl)))
  · obtain ⟨j, rfl⟩ := isT_str oe hs
    refine Y.s_cons (Y.s_ret (WV.asE (enc := D.bl) (Y.v_and (Y.v_isT 0 3 0 g.isinstance (ic_str g) rfl od (by simp) ⟨fun h1 => ?_, fun h1 => ?_⟩ rfl))))
    · obtain ⟨i, rfl⟩ := isT_str od h1
      refine Y.v_one (Y.v_cmp (Y.c_eqS (Y.v_var 0 rfl (Y.v_var 1 rfl ?_))))
      exact r0 (Ψ := Ψ) (.ok (by simpa [sameB] using hv))
    · exact r0 (Ψ := Ψ) (.ok (by rw [same_ns h1] at hv; exact hv))
  refine Y.s_nil ?_
  refine Y.s_cons (Y.s_ite (Y.t_pure (Y.t_w (Y.w_andP (Y.t_val (Y.v_isT 1 4 0 g.isinstance (ic_list g) rfl oe (by simp) ⟨rfl, rfl⟩ rfl)) fun _ => Y.w_and1 (Y.t_notP (Y.t_val (Y.v_isT 0 4 0 g.isinstance (ic_list g) rfl od (by simp) ⟨rfl, rfl⟩ rfl))))) ⟨fun hl => ?_, fun hl => ?_⟩))
  · obtain ⟨h1, h2⟩ := Bool.and_eq_true_iff.mp hl
    exact Y.s_cons (Y.s_ret (WV.asE (enc := D.bl) (Y.v_bl (r0 (Ψ := Ψ) (.ok (by rw [same_nl (.inl rfl) h1 (by simpa using h2)] at hv; exact hv))))))
  refine Y.s_nil ?_
  refine Y.s_cons (Y.s_ite (Y.t_pure (Y.t_w (Y.w_andP (Y.t_val (Y.v_isT 1 5 0 g.isinstance (ic_tuple g) rfl oe (by simp) ⟨rfl, rfl⟩ rfl)) fun _ => Y.w_and1 (Y.t_notP (Y.t_val (Y.v_isT 0 5 0 g.isinstance (ic_tuple g) rfl od (by simp) ⟨rfl, rfl⟩ rfl))))) ⟨fun ht => ?_, fun ht => ?_⟩))
  · obtain ⟨h1, h2⟩ := Bool.and_eq_true_iff.mp ht
    exact Y.s_cons (Y.s_ret (WV.asE (enc := D.bl) (Y.v_bl (r0 (Ψ := Ψ) (.ok (by rw [same_nl (.inr rfl) h1 (by simpa using h2)] at hv; exact hv))))))
  refine Y.s_nil ?_
  obtain ⟨m, ds, es, en, sd, se, hs2, ld, le, kd, ke⟩ := two_seq od oe hb hn hi hs hl ht
  obtain rfl : m = n := by omega
  refine Y.s_cons (Y.s_ite (Y.t_cmp (Y.c_neI (Y.v_len 6 g.len (Y.q_any 0 rfl sd (Y.v_len 6 g.len (Y.q_any 1 rfl se ⟨fun hq => ?_, fun hq => ?_⟩)))))))
  · exact Y.s_cons (Y.s_ret (WV.asE (enc := D.bl) (Y.v_bl (r0 (Ψ := Ψ) (.ok (by rw [hs2, sameBs_len (by simp at hq; omega)] at hv; exact hv))))))
  refine Y.s_nil ?_
  have hlen : ds.length = es.length := by simp at hq; omega
  refine Y.s_forR (ι := Unit) (σ := Unit) (fun _ => True) (fun _ _ => [some (.dat d), some (.dat e), none]) (fun _ _ => []) (fun (r : Bool) a _ => a = .dat (D.bl r)) (Y.i_rng1 (Ψ := Ψ) 7 g.range (Y.v_len 6 g.len (Y.q_any 1 rfl se (run_eq (rngM_len le) ⟨samF ds es, (), (), (fun _ => .ok true), (fun r => .ok r), run_eq (Φ := Φ) (Ψ := Ψ) (samF_all hlen) (by rw [← hs2]; exact hv), trivial, (.keep (.keep (.none .nil))), .slnil, ?_, ?_, ?_⟩))))
  · intro k s _ Φ' hmem _ hm
    obtain ⟨k0', k1'⟩ := rng_mem hmem
    refine (Y.g_name 2 ?_)
    obtain ⟨i1, m1⟩ := idxM_getD (xs := ds) D.non (k := k) (by omega)
    obtain ⟨i2, m2⟩ := idxM_getD (xs := es) D.non (k := k) (by omega)
    refine Y.s_cons (Y.s_ite (Y.t_not (Y.t_val (Y.e_call F g.fn__law_same (i := 8) rfl (Y.a_v (enc := fun d => d) (Y.v_ix (Ψ := Ψ) (Y.q_any 0 rfl sd (Y.v_var 2 rfl ⟨rfl, run_eq i1 (Y.a_v (enc := fun d => d) (Y.v_ix (Ψ := Ψ) (Y.q_any 1 rfl se (Y.v_var 2 rfl ⟨rfl, run_eq i2 (Y.a_nil (k0 (ds.getD k.toNat D.non, es.getD k.toNat D.non) (run_eq (mSame_ok (kd _ m1) (ke _ m2)) ⟨_, rfl, fun hc => ?_, fun hc => ?_⟩)))⟩))))⟩)))) (Nat.le_refl _)))))
    · have hm : Φ' (.rt false) := by
        have : samF ds es k s = .ok (.rt false) := by
          unfold samF
          rw [Bool.not_eq_true'] at hc
          rw [hc]
          rfl
        rw [this] at hm
        exact hm.get
      exact Y.s_cons (Y.s_ret (WV.asE (enc := D.bl) (Y.v_bl ⟨_, rfl, hm⟩)))
    · have hm : Φ' (.nx ()) := by
        have : samF ds es k s = .ok (.nx ()) := by
          unfold samF
          rw [Bool.not_eq_false'] at hc
          rw [hc]
          rfl
        rw [this] at hm
        exact hm.get
      refine Y.s_nil ?_
      refine Y.s_nil ?_
      exact ⟨(), (), trivial, (.keep (.keep (.none .nil))), .slnil, hm⟩
  · intro s _ _ hm
    exact Y.s_cons (Y.s_ret (WV.asE (enc := D.bl) (Y.v_bl (r0 hm))))
  · rintro r a Ω' rfl hm
    exact r0 hm
theorem f_law_same {W : Wd} (g : Fa W) : ∀ n, FnY W (n + 1) (He.ga W.K "_law_same") (spOf W.K (spSame n))
  | 0 => by
    obtain ⟨fd, F⟩ := g.def__law_same
    exact FnY.of (N := ["got", "due", "k"]) (ps := ["got", "due"]) (vl := [0, 1, 2]) (sl := [0, 1, 2]) (gl := ["isinstance", "bool", "int", "str", "list", "tuple", "len", "range", "_law_same"]) F (C8.fnScope_by (by decide +kernel)) (scOk_lv _ (scOk_of (by decide +kernel))) (by rintro x as Ω ⟨rfl, rfl⟩; rfl) (fun _ _ _ _ _ _ us hl => match us, hl with | [_, _], _ => rfl) (by
      rintro T tt ⟨d, e⟩ as Ω Φ Ψ ⟨rfl, rfl⟩ hm hx
      have hm : Run (mSame 0 (d, e)) Φ Ψ := hm
      have := (Run.chk hm).1
      cases this)
  | n + 1 => by
    obtain ⟨fd, F⟩ := g.def__law_same
    exact FnY.of (N := ["got", "due", "k"]) (ps := ["got", "due"]) (vl := [0, 1, 2]) (sl := [0, 1, 2]) (gl := ["isinstance", "bool", "int", "str", "list", "tuple", "len", "range", "_law_same"]) F (C8.fnScope_by (by decide +kernel)) (scOk_lv _ (scOk_of (by decide +kernel))) (by rintro x as Ω ⟨rfl, rfl⟩; rfl) (fun _ _ _ _ _ _ us hl => match us, hl with | [_, _], _ => rfl) (b_law_same g n (f_law_same g n))

theorem b_law_shows {W : Wd} (g : Fa W) : BodyOk W c_law_shows (defBody (top 33)) s_law_shows := by
  rintro T tt x as Ω Φ Ψ ⟨rfl, rfl⟩ hm hx
  simp only [s_law_shows, sp0, sp0O, sp1, sp1O, sp1b, sp1bO, sp2, spC] at hm
  unfold m_law_shows at hm
  refine Y.s_cons (Y.s_ite (WT.cut hm (fun _ hm => (Y.t_w (Y.w_or (Y.t_not (Y.t_val (Y.e_call (f_law_same g 1) g.fn__law_same (i := 0) rfl (Y.a_v (enc := D.int) (Y.v_fld fld_Net_round_length g.cf_Net_round_length (Y.v_var 0 rfl (Y.a_v (enc := D.int) (Y.v_var 1 rfl (Y.a_nil (k0 (D.int x.1.round_length, D.int x.2.1) ((Run.noexc (Y.step hm (fun r_1 hm => ⟨_, rfl, ⟨fun hb => have hm := (Run.ite hm).2 hb; (Y.w_or1 (Y.t_not (Y.t_val (Y.e_call (f_law_same g 1) g.fn__law_same (i := 0) rfl (Y.a_v (enc := D.int) (Y.v_fld fld_Net_events g.cf_Net_events (Y.v_var 0 rfl (Y.a_v (enc := D.int) (Y.v_var 2 rfl (Y.a_nil (k0 (D.int x.1.events, D.int x.2.2.1) ((Run.noexc (Y.step hm (fun r_2 hm => ⟨_, rfl, ⟨rfl, hm.get⟩⟩))).mono (fun _ q => q) (fun _ z => z.elim))))))))))))), fun hb => have hm := (Run.ite hm).1 hb; ⟨rfl, hm.get⟩⟩⟩))).mono (fun _ q => q) (fun _ z => z.elim))))))))))))))) fun b_1 hm => ⟨fun hb => ?_, fun hb => ?_⟩))
  · have hm := (Run.ite hm).1 hb
    exact Y.s_cons (Y.s_ret (WV.asE (enc := D.bl) (Y.v_bl (r0 hm))))
  · have hm := (Run.ite hm).2 hb
    refine Y.s_nil ?_
    exact Y.s_cons (Y.s_ret (WV.asE (enc := D.bl) (Y.e_call (f_law_same g 3) g.fn__law_same (i := 0) rfl (Y.a_v (enc := (dU (dT4 D.int D.int D.int D.int))) (Y.v_fld fld_Net_spans g.cf_Net_spans (Y.v_var 0 rfl (Y.a_v (enc := (dU (dT4 D.int D.int D.int D.int))) (Y.v_tupOf 1 g.tuple (Y.q_v (Y.v_var 3 rfl (Y.a_nil (k0 ((dU (dT4 D.int D.int D.int D.int)) x.1.spans, (dU (dT4 D.int D.int D.int D.int)) x.2.2.2) ((Run.noexc (Y.step hm (fun r_3 hm => ⟨_, rfl, (r0 hm)⟩))).mono (fun _ q => q) (fun _ z => z.elim))))))))))))))
theorem f_law_shows {W : Wd} (g : Fa W) : FnY W 5 (He.ga W.K "_law_shows") (spOf W.K s_law_shows) := by
  obtain ⟨fd, F⟩ := g.def__law_shows
  exact FnY.of (N := ["net", "length", "many", "spans"]) (ps := ["net", "length", "many", "spans"]) F (C8.fnScope_by (by decide +kernel)) (scOk_of (by decide +kernel)) (by rintro x as Ω ⟨rfl, rfl⟩; rfl) (fun _ _ _ _ _ _ us hl => match us, hl with | [_, _, _, _], _ => rfl) (b_law_shows g)
theorem b_law_near_span {W : Wd} (g : Fa W) : BodyOk W c_law_near_span (defBody (top 31)) s_law_near_span := by
  rintro T tt x as Ω Φ Ψ ⟨p, rfl, rfl⟩ hm hx
  simp only [s_law_near_span, sp0, sp0O, sp1, sp1O, sp1b, sp1bO, sp2, spC] at hm
  unfold m_law_near_span at hm
  refine Y.s_cons (Y.s_setL (Ψ := Ψ) (enc := D.int) 3 (Y.v_max2 0 g.max (Y.v_var 2 rfl (Y.v_int (Y.step hm fun room_1 hm => ?_)))))
  refine Y.s_cons (Y.s_setL (Ψ := Ψ) (enc := D.int) 4 (Y.e_call (f_law_take g) g.fn__law_take (i := 2) rfl (Y.a_cons (Y.e_var 0 rfl rfl rfl (Y.a_v (enc := D.int) (Y.v_var 3 rfl (Y.a_nil (k1 ((x.1, room_1)) 0 rfl ((Run.noexc (Y.step hm (fun r_1 hm => ?_))).mono (fun _ q => q) (fun _ z => z.elim))))))))))
  refine ⟨_, rfl, (Y.step hm fun start_1 hm => ?_)⟩
  refine Y.s_cons (Y.s_setL (Ψ := Ψ) (enc := D.int) 5 (Y.v_mod (Ψ := Ψ) (Y.v_intI 1 g.int (Y.v_add (Y.v_add (Y.v_var 4 rfl (Y.v_int (Y.e_call (f_law_take g) g.fn__law_take (i := 2) rfl (Y.a_cons (Y.e_var 0 rfl rfl rfl (Y.a_v (enc := D.int) (Y.v_sub (Y.v_var 3 rfl (Y.v_int (Y.a_nil (k1 ((r_1.2, (room_1 - (1 : Int)))) 0 rfl ((Run.noexc (Y.step hm (fun r_2 hm => ?_))).mono (fun _ q => q) (fun _ z => z.elim))))))))))))))))))
  refine ⟨_, rfl, (Y.v_var 3 rfl (Y.step hm fun n_1 hm => (Y.step hm fun end_1 hm => ?_)))⟩
  refine Y.s_cons (Y.s_setL (Ψ := Ψ) (enc := D.int) 6 (Y.e_call (f_law_take g) g.fn__law_take (i := 2) rfl (Y.a_cons (Y.e_var 0 rfl rfl rfl (Y.a_v (enc := D.int) (Y.v_sub (Y.v_int (Y.v_var 1 rfl (Y.a_nil (k1 ((r_2.2, ((1000 : Int) - x.2.1))) 0 rfl ((Run.noexc (Y.step hm (fun r_3 hm => ?_))).mono (fun _ q => q) (fun _ z => z.elim))))))))))))
  refine ⟨_, rfl, (Y.step hm fun low_1 hm => ?_)⟩
  refine Y.nx_weak (Δ := [some (.own p), some (.dat (D.int x.2.1)), some (.dat (D.int x.2.2)), some (.dat (D.int room_1)), some (.dat (D.int start_1)), some (.dat (D.int end_1)), some (.dat (D.int low_1)), none, none, none, none, none]) (Ω' := [(p, oL D.int r_3.2)]) ?_ (.keep (.keep (.keep (.keep (.keep (.keep (.keep (.none (.none (.none (.none (.none .nil)))))))))))) (.cons₂ _ .slnil)
  refine Y.s_cons (Y.s_setL (Ψ := Ψ) (enc := D.int) 7 (Y.v_ixL (Ψ := Ψ) (Y.n_v (Y.n_lst (enc := D.int) [] (Y.a_v (enc := D.int) (Y.v_int (Y.a_v (enc := D.int) (Y.v_int (Y.a_v (enc := D.int) (Y.v_int (Y.a_v (enc := D.int) (Y.v_int (Y.a_v (enc := D.int) (Y.v_int (Y.a_v (enc := D.int) (Y.v_pow (Ψ := Ψ) (Y.v_int (Y.v_int (Y.step hm fun n_2 hm => ?_)))))))))))))))))))
  refine Y.a_nil ⟨[(0 : Int), (0 : Int), (0 : Int), (1 : Int), (10 : Int), n_2], rfl, (show 6 ≤ sizeLine from by decide), (Y.e_call (f_law_take g) g.fn__law_take (i := 2) rfl (Y.a_cons (Y.e_var 0 rfl rfl rfl (Y.a_v (enc := D.int) (Y.v_int (Y.a_nil (k1 ((r_3.2, (6 : Int))) 0 rfl ((Run.noexc (Y.step hm (fun r_4 hm => ?_))).mono (fun _ q => q) (fun _ z => z.elim)))))))))⟩
  refine ⟨_, rfl, (Y.step hm fun v_1 hm => (Y.step hm fun far_1 hm => ?_))⟩
  refine Y.s_cons (Y.s_setL (Ψ := Ψ) (enc := (dL (dT4 D.int D.int D.int D.int))) 8 (Y.n_v (Y.n_lst (enc := (dT4 D.int D.int D.int D.int)) [] (Y.a_v (enc := (dT4 D.int D.int D.int D.int)) (Y.v_tup (enb := (dT4 D.int D.int D.int D.int)) (Y.a_v (enc := D.int) (Y.v_sub (Y.v_neg (Y.v_int (Y.v_var 7 rfl (Y.a_v (enc := D.int) (Y.v_var 5 rfl (Y.a_v (enc := D.int) (Y.v_var 6 rfl (Y.a_v (enc := D.int) (Y.v_var 6 rfl (Y.a_nil ⟨(((-((1 : Int))) - far_1), end_1, low_1, low_1), _, rfl, rfl, (show 4 ≤ sizeLine from by decide), (Y.a_v (enc := (dT4 D.int D.int D.int D.int)) (Y.v_tup (enb := (dT4 D.int D.int D.int D.int)) (Y.a_v (enc := D.int) (Y.v_add (Y.v_var 2 rfl (Y.v_var 7 rfl (Y.a_v (enc := D.int) (Y.v_var 5 rfl (Y.a_v (enc := D.int) (Y.v_var 6 rfl (Y.a_v (enc := D.int) (Y.v_var 6 rfl (Y.a_nil ⟨((x.2.2 + far_1), end_1, low_1, low_1), _, rfl, rfl, (show 4 ≤ sizeLine from by decide), (Y.a_v (enc := (dT4 D.int D.int D.int D.int)) (Y.v_tup (enb := (dT4 D.int D.int D.int D.int)) (Y.a_v (enc := D.int) (Y.v_var 4 rfl (Y.a_v (enc := D.int) (Y.v_sub (Y.v_neg (Y.v_int (Y.v_var 7 rfl (Y.a_v (enc := D.int) (Y.v_var 6 rfl (Y.a_v (enc := D.int) (Y.v_var 6 rfl (Y.a_nil ⟨(start_1, ((-((1 : Int))) - far_1), low_1, low_1), _, rfl, rfl, (show 4 ≤ sizeLine from by decide), (Y.a_nil ⟨[(((-((1 : Int))) - far_1), end_1, low_1, low_1), ((x.2.2 + far_1), end_1, low_1, low_1), (start_1, ((-((1 : Int))) - far_1), low_1, low_1)], rfl, (show 3 ≤ sizeLine from by decide), (Y.step hm fun rows_1 hm => ?_)⟩)⟩))))))))))))))⟩)))))))))))))⟩)))))))))))))))))
  refine Y.s_cons (Y.s_setL (Ψ := Ψ) (enc := (dL (dT4 D.int D.int D.int D.int))) 8 (Y.n_v (Y.n_catV (Ψ := Ψ) (Y.v_var 8 rfl (Y.x_v (Y.n_v (Y.n_lst (enc := (dT4 D.int D.int D.int D.int)) [] (Y.a_v (enc := (dT4 D.int D.int D.int D.int)) (Y.v_tup (enb := (dT4 D.int D.int D.int D.int)) (Y.a_v (enc := D.int) (Y.v_var 4 rfl (Y.a_v (enc := D.int) (Y.v_add (Y.v_var 2 rfl (Y.v_var 7 rfl (Y.a_v (enc := D.int) (Y.v_var 6 rfl (Y.a_v (enc := D.int) (Y.v_var 6 rfl (Y.a_nil ⟨(start_1, (x.2.2 + far_1), low_1, low_1), _, rfl, rfl, (show 4 ≤ sizeLine from by decide), (Y.a_v (enc := (dT4 D.int D.int D.int D.int)) (Y.v_tup (enb := (dT4 D.int D.int D.int D.int)) (Y.a_v (enc := D.int) (Y.v_var 4 rfl (Y.a_v (enc := D.int) (Y.v_var 4 rfl (Y.a_v (enc := D.int) (Y.v_var 6 rfl (Y.a_v (enc := D.int) (Y.v_var 6 rfl (Y.a_nil ⟨(start_1, start_1, low_1, low_1), _, rfl, rfl, (show 4 ≤ sizeLine from by decide), (Y.a_v (enc := (dT4 D.int D.int D.int D.int)) (Y.v_tup (enb := (dT4 D.int D.int D.int D.int)) (Y.a_v (enc := D.int) (Y.v_var 4 rfl (Y.a_v (enc := D.int) (Y.v_var 5 rfl (Y.a_v (enc := D.int) (Y.v_sub (Y.v_neg (Y.v_int (Y.v_var 7 rfl (Y.a_v (enc := D.int) (Y.v_sub (Y.v_sub (Y.v_var 1 rfl (Y.v_int (Y.v_var 7 rfl (Y.a_nil ⟨(start_1, end_1, ((-((1 : Int))) - far_1), ((x.2.1 - (2 : Int)) - far_1)), _, rfl, rfl, (show 4 ≤ sizeLine from by decide), (Y.a_nil ⟨[(start_1, (x.2.2 + far_1), low_1, low_1), (start_1, start_1, low_1, low_1), (start_1, end_1, ((-((1 : Int))) - far_1), ((x.2.1 - (2 : Int)) - far_1))], rfl, (show 3 ≤ sizeLine from by decide), (Y.step hm fun lst_1 hm => (Y.step hm fun rows_2 hm => ?_))⟩)⟩))))))))))))))))))⟩)))))))))))⟩))))))))))))))))))))
  refine Y.s_cons (Y.s_setL (Ψ := Ψ) (enc := (dL (dT4 D.int D.int D.int D.int))) 8 (Y.n_v (Y.n_catV (Ψ := Ψ) (Y.v_var 8 rfl (Y.x_v (Y.n_v (Y.n_lst (enc := (dT4 D.int D.int D.int D.int)) [] (Y.a_v (enc := (dT4 D.int D.int D.int D.int)) (Y.v_tup (enb := (dT4 D.int D.int D.int D.int)) (Y.a_v (enc := D.int) (Y.v_var 4 rfl (Y.a_v (enc := D.int) (Y.v_var 5 rfl (Y.a_v (enc := D.int) (Y.v_add (Y.v_add (Y.v_var 6 rfl (Y.v_int (Y.v_var 7 rfl (Y.a_v (enc := D.int) (Y.v_var 6 rfl (Y.a_nil ⟨(start_1, end_1, ((low_1 + (1 : Int)) + far_1), low_1), _, rfl, rfl, (show 4 ≤ sizeLine from by decide), (Y.a_v (enc := (dT4 D.int D.int D.int D.int)) (Y.v_tup (enb := (dT4 D.int D.int D.int D.int)) (Y.a_v (enc := D.int) (Y.v_var 4 rfl (Y.a_v (enc := D.int) (Y.v_var 5 rfl (Y.a_v (enc := D.int) (Y.v_var 6 rfl (Y.a_v (enc := D.int) (Y.v_add (Y.v_add (Y.v_var 6 rfl (Y.v_var 1 rfl (Y.v_var 7 rfl (Y.a_nil ⟨(start_1, end_1, low_1, ((low_1 + x.2.1) + far_1)), _, rfl, rfl, (show 4 ≤ sizeLine from by decide), (Y.a_v (enc := (dT4 D.int D.int D.int D.int)) (Y.v_tup (enb := (dT4 D.int D.int D.int D.int)) (Y.a_v (enc := D.int) (Y.v_var 4 rfl (Y.a_v (enc := D.int) (Y.v_var 5 rfl (Y.a_v (enc := D.int) (Y.v_int (Y.a_v (enc := D.int) (Y.v_int (Y.a_nil ⟨(start_1, end_1, (999 : Int), (1000 : Int)), _, rfl, rfl, (show 4 ≤ sizeLine from by decide), (Y.a_nil ⟨[(start_1, end_1, ((low_1 + (1 : Int)) + far_1), low_1), (start_1, end_1, low_1, ((low_1 + x.2.1) + far_1)), (start_1, end_1, (999 : Int), (1000 : Int))], rfl, (show 3 ≤ sizeLine from by decide), (Y.step hm fun lst_2 hm => (Y.step hm fun rows_3 hm => ?_))⟩)⟩)))))))))))⟩)))))))))))))))⟩))))))))))))))))))))))
  refine Y.nx_weak (Δ := [some (.own p), some (.dat (D.int x.2.1)), some (.dat (D.int x.2.2)), some (.dat (D.int room_1)), some (.dat (D.int start_1)), some (.dat (D.int end_1)), some (.dat (D.int low_1)), some (.dat (D.int far_1)), some (.dat ((dL (dT4 D.int D.int D.int D.int)) rows_3)), none, none, none]) (Ω' := [(p, oL D.int r_4.2)]) ?_ (.keep (.keep (.keep (.keep (.keep (.keep (.keep (.keep (.keep (.none (.none (.none .nil)))))))))))) (.cons₂ _ .slnil)
  refine Y.s_cons (Y.s_setL (Ψ := Ψ) (enc := (dL (dT4 D.int D.int D.int D.int))) 8 (Y.n_v (Y.n_catV (Ψ := Ψ) (Y.v_var 8 rfl (Y.x_v (Y.n_v (Y.n_lst (enc := (dT4 D.int D.int D.int D.int)) [] (Y.a_v (enc := (dT4 D.int D.int D.int D.int)) (Y.v_tup (enb := (dT4 D.int D.int D.int D.int)) (Y.a_v (enc := D.int) (Y.v_var 4 rfl (Y.a_v (enc := D.int) (Y.v_var 5 rfl (Y.a_v (enc := D.int) (Y.v_int (Y.a_v (enc := D.int) (Y.v_int (Y.a_nil ⟨(start_1, end_1, (1000 : Int), (1000 : Int)), _, rfl, rfl, (show 4 ≤ sizeLine from by decide), (Y.a_v (enc := (dT4 D.int D.int D.int D.int)) (Y.v_tup (enb := (dT4 D.int D.int D.int D.int)) (Y.a_v (enc := D.int) (Y.v_var 4 rfl (Y.a_v (enc := D.int) (Y.v_var 5 rfl (Y.a_v (enc := D.int) (Y.v_var 6 rfl (Y.a_v (enc := D.int) (Y.v_sub (Y.v_add (Y.v_var 6 rfl (Y.v_var 1 rfl (Y.v_int (Y.a_nil ⟨(start_1, end_1, low_1, ((low_1 + x.2.1) - (1 : Int))), _, rfl, rfl, (show 4 ≤ sizeLine from by decide), (Y.a_v (enc := (dT4 D.int D.int D.int D.int)) (Y.v_tup (enb := (dT4 D.int D.int D.int D.int)) (Y.a_v (enc := D.int) (Y.v_var 4 rfl (Y.a_v (enc := D.int) (Y.v_var 5 rfl (Y.a_v (enc := D.int) (Y.v_var 6 rfl (Y.a_v (enc := D.int) (Y.v_var 6 rfl (Y.a_nil ⟨(start_1, end_1, low_1, low_1), _, rfl, rfl, (show 4 ≤ sizeLine from by decide), (Y.a_nil ⟨[(start_1, end_1, (1000 : Int), (1000 : Int)), (start_1, end_1, low_1, ((low_1 + x.2.1) - (1 : Int))), (start_1, end_1, low_1, low_1)], rfl, (show 3 ≤ sizeLine from by decide), (Y.step hm fun lst_3 hm => (Y.step hm fun rows_4 hm => ?_))⟩)⟩)))))))))))⟩)))))))))))))))⟩))))))))))))))))))
  refine Y.s_cons (Y.s_setL (Ψ := Ψ) (enc := (dL (dT4 D.int D.int D.int D.int))) 8 (Y.n_v (Y.n_catV (Ψ := Ψ) (Y.v_var 8 rfl (Y.x_v (Y.n_v (Y.n_lst (enc := (dT4 D.int D.int D.int D.int)) [] (Y.a_v (enc := (dT4 D.int D.int D.int D.int)) (Y.v_tup (enb := (dT4 D.int D.int D.int D.int)) (Y.a_v (enc := D.int) (Y.v_var 4 rfl (Y.a_v (enc := D.int) (Y.v_var 5 rfl (Y.a_v (enc := D.int) (Y.v_int (Y.a_v (enc := D.int) (Y.v_int (Y.a_nil ⟨(start_1, end_1, (0 : Int), (0 : Int)), _, rfl, rfl, (show 4 ≤ sizeLine from by decide), (Y.a_v (enc := (dT4 D.int D.int D.int D.int)) (Y.v_tup (enb := (dT4 D.int D.int D.int D.int)) (Y.a_v (enc := D.int) (Y.v_var 4 rfl (Y.a_v (enc := D.int) (Y.v_var 5 rfl (Y.a_v (enc := D.int) (Y.v_int (Y.a_v (enc := D.int) (Y.v_sub (Y.v_var 1 rfl (Y.v_int (Y.a_nil ⟨(start_1, end_1, (0 : Int), (x.2.1 - (1 : Int))), _, rfl, rfl, (show 4 ≤ sizeLine from by decide), (Y.a_v (enc := (dT4 D.int D.int D.int D.int)) (Y.v_tup (enb := (dT4 D.int D.int D.int D.int)) (Y.a_v (enc := D.int) (Y.v_var 4 rfl (Y.a_v (enc := D.int) (Y.v_var 5 rfl (Y.a_v (enc := D.int) (Y.v_int (Y.a_v (enc := D.int) (Y.v_int (Y.a_nil ⟨(start_1, end_1, (999 : Int), (999 : Int)), _, rfl, rfl, (show 4 ≤ sizeLine from by decide), (Y.a_nil ⟨[(start_1, end_1, (0 : Int), (0 : Int)), (start_1, end_1, (0 : Int), (x.2.1 - (1 : Int))), (start_1, end_1, (999 : Int), (999 : Int))], rfl, (show 3 ≤ sizeLine from by decide), (Y.step hm fun lst_4 hm => (Y.step hm fun rows_5 hm => ?_))⟩)⟩)))))))))))⟩)))))))))))))⟩))))))))))))))))))
  refine Y.s_cons (Y.s_setL (Ψ := Ψ) (enc := (dL (dT4 D.int D.int D.int D.int))) 8 (Y.n_v (Y.n_catV (Ψ := Ψ) (Y.v_var 8 rfl (Y.x_v (Y.n_v (Y.n_lst (enc := (dT4 D.int D.int D.int D.int)) [] (Y.a_v (enc := (dT4 D.int D.int D.int D.int)) (Y.v_tup (enb := (dT4 D.int D.int D.int D.int)) (Y.a_v (enc := D.int) (Y.v_var 4 rfl (Y.a_v (enc := D.int) (Y.v_var 5 rfl (Y.a_v (enc := D.int) (Y.v_sub (Y.v_int (Y.v_var 1 rfl (Y.a_v (enc := D.int) (Y.v_int (Y.a_nil ⟨(start_1, end_1, ((1000 : Int) - x.2.1), (999 : Int)), _, rfl, rfl, (show 4 ≤ sizeLine from by decide), (Y.a_nil ⟨[(start_1, end_1, ((1000 : Int) - x.2.1), (999 : Int))], rfl, (show 1 ≤ sizeLine from by decide), (Y.step hm fun lst_5 hm => (Y.step hm fun rows_6 hm => ?_))⟩)⟩))))))))))))))))))))
  refine Y.s_cons (Y.s_setL (Ψ := Ψ) (enc := D.int) 9 (Y.e_call (f_law_take g) g.fn__law_take (i := 2) rfl (Y.a_cons (Y.e_var 0 rfl rfl rfl (Y.a_v (enc := D.int) (Y.v_int (Y.a_nil (k1 ((r_4.2, (16 : Int))) 0 rfl ((Run.noexc (Y.step hm (fun r_5 hm => ?_))).mono (fun _ q => q) (fun _ z => z.elim))))))))))
  refine ⟨_, rfl, (Y.step hm fun way_1 hm => ?_)⟩
  refine Y.nx_weak (Δ := [some (.own p), some (.dat (D.int x.2.1)), some (.dat (D.int x.2.2)), some (.dat (D.int room_1)), some (.dat (D.int start_1)), some (.dat (D.int end_1)), some (.dat (D.int low_1)), some (.dat (D.int far_1)), some (.dat ((dL (dT4 D.int D.int D.int D.int)) rows_6)), some (.dat (D.int way_1)), none, none]) (Ω' := [(p, oL D.int r_5.2)]) ?_ (.keep (.keep (.keep (.keep (.keep (.keep (.keep (.keep (.keep (.keep (.none (.none .nil)))))))))))) (.cons₂ _ .slnil)
  refine Y.s_cons (Y.s_ite (WT.cutS (ΩS := fun st_1 => [(p, oL D.int st_1)]) hm (fun _ hm => (Y.t_w (Y.w_and (Y.t_cmp (Y.c_eqI (Y.v_var 9 rfl (Y.v_int ⟨fun hb => have hm := (Run.ite hm).1 hb; (Y.w_and1 (Y.t_cmp (Y.c_eqI (Y.e_call (f_law_take g) g.fn__law_take (i := 2) rfl (Y.a_cons (Y.e_var 0 rfl rfl rfl (Y.a_v (enc := D.int) (Y.v_int (Y.a_nil (k1 ((r_5.2, (2 : Int))) 0 rfl ((Run.noexc (Y.step hm (fun r_6 hm => ⟨_, rfl, (Y.v_int ⟨r_6.2, rfl, hm.get⟩)⟩))).mono (fun _ q => q) (fun _ z => z.elim)))))))))))), fun hb => have hm := (Run.ite hm).2 hb; ⟨r_5.2, rfl, hm.get⟩⟩))))))) fun b_1 st_1 hm => ⟨fun hb => ?_, fun hb => ?_⟩))
  · have hm := (Run.ite hm).1 hb
    refine Y.s_cons (Y.s_setC 10 (scope := _) [("k", 11)] [0, 11] ["_law_take"] (by decide +kernel) (Y.i_rng1 (Ψ := Ψ) 3 g.range (Y.v_int (Y.step hm fun xs_1 hm => ⟨okLen_le (Run.chk hm).1, have hm := (Run.chk hm).2; CompOk.mapS (fun s_1 => [(p, oL D.int s_1)]) (Run.bind hm) rfl (fun it_1 s_1 Φ' hmem hm T1 q o e1 => (Y.g_name 11 (fun T3 e3 => (Y.v_sub (Y.e_call (f_law_take g) g.fn__law_take (i := 0) rfl (Y.a_cons (Y.e_var 0 rfl rfl rfl (Y.a_v (enc := D.int) (Y.v_add (Y.v_mul (Ψ := Ψ) (Y.v_int (Y.v_pow (Ψ := Ψ) (Y.v_int (Y.v_int (Y.step hm fun n_3 hm => (Y.step hm fun n_4 hm => (Y.v_int (Y.a_nil (k1 ((s_1, (n_4 + (1 : Int)))) 1 rfl ((Run.noexc (Y.step hm (fun r_7 hm => ⟨_, rfl, (Y.v_pow (Ψ := Ψ) (Y.v_int (Y.v_int (Y.step hm fun n_5 hm => ⟨r_7.2, rfl, hm.get⟩))))⟩))).mono (fun _ q => q) (fun _ z => z.elim))))))))))))))))))))) (fun z_1 hm => fun q_1 hq_1 => ?_)⟩))))
    refine Y.s_frz 10 0 rfl rfl hq_1 ?_
    refine Y.s_cons (Y.s_ret (WV.asE (enc := (dT4 D.int D.int D.int D.int)) (Y.v_tup (enb := (dT4 D.int D.int D.int D.int)) (Y.a_v (enc := D.int) (Y.v_ixL (Ψ := Ψ) (Y.v_var 10 rfl (Y.v_int (Y.step hm fun v_2 hm => ?_))))))))
    refine Y.a_v (enc := D.int) (Y.v_ixL (Ψ := Ψ) (Y.v_var 10 rfl (Y.v_int (Y.step hm fun v_3 hm => ?_))))
    refine Y.a_v (enc := D.int) (Y.v_ixL (Ψ := Ψ) (Y.v_var 10 rfl (Y.v_int (Y.step hm fun v_4 hm => ?_))))
    refine Y.a_v (enc := D.int) (Y.v_ixL (Ψ := Ψ) (Y.v_var 10 rfl (Y.v_int (Y.step hm fun v_5 hm => ?_))))
    exact Y.a_nil ⟨(v_2, v_3, v_4, v_5), _, rfl, rfl, (show 4 ≤ sizeLine from by decide), (r1 hm (.cons₂ _ .slnil))⟩
  · have hm := (Run.ite hm).2 hb
    refine Y.s_nil ?_
    exact Y.s_cons (Y.s_ret (WV.asE (enc := (dT4 D.int D.int D.int D.int)) (Y.v_ixL (Ψ := Ψ) (Y.v_var 8 rfl (Y.v_var 9 rfl (Y.step hm fun v_6 hm => (r1 hm (.cons₂ _ .slnil))))))))
theorem f_law_near_span {W : Wd} (g : Fa W) : FnY W 2 (He.ga W.K "_law_near_span") (spOf W.K s_law_near_span) := by
  obtain ⟨fd, F⟩ := g.def__law_near_span
  exact FnY.of (N := ["pool", "length", "many", "room", "start", "end", "low", "far", "rows", "way", "four", "k"]) (ps := ["pool", "length", "many"]) F (C8.fnScope_by (by decide +kernel)) (scOk_of (by decide +kernel)) (by rintro x as Ω ⟨p, rfl, rfl⟩; rfl) (fun _ _ _ _ _ _ us hl => match us, hl with | [_, _, _], _ => rfl) (b_law_near_span g)
theorem b_law_nets_near {W : Wd} (g : Fa W) : BodyOk W c_law_nets_near (defBody (top 32)) s_law_nets_near := by
  rintro T tt x as Ω Φ Ψ ⟨p, rfl, rfl⟩ hm hx
  simp only [s_law_nets_near, sp0, sp0O, sp1, sp1O, sp1b, sp1bO, sp2, spC] at hm
  unfold m_law_nets_near at hm
  refine Y.s_cons (Y.s_setL (Ψ := Ψ) (enc := D.int) 4 (Y.e_call (f_law_take g) g.fn__law_take (i := 2) rfl (Y.a_cons (Y.e_var 0 rfl rfl rfl (Y.a_v (enc := D.int) (Y.v_add (Y.v_len 0 g.len (Y.q_v (Y.v_var 3 rfl (Y.v_int (Y.a_nil (k1 ((x.1, (((x.2.2.2.length : Nat) : Int) + (1 : Int)))) 0 rfl ((Run.noexc (Y.step hm (fun r_1 hm => ⟨_, rfl, (Y.step hm fun at_1 hm => ?_)⟩))).mono (fun _ q => q) (fun _ z => z.elim))))))))))))))
  refine Y.s_cons (Y.s_setL (Ψ := Ψ) (enc := (dL (dT4 D.int D.int D.int D.int))) 5 (Y.n_v (Y.n_catV (Ψ := Ψ) (Y.n_v (Y.n_catV (Ψ := Ψ) (Y.n_v (Y.n_sli (Y.l_v (Y.v_var 3 rfl (Y.p_none (Y.p_some (Y.v_var 4 rfl ⟨rfl, (Y.x_v (Y.n_v (Y.n_lst (enc := (dT4 D.int D.int D.int D.int)) [] (Y.a_v (enc := (dT4 D.int D.int D.int D.int)) (Y.e_call (f_law_near_span g) g.fn__law_near_span (i := 1) rfl (Y.a_cons (Y.e_var 0 rfl rfl rfl (Y.a_v (enc := D.int) (Y.v_var 1 rfl (Y.a_v (enc := D.int) (Y.v_var 2 rfl (Y.a_nil (k1 ((r_1.2, x.2.1, x.2.2.1)) 0 rfl ((Run.noexc (Y.step hm (fun r_2 hm => ?_))).mono (fun _ q => q) (fun _ z => z.elim)))))))))))))))⟩))))))))))))
  refine ⟨_, rfl, (Y.a_nil ⟨[r_2.1], rfl, (show 1 ≤ sizeLine from by decide), (Y.step hm fun lst_1 hm => ?_)⟩)⟩
  refine Y.x_v (Y.n_v (Y.n_sli (Y.l_v (Y.v_var 3 rfl (Y.p_some (Y.v_var 4 rfl (Y.p_none ⟨rfl, (Y.step hm fun lst_2 hm => (Y.step hm fun near_1 hm => ?_))⟩)))))))
  refine Y.s_iteG (ι := Unit) (σ := (Int) × (List ((Int) × (Int) × (Int) × (Int))) × (List (Int))) (fun _ => True) (fun _ s_1 => [some (.own p), some (.dat (D.int x.2.1)), some (.dat (D.int x.2.2.1)), some (.dat ((dL (dT4 D.int D.int D.int D.int)) x.2.2.2)), some (.dat (D.int s_1.1)), some (.dat ((dL (dT4 D.int D.int D.int D.int)) s_1.2.1)), none, none, none, none, none, none, none]) (fun _ s_1 => [(p, oL D.int s_1.2.2)]) (Y.t_cmp (Y.c_eqI (Y.e_call (f_law_take g) g.fn__law_take (i := 2) rfl (Y.a_cons (Y.e_var 0 rfl rfl rfl (Y.a_v (enc := D.int) (Y.v_int (Y.a_nil (k1 ((r_2.2, (2 : Int))) 0 rfl ((Run.noexc (Y.step hm (fun r_3 hm => ⟨_, rfl, (Y.v_int ⟨_, _, _, hm, fun hb Φ' hm => ?_, fun hb Φ' hm => ?_, ?_⟩)⟩))).mono (fun _ q => q) (fun _ z => z.elim)))))))))))
  · refine Y.s_cons (Y.s_setL (Ψ := Ψ) (enc := D.int) 4 (Y.v_add (Y.v_add (Y.v_var 4 rfl (Y.v_int (Y.e_call (f_law_take g) g.fn__law_take (i := 2) rfl (Y.a_cons (Y.e_var 0 rfl rfl rfl (Y.a_v (enc := D.int) (Y.v_sub (Y.v_len 0 g.len (Y.q_v (Y.v_var 5 rfl (Y.v_var 4 rfl (Y.a_nil (k1 ((r_3.2, (((near_1.length : Nat) : Int) - at_1))) 0 rfl ((Run.noexc (Y.step hm (fun r_4 hm => ⟨_, rfl, (Y.step hm fun at_2 hm => ?_)⟩))).mono (fun _ q => q) (fun _ z => z.elim))))))))))))))))))
    refine Y.s_cons (Y.s_setL (Ψ := Ψ) (enc := (dL (dT4 D.int D.int D.int D.int))) 5 (Y.n_v (Y.n_catV (Ψ := Ψ) (Y.n_v (Y.n_catV (Ψ := Ψ) (Y.n_v (Y.n_sli (Y.l_v (Y.v_var 5 rfl (Y.p_none (Y.p_some (Y.v_var 4 rfl ⟨rfl, (Y.x_v (Y.n_v (Y.n_lst (enc := (dT4 D.int D.int D.int D.int)) [] (Y.a_v (enc := (dT4 D.int D.int D.int D.int)) (Y.e_call (f_law_near_span g) g.fn__law_near_span (i := 1) rfl (Y.a_cons (Y.e_var 0 rfl rfl rfl (Y.a_v (enc := D.int) (Y.v_var 1 rfl (Y.a_v (enc := D.int) (Y.v_var 2 rfl (Y.a_nil (k1 ((r_4.2, x.2.1, x.2.2.1)) 0 rfl ((Run.noexc (Y.step hm (fun r_5 hm => ?_))).mono (fun _ q => q) (fun _ z => z.elim)))))))))))))))⟩))))))))))))
    refine ⟨_, rfl, (Y.a_nil ⟨[r_5.1], rfl, (show 1 ≤ sizeLine from by decide), (Y.step hm fun lst_3 hm => ?_)⟩)⟩
    refine Y.x_v (Y.n_v (Y.n_sli (Y.l_v (Y.v_var 5 rfl (Y.p_some (Y.v_var 4 rfl (Y.p_none ⟨rfl, (Y.step hm fun lst_4 hm => (Y.step hm fun near_2 hm => ?_))⟩)))))))
    refine Y.s_nil ?_
    exact ⟨(), (at_2, near_2, r_5.2), trivial, (.keep (.keep (.keep (.keep (.keep (.keep (.none (.none (.none (.none (.none (.none (.none .nil))))))))))))), (.cons₂ _ .slnil), hm.get⟩
  · refine Y.s_nil ?_
    exact ⟨(), (at_1, near_1, r_3.2), trivial, (.keep (.keep (.keep (.keep (.keep (.keep (.none (.none (.none (.none (.none (.none (.none .nil))))))))))))), (.cons₂ _ .slnil), hm.get⟩
  · intro s_1 _ _ hm
    refine Y.s_cons (Y.s_setL (Ψ := Ψ) (enc := (dL D.int)) 6 (Y.n_v (Y.n_lst (enc := D.int) [] (Y.a_v (enc := D.int) (Y.v_int (Y.a_v (enc := D.int) (Y.v_int (Y.a_v (enc := D.int) (Y.v_sub (Y.v_var 1 rfl (Y.v_int (Y.a_v (enc := D.int) (Y.v_add (Y.v_var 1 rfl (Y.v_int (Y.a_v (enc := D.int) (Y.e_call (f_law_take g) g.fn__law_take (i := 2) rfl (Y.a_cons (Y.e_var 0 rfl rfl rfl (Y.a_v (enc := D.int) (Y.v_int (Y.a_nil (k1 ((s_1.2.2, (63 : Int))) 0 rfl ((Run.noexc (Y.step hm (fun r_6 hm => ?_))).mono (fun _ q => q) (fun _ z => z.elim)))))))))))))))))))))))))
    refine ⟨_, rfl, (Y.a_v (enc := D.int) (Y.v_pow (Ψ := Ψ) (Y.v_int (Y.v_int (Y.step hm fun n_1 hm => ?_)))))⟩
    refine Y.a_v (enc := D.int) (Y.v_sub (Y.v_int (Y.v_pow (Ψ := Ψ) (Y.v_int (Y.v_int (Y.step hm fun n_2 hm => ?_))))))
    refine Y.a_nil ⟨[(1 : Int), (61 : Int), (x.2.1 - (1 : Int)), (x.2.1 + (1 : Int)), r_6.1, n_1, ((0 : Int) - n_2)], rfl, (show 7 ≤ sizeLine from by decide), (Y.step hm fun lengths_1 hm => ?_)⟩
    refine Y.s_cons (Y.s_setL (Ψ := Ψ) (enc := D.int) 7 (Y.v_ixL (Ψ := Ψ) (Y.v_var 6 rfl (Y.e_call (f_law_take g) g.fn__law_take (i := 2) rfl (Y.a_cons (Y.e_var 0 rfl rfl rfl (Y.a_v (enc := D.int) (Y.v_int (Y.a_nil (k1 ((r_6.2, (7 : Int))) 0 rfl ((Run.noexc (Y.step hm (fun r_7 hm => ?_))).mono (fun _ q => q) (fun _ z => z.elim))))))))))))
    refine ⟨_, rfl, (Y.step hm fun v_1 hm => (Y.step hm fun length_near_1 hm => ?_))⟩
    refine Y.s_cons (Y.s_setL (Ψ := Ψ) (enc := (dL D.int)) 8 (Y.n_v (Y.n_lst (enc := D.int) [] (Y.a_v (enc := D.int) (Y.v_neg (Y.v_int (Y.a_v (enc := D.int) (Y.v_int (Y.a_v (enc := D.int) (Y.v_sub (Y.v_var 2 rfl (Y.v_int (Y.a_v (enc := D.int) (Y.v_add (Y.v_var 2 rfl (Y.v_int (Y.a_v (enc := D.int) (Y.e_call (f_law_take g) g.fn__law_take (i := 2) rfl (Y.a_cons (Y.e_var 0 rfl rfl rfl (Y.a_v (enc := D.int) (Y.v_int (Y.a_nil (k1 ((r_7.2, (15 : Int))) 0 rfl ((Run.noexc (Y.step hm (fun r_8 hm => ?_))).mono (fun _ q => q) (fun _ z => z.elim))))))))))))))))))))))))))
    refine ⟨_, rfl, (Y.a_v (enc := D.int) (Y.v_pow (Ψ := Ψ) (Y.v_int (Y.v_int (Y.step hm fun n_3 hm => ?_)))))⟩
    refine Y.a_v (enc := D.int) (Y.v_sub (Y.v_int (Y.v_pow (Ψ := Ψ) (Y.v_int (Y.v_int (Y.step hm fun n_4 hm => ?_))))))
    refine Y.a_nil ⟨[(-((1 : Int))), (13 : Int), (x.2.2.1 - (1 : Int)), (x.2.2.1 + (1 : Int)), r_8.1, n_3, ((0 : Int) - n_4)], rfl, (show 7 ≤ sizeLine from by decide), (Y.step hm fun counts_1 hm => ?_)⟩
    refine Y.s_cons (Y.s_setL (Ψ := Ψ) (enc := D.int) 9 (Y.v_ixL (Ψ := Ψ) (Y.v_var 8 rfl (Y.e_call (f_law_take g) g.fn__law_take (i := 2) rfl (Y.a_cons (Y.e_var 0 rfl rfl rfl (Y.a_v (enc := D.int) (Y.v_int (Y.a_nil (k1 ((r_8.2, (7 : Int))) 0 rfl ((Run.noexc (Y.step hm (fun r_9 hm => ?_))).mono (fun _ q => q) (fun _ z => z.elim))))))))))))
    refine ⟨_, rfl, (Y.step hm fun v_2 hm => (Y.step hm fun many_near_1 hm => ?_))⟩
    refine Y.nx_weak (Δ := [some (.own p), some (.dat (D.int x.2.1)), some (.dat (D.int x.2.2.1)), some (.dat ((dL (dT4 D.int D.int D.int D.int)) x.2.2.2)), some (.dat (D.int s_1.1)), some (.dat ((dL (dT4 D.int D.int D.int D.int)) s_1.2.1)), some (.dat ((dL D.int) lengths_1)), some (.dat (D.int length_near_1)), some (.dat ((dL D.int) counts_1)), some (.dat (D.int many_near_1)), none, none, none]) (Ω' := [(p, oL D.int r_9.2)]) ?_ (.keep (.keep (.keep (.keep (.keep (.keep (.keep (.keep (.keep (.keep (.none (.none (.none .nil))))))))))))) (.cons₂ _ .slnil)
    refine Y.s_cons (Y.s_setL (Ψ := Ψ) (enc := (dT4 D.int D.int D.int D.int)) 10 (Y.v_tup (enb := (dT4 D.int D.int D.int D.int)) (Y.a_v (enc := D.int) (Y.v_int (Y.a_v (enc := D.int) (Y.v_int (Y.a_v (enc := D.int) (Y.v_int (Y.a_v (enc := D.int) (Y.v_sub (Y.v_var 1 rfl (Y.v_int (Y.a_nil ⟨((1 : Int), (0 : Int), (0 : Int), (x.2.1 - (1 : Int))), _, rfl, rfl, (show 4 ≤ sizeLine from by decide), (Y.step hm fun span_1 hm => ?_)⟩)))))))))))))
    refine Y.s_cons (Y.s_setL (Ψ := Ψ) (enc := (dL (dT4 D.int D.int D.int D.int))) 11 (Y.n_v (Y.n_catV (Ψ := Ψ) (Y.v_var 3 rfl (Y.x_v (Y.n_v (Y.n_rep (Ψ := Ψ) (Y.x_v (Y.n_v (Y.n_lst (enc := (dT4 D.int D.int D.int D.int)) [] (Y.a_v (enc := (dT4 D.int D.int D.int D.int)) (Y.v_var 10 rfl (Y.a_nil ⟨[span_1], rfl, (show 1 ≤ sizeLine from by decide), (Y.v_sub (Y.v_int (Y.v_len 0 g.len (Y.q_v (Y.v_var 3 rfl ⟨rfl, (Y.step hm fun lst_5 hm => ?_)⟩)))))⟩)))))))))))))
    refine Y.step hm fun lst_6 hm => (Y.step hm fun filled_1 hm => ?_)
    refine Y.s_cons (Y.s_setL (Ψ := Ψ) (enc := (dL (dT3 D.int D.int (dL (dT4 D.int D.int D.int D.int))))) 12 (Y.n_v (Y.n_lst (enc := (dT3 D.int D.int (dL (dT4 D.int D.int D.int D.int)))) [] (Y.a_v (enc := (dT3 D.int D.int (dL (dT4 D.int D.int D.int D.int)))) (Y.v_tup (enb := (dT3 D.int D.int (dL (dT4 D.int D.int D.int D.int)))) (Y.a_v (enc := D.int) (Y.v_var 1 rfl (Y.a_v (enc := D.int) (Y.v_var 2 rfl (Y.a_v (enc := (dL (dT4 D.int D.int D.int D.int))) (Y.v_var 3 rfl (Y.a_nil ⟨(x.2.1, x.2.2.1, x.2.2.2), _, rfl, rfl, (show 3 ≤ sizeLine from by decide), (Y.a_v (enc := (dT3 D.int D.int (dL (dT4 D.int D.int D.int D.int)))) (Y.v_tup (enb := (dT3 D.int D.int (dL (dT4 D.int D.int D.int D.int)))) (Y.a_v (enc := D.int) (Y.v_var 1 rfl (Y.a_v (enc := D.int) (Y.v_var 2 rfl (Y.a_v (enc := (dL (dT4 D.int D.int D.int D.int))) (Y.v_var 5 rfl (Y.a_nil ⟨(x.2.1, x.2.2.1, s_1.2.1), _, rfl, rfl, (show 3 ≤ sizeLine from by decide), (Y.a_v (enc := (dT3 D.int D.int (dL (dT4 D.int D.int D.int D.int)))) (Y.v_tup (enb := (dT3 D.int D.int (dL (dT4 D.int D.int D.int D.int)))) (Y.a_v (enc := D.int) (Y.v_var 7 rfl (Y.a_v (enc := D.int) (Y.v_var 2 rfl (Y.a_v (enc := (dL (dT4 D.int D.int D.int D.int))) (Y.v_var 3 rfl (Y.a_nil ⟨(length_near_1, x.2.2.1, x.2.2.2), _, rfl, rfl, (show 3 ≤ sizeLine from by decide), (Y.a_v (enc := (dT3 D.int D.int (dL (dT4 D.int D.int D.int D.int)))) (Y.v_tup (enb := (dT3 D.int D.int (dL (dT4 D.int D.int D.int D.int)))) (Y.a_v (enc := D.int) (Y.v_var 1 rfl (Y.a_v (enc := D.int) (Y.v_var 9 rfl (Y.a_v (enc := (dL (dT4 D.int D.int D.int D.int))) (Y.v_var 3 rfl (Y.a_nil ⟨(x.2.1, many_near_1, x.2.2.2), _, rfl, rfl, (show 3 ≤ sizeLine from by decide), (Y.a_nil ⟨[(x.2.1, x.2.2.1, x.2.2.2), (x.2.1, x.2.2.1, s_1.2.1), (length_near_1, x.2.2.1, x.2.2.2), (x.2.1, many_near_1, x.2.2.2)], rfl, (show 4 ≤ sizeLine from by decide), (Y.step hm fun rows_1 hm => ?_)⟩)⟩)))))))))⟩)))))))))⟩)))))))))⟩))))))))))))
    refine Y.s_cons (Y.s_setL (Ψ := Ψ) (enc := (dL (dT3 D.int D.int (dL (dT4 D.int D.int D.int D.int))))) 12 (Y.n_v (Y.n_catV (Ψ := Ψ) (Y.v_var 12 rfl (Y.x_v (Y.n_v (Y.n_lst (enc := (dT3 D.int D.int (dL (dT4 D.int D.int D.int D.int)))) [] (Y.a_v (enc := (dT3 D.int D.int (dL (dT4 D.int D.int D.int D.int)))) (Y.v_tup (enb := (dT3 D.int D.int (dL (dT4 D.int D.int D.int D.int)))) (Y.a_v (enc := D.int) (Y.v_var 7 rfl (Y.a_v (enc := D.int) (Y.v_var 9 rfl (Y.a_v (enc := (dL (dT4 D.int D.int D.int D.int))) (Y.v_var 5 rfl (Y.a_nil ⟨(length_near_1, many_near_1, s_1.2.1), _, rfl, rfl, (show 3 ≤ sizeLine from by decide), (Y.a_v (enc := (dT3 D.int D.int (dL (dT4 D.int D.int D.int D.int)))) (Y.v_tup (enb := (dT3 D.int D.int (dL (dT4 D.int D.int D.int D.int)))) (Y.a_v (enc := D.int) (Y.v_var 1 rfl (Y.a_v (enc := D.int) (Y.v_var 9 rfl (Y.a_v (enc := (dL (dT4 D.int D.int D.int D.int))) (Y.n_v (Y.n_catV (Ψ := Ψ) (Y.v_var 5 rfl (Y.x_v (Y.v_var 11 rfl (Y.step hm fun lst_7 hm => ?_)))))))))))))⟩))))))))))))))))
    refine Y.a_nil ⟨(x.2.1, many_near_1, lst_7), _, rfl, rfl, (show 3 ≤ sizeLine from by decide), (Y.a_v (enc := (dT3 D.int D.int (dL (dT4 D.int D.int D.int D.int)))) (Y.v_tup (enb := (dT3 D.int D.int (dL (dT4 D.int D.int D.int D.int)))) (Y.a_v (enc := D.int) (Y.v_var 1 rfl (Y.a_v (enc := D.int) (Y.v_var 2 rfl (Y.a_v (enc := (dL (dT4 D.int D.int D.int D.int))) (Y.v_var 11 rfl (Y.a_nil ⟨(x.2.1, x.2.2.1, filled_1), _, rfl, rfl, (show 3 ≤ sizeLine from by decide), (Y.a_nil ⟨[(length_near_1, many_near_1, s_1.2.1), (x.2.1, many_near_1, lst_7), (x.2.1, x.2.2.1, filled_1)], rfl, (show 3 ≤ sizeLine from by decide), (Y.step hm fun lst_8 hm => (Y.step hm fun rows_2 hm => ?_))⟩)⟩)))))))))⟩
    refine Y.nx_weak (Δ := [some (.own p), some (.dat (D.int x.2.1)), some (.dat (D.int x.2.2.1)), some (.dat ((dL (dT4 D.int D.int D.int D.int)) x.2.2.2)), some (.dat (D.int s_1.1)), some (.dat ((dL (dT4 D.int D.int D.int D.int)) s_1.2.1)), some (.dat ((dL D.int) lengths_1)), some (.dat (D.int length_near_1)), some (.dat ((dL D.int) counts_1)), some (.dat (D.int many_near_1)), some (.dat ((dT4 D.int D.int D.int D.int) span_1)), some (.dat ((dL (dT4 D.int D.int D.int D.int)) filled_1)), some (.dat ((dL (dT3 D.int D.int (dL (dT4 D.int D.int D.int D.int)))) rows_2))]) (Ω' := [(p, oL D.int r_9.2)]) ?_ (.keep (.keep (.keep (.keep (.keep (.keep (.keep (.keep (.keep (.keep (.keep (.keep (.keep .nil))))))))))))) (.cons₂ _ .slnil)
    refine Y.s_cons (Y.s_ret (WV.asE (enc := (dL (dT3 D.int D.int (dL (dT4 D.int D.int D.int D.int))))) (Y.n_v (Y.n_catV (Ψ := Ψ) (Y.v_var 12 rfl (Y.x_v (Y.n_v (Y.n_lst (enc := (dT3 D.int D.int (dL (dT4 D.int D.int D.int D.int)))) [] (Y.a_v (enc := (dT3 D.int D.int (dL (dT4 D.int D.int D.int D.int)))) (Y.v_tup (enb := (dT3 D.int D.int (dL (dT4 D.int D.int D.int D.int)))) (Y.a_v (enc := D.int) (Y.v_var 1 rfl (Y.a_v (enc := D.int) (Y.v_var 2 rfl (Y.a_v (enc := (dL (dT4 D.int D.int D.int D.int))) (Y.n_v (Y.n_catV (Ψ := Ψ) (Y.v_var 11 rfl (Y.x_v (Y.n_v (Y.n_lst (enc := (dT4 D.int D.int D.int D.int)) [] (Y.a_v (enc := (dT4 D.int D.int D.int D.int)) (Y.v_var 10 rfl (Y.a_nil ⟨[span_1], rfl, (show 1 ≤ sizeLine from by decide), (Y.step hm fun lst_9 hm => ?_)⟩))))))))))))))))))))))))
    exact Y.a_nil ⟨(x.2.1, x.2.2.1, lst_9), _, rfl, rfl, (show 3 ≤ sizeLine from by decide), (Y.a_v (enc := (dT3 D.int D.int (dL (dT4 D.int D.int D.int D.int)))) (Y.v_tup (enb := (dT3 D.int D.int (dL (dT4 D.int D.int D.int D.int)))) (Y.a_v (enc := D.int) (Y.v_var 1 rfl (Y.a_v (enc := D.int) (Y.v_var 2 rfl (Y.a_v (enc := (dL (dT4 D.int D.int D.int D.int))) (Y.n_v (Y.n_rev (Y.l_v (Y.v_var 3 rfl (Y.v_neg (Y.v_int ⟨rfl, rfl, (Y.a_nil ⟨(x.2.1, x.2.2.1, x.2.2.2.reverse), _, rfl, rfl, (show 3 ≤ sizeLine from by decide), (Y.a_v (enc := (dT3 D.int D.int (dL (dT4 D.int D.int D.int D.int)))) (Y.v_tup (enb := (dT3 D.int D.int (dL (dT4 D.int D.int D.int D.int)))) (Y.a_v (enc := D.int) (Y.v_var 1 rfl (Y.a_v (enc := D.int) (Y.v_var 2 rfl (Y.a_v (enc := (dL (dT4 D.int D.int D.int D.int))) (Y.n_v (Y.n_sli (Y.l_v (Y.v_var 3 rfl (Y.p_some (Y.v_int (Y.p_none ⟨rfl, (Y.a_nil ⟨(x.2.1, x.2.2.1, (cutL x.2.2.2 (some ((1 : Int))) none)), _, rfl, rfl, (show 3 ≤ sizeLine from by decide), (Y.a_nil ⟨[(x.2.1, x.2.2.1, lst_9), (x.2.1, x.2.2.1, x.2.2.2.reverse), (x.2.1, x.2.2.1, (cutL x.2.2.2 (some ((1 : Int))) none))], rfl, (show 3 ≤ sizeLine from by decide), (Y.step hm fun lst_10 hm => (r1 hm (.cons₂ _ .slnil)))⟩)⟩)⟩))))))))))))))⟩)⟩)))))))))))))⟩
theorem f_law_nets_near {W : Wd} (g : Fa W) : FnY W 3 (He.ga W.K "_law_nets_near") (spOf W.K s_law_nets_near) := by
  obtain ⟨fd, F⟩ := g.def__law_nets_near
  exact FnY.of (N := ["pool", "length", "many", "spans", "at", "near", "lengths", "length_near", "counts", "many_near", "span", "filled", "rows"]) (ps := ["pool", "length", "many", "spans"]) F (C8.fnScope_by (by decide +kernel)) (scOk_of (by decide +kernel)) (by rintro x as Ω ⟨p, rfl, rfl⟩; rfl) (fun _ _ _ _ _ _ us hl => match us, hl with | [_, _, _, _], _ => rfl) (b_law_nets_near g)
theorem b_law_fault {W : Wd} (g : Fa W) : BodyOk W c_law_fault (defBody (top 30)) s_law_fault := by
  rintro T tt x as Ω Φ Ψ ⟨rfl, rfl⟩ hm hx
  simp only [s_law_fault, sp0, sp0O, sp1, sp1O, sp1b, sp1bO, sp2, spC] at hm
  unfold m_law_fault at hm
  refine Y.s_cons (Y.s_ite (Y.t_pure (Y.t_w (Y.w_orP (Y.t_cmp (Y.c_lt (Y.v_var 0 rfl (Y.v_int ⟨rfl, rfl⟩)))) fun _ => (Y.w_or1 (Y.t_cmp (Y.c_gt (Y.v_var 0 rfl (Y.v_int ⟨rfl, rfl⟩))))))) ⟨fun hb => ?_, fun hb => ?_⟩))
  · have hm := (Run.ite hm).1 hb
    exact Y.s_cons (Y.s_ret (WV.asE (Y.v_some (enc := (dT2 D.str D.int)) (Y.v_tup (enb := (dT2 D.str D.int)) (Y.a_v (enc := D.str) (Y.v_str (Y.a_v (enc := D.int) (Y.v_int (Y.a_nil ⟨((Str.ofString "round"), (0 : Int)), _, rfl, rfl, (show 2 ≤ sizeLine from by decide), (r0 hm)⟩)))))))))
  · have hm := (Run.ite hm).2 hb
    refine Y.s_nil ?_
    refine Y.s_cons (Y.s_ite (Y.t_pure (Y.t_w (Y.w_orP (Y.t_cmp (Y.c_lt (Y.v_var 1 rfl (Y.v_int ⟨rfl, rfl⟩)))) fun _ => (Y.w_or1 (Y.t_cmp (Y.c_gt (Y.v_var 1 rfl (Y.v_int ⟨rfl, rfl⟩))))))) ⟨fun hb => ?_, fun hb => ?_⟩))
    · have hm := (Run.ite hm).1 hb
      exact Y.s_cons (Y.s_ret (WV.asE (Y.v_some (enc := (dT2 D.str D.int)) (Y.v_tup (enb := (dT2 D.str D.int)) (Y.a_v (enc := D.str) (Y.v_str (Y.a_v (enc := D.int) (Y.v_int (Y.a_nil ⟨((Str.ofString "events"), (0 : Int)), _, rfl, rfl, (show 2 ≤ sizeLine from by decide), (r0 hm)⟩)))))))))
    · have hm := (Run.ite hm).2 hb
      refine Y.s_nil ?_
      refine Y.s_cons (Y.s_ite (Y.t_cmp (Y.c_gt (Y.v_len 0 g.len (Y.q_v (Y.v_var 2 rfl (Y.v_int ⟨fun hb => ?_, fun hb => ?_⟩)))))))
      · have hm := (Run.ite hm).1 hb
        exact Y.s_cons (Y.s_ret (WV.asE (Y.v_some (enc := (dT2 D.str D.int)) (Y.v_tup (enb := (dT2 D.str D.int)) (Y.a_v (enc := D.str) (Y.v_str (Y.a_v (enc := D.int) (Y.v_int (Y.a_nil ⟨((Str.ofString "spans"), (0 : Int)), _, rfl, rfl, (show 2 ≤ sizeLine from by decide), (r0 hm)⟩)))))))))
      · have hm := (Run.ite hm).2 hb
        refine Y.s_nil ?_
        refine Y.s_forR (ι := Unit) (σ := Unit) (fun _ => True) (fun _ s_1 => [some (.dat (D.int x.1)), some (.dat (D.int x.2.1)), some (.dat ((dL (dT4 D.int D.int D.int D.int)) x.2.2)), none, none]) (fun _ s_1 => []) (fun (r : Option ((Str) × (Int))) a _ => a = .dat ((dO (dT2 D.str D.int)) r)) (Y.i_rng1 (Ψ := Ψ) 1 g.range (Y.v_len 0 g.len (Y.q_v (Y.v_var 2 rfl (Y.step hm fun xs_1 hm => ⟨_, _, (), _, _, hm, trivial, (.keep (.keep (.keep (.none (.none .nil))))), .slnil, ?_, ?_, ?_⟩)))))
        · intro it_1 s_1 _ Φ' hmem _ hm
          refine (Y.g_name 3 ?_)
          refine Y.s_cons (Y.s_setL (Ψ := Ψ) (enc := (dT4 D.int D.int D.int D.int)) 4 (Y.v_ixL (Ψ := Ψ) (Y.v_var 2 rfl (Y.v_var 3 rfl (Y.step hm fun v_1 hm => (Y.step hm fun span_1 hm => ?_))))))
          refine Y.s_cons (Y.s_ite (Y.t_pure (Y.t_w (Y.w_orP (Y.t_cmp (Y.c_lt (Y.v_min2 2 g.min (Y.v_tix (enc := (dT4 D.int D.int D.int D.int)) (enb := D.int) (fun x => x.1) (fun _ => ⟨_, rfl, rfl⟩) (Y.v_var 4 rfl (Y.v_tix (enc := (dT4 D.int D.int D.int D.int)) (enb := D.int) (fun x => x.2.1) (fun _ => ⟨_, rfl, rfl⟩) (Y.v_var 4 rfl (Y.v_int ⟨rfl, rfl⟩)))))))) fun _ => (Y.w_orP (Y.t_cmp (Y.c_gt (Y.v_max2 3 g.max (Y.v_tix (enc := (dT4 D.int D.int D.int D.int)) (enb := D.int) (fun x => x.1) (fun _ => ⟨_, rfl, rfl⟩) (Y.v_var 4 rfl (Y.v_tix (enc := (dT4 D.int D.int D.int D.int)) (enb := D.int) (fun x => x.2.1) (fun _ => ⟨_, rfl, rfl⟩) (Y.v_var 4 rfl (Y.v_sub (Y.v_var 1 rfl (Y.v_int ⟨rfl, rfl⟩)))))))))) fun _ => (Y.w_or1 (Y.t_cmp (Y.c_eqI (Y.v_tix (enc := (dT4 D.int D.int D.int D.int)) (enb := D.int) (fun x => x.1) (fun _ => ⟨_, rfl, rfl⟩) (Y.v_var 4 rfl (Y.v_tix (enc := (dT4 D.int D.int D.int D.int)) (enb := D.int) (fun x => x.2.1) (fun _ => ⟨_, rfl, rfl⟩) (Y.v_var 4 rfl ⟨rfl, rfl⟩)))))))))) ⟨fun hb => ?_, fun hb => ?_⟩))
          · have hm := (Run.ite hm).1 hb
            exact Y.s_cons (Y.s_ret (WV.asE (Y.v_some (enc := (dT2 D.str D.int)) (Y.v_tup (enb := (dT2 D.str D.int)) (Y.a_v (enc := D.str) (Y.v_str (Y.a_v (enc := D.int) (Y.v_var 3 rfl (Y.a_nil ⟨((Str.ofString "span"), it_1), _, rfl, rfl, (show 2 ≤ sizeLine from by decide), ⟨_, rfl, hm.get⟩⟩)))))))))
          · have hm := (Run.ite hm).2 hb
            refine Y.s_nil ?_
            refine Y.s_cons (Y.s_ite (Y.t_pure (Y.t_w (Y.w_orP (Y.t_cmp (Y.c_lt (Y.v_tix (enc := (dT4 D.int D.int D.int D.int)) (enb := D.int) (fun x => x.2.2.1) (fun _ => ⟨_, rfl, rfl⟩) (Y.v_var 4 rfl (Y.v_int ⟨rfl, rfl⟩))))) fun _ => (Y.w_orP (Y.t_cmp (Y.c_lt (Y.v_tix (enc := (dT4 D.int D.int D.int D.int)) (enb := D.int) (fun x => x.2.2.2) (fun _ => ⟨_, rfl, rfl⟩) (Y.v_var 4 rfl (Y.v_tix (enc := (dT4 D.int D.int D.int D.int)) (enb := D.int) (fun x => x.2.2.1) (fun _ => ⟨_, rfl, rfl⟩) (Y.v_var 4 rfl ⟨rfl, rfl⟩)))))) fun _ => (Y.w_orP (Y.t_cmp (Y.c_gt (Y.v_sub (Y.v_tix (enc := (dT4 D.int D.int D.int D.int)) (enb := D.int) (fun x => x.2.2.2) (fun _ => ⟨_, rfl, rfl⟩) (Y.v_var 4 rfl (Y.v_tix (enc := (dT4 D.int D.int D.int D.int)) (enb := D.int) (fun x => x.2.2.1) (fun _ => ⟨_, rfl, rfl⟩) (Y.v_var 4 rfl (Y.v_sub (Y.v_var 0 rfl (Y.v_int ⟨rfl, rfl⟩)))))))))) fun _ => (Y.w_or1 (Y.t_cmp (Y.c_gt (Y.v_tix (enc := (dT4 D.int D.int D.int D.int)) (enb := D.int) (fun x => x.2.2.2) (fun _ => ⟨_, rfl, rfl⟩) (Y.v_var 4 rfl (Y.v_int ⟨rfl, rfl⟩)))))))))) ⟨fun hb => ?_, fun hb => ?_⟩))
            · have hm := (Run.ite hm).1 hb
              exact Y.s_cons (Y.s_ret (WV.asE (Y.v_some (enc := (dT2 D.str D.int)) (Y.v_tup (enb := (dT2 D.str D.int)) (Y.a_v (enc := D.str) (Y.v_str (Y.a_v (enc := D.int) (Y.v_var 3 rfl (Y.a_nil ⟨((Str.ofString "span"), it_1), _, rfl, rfl, (show 2 ≤ sizeLine from by decide), ⟨_, rfl, hm.get⟩⟩)))))))))
            · have hm := (Run.ite hm).2 hb
              refine Y.s_nil ?_
              refine Y.s_nil ?_
              exact ⟨(), (), trivial, (.keep (.keep (.keep (.none (.none .nil))))), .slnil, hm.get⟩
        · intro s_2 _ _ hm
          exact Y.s_cons (Y.s_ret (WV.asE (Y.v_none (enc := (dT2 D.str D.int)) (r0 hm))))
        · rintro r a Ω' rfl hm
          exact r0 hm
theorem f_law_fault {W : Wd} (g : Fa W) : FnY W 1 (He.ga W.K "_law_fault") (spOf W.K s_law_fault) := by
  obtain ⟨fd, F⟩ := g.def__law_fault
  exact FnY.of (N := ["length", "many", "spans", "k", "span"]) (ps := ["length", "many", "spans"]) F (C8.fnScope_by (by decide +kernel)) (scOk_of (by decide +kernel)) (by rintro x as Ω ⟨rfl, rfl⟩; rfl) (fun _ _ _ _ _ _ us hl => match us, hl with | [_, _, _], _ => rfl) (b_law_fault g)
theorem b_Net___eq {W : Wd} (g : Fa W) : BodyOk W c_Net___eq (defBody (inClass (top 20) 1)) s_Net___eq := by
  rintro T tt x as Ω Φ Ψ ⟨rfl, rfl⟩ hm hx
  simp only [s_Net___eq, sp0, sp0O, sp1, sp1O, sp1b, sp1bO, sp2, spC] at hm
  unfold m_Net___eq at hm
  exact Y.s_cons (Y.s_ret (WV.asE (enc := D.bl) (Y.v_and (Y.v_isO (enc := dNet) 1 0 g.isinstance g.ik_Net (ic_Net g) g.ek_Net_Net (fun _ => ⟨_, rfl⟩) (Y.v_var 1 rfl ⟨fun hb => have hm := (Run.ite hm).1 hb; (Y.v_and (Y.v_cmp (Y.c_eqI (Y.v_fld fld_Net_round_length g.cf_Net_round_length (Y.v_var 0 rfl (Y.v_fld fld_Net_round_length g.cf_Net_round_length (Y.v_var 1 rfl ⟨fun hb => have hm := (Run.ite hm).1 hb; (Y.v_and (Y.v_cmp (Y.c_eqI (Y.v_fld fld_Net_events g.cf_Net_events (Y.v_var 0 rfl (Y.v_fld fld_Net_events g.cf_Net_events (Y.v_var 1 rfl ⟨fun hb => have hm := (Run.ite hm).1 hb; (Y.v_one (Y.v_cmp (Y.c_eqD (Ψ := Ψ) (Y.d_v (Y.v_fld fld_Net_spans g.cf_Net_spans (Y.v_var 0 rfl (Y.d_v (Y.v_fld fld_Net_spans g.cf_Net_spans (Y.v_var 1 rfl ⟨rfl, Y.step hm fun eq_1 hm => (r0 hm)⟩))))))))), fun hb => have hm := (Run.ite hm).2 hb; (r0 hm)⟩))))))), fun hb => have hm := (Run.ite hm).2 hb; (r0 hm)⟩))))))), fun hb => have hm := (Run.ite hm).2 hb; (r0 hm)⟩) rfl))))
theorem f_Net___eq {W : Wd} (g : Fa W) : FnY W 1 (He.ma W.K (He.ga W.K (Str.ofString "Net")) "__eq__") (spOf W.K s_Net___eq) := by
  obtain ⟨fd, F⟩ := g.def_Net___eq__
  exact FnY.of (N := ["self", "other"]) (ps := ["self", "other"]) F (C8.fnScope_by (by decide +kernel)) (scOk_of (by decide +kernel)) (by rintro x as Ω ⟨rfl, rfl⟩; rfl) (fun _ _ _ _ _ _ us hl => match us, hl with | [_, _], _ => rfl) (b_Net___eq g)
theorem b_law_judged {W : Wd} (g : Fa W) : BodyOk W c_law_judged (defBody (top 34)) s_law_judged := by
  rintro T tt x as Ω Φ Ψ ⟨rfl, rfl⟩ hm hx
  simp only [s_law_judged, sp0, sp0O, sp1, sp1O, sp1b, sp1bO, sp2, spC] at hm
  unfold m_law_judged at hm
  refine Y.s_cons (Y.s_setL (Ψ := Ψ) (enc := (dO (dT2 D.str D.int))) 3 (Y.e_call (f_law_fault g) g.fn__law_fault (i := 16) rfl (Y.a_v (enc := D.int) (Y.v_tix (enc := (dT3 D.int D.int (dL (dT4 D.int D.int D.int D.int)))) (enb := D.int) (fun x => x.1) (fun _ => ⟨_, rfl, rfl⟩) (Y.v_var 2 rfl (Y.a_v (enc := D.int) (Y.v_tix (enc := (dT3 D.int D.int (dL (dT4 D.int D.int D.int D.int)))) (enb := D.int) (fun x => x.2.1) (fun _ => ⟨_, rfl, rfl⟩) (Y.v_var 2 rfl (Y.a_v (enc := (dL (dT4 D.int D.int D.int D.int))) (Y.v_tix (enc := (dT3 D.int D.int (dL (dT4 D.int D.int D.int D.int)))) (enb := (dL (dT4 D.int D.int D.int D.int))) (fun x => x.2.2) (fun _ => ⟨_, rfl, rfl⟩) (Y.v_var 2 rfl (Y.a_nil (k0 ((x.2.2.1, x.2.2.2.1, x.2.2.2.2)) ((Run.noexc (Y.step hm (fun r_1 hm => ?_))).mono (fun _ q => q) (fun _ z => z.elim)))))))))))))))
  refine ⟨_, rfl, (Y.step hm fun due_1 hm => ?_)⟩
  refine Y.s_cons (Y.s_setL (Ψ := Ψ) (enc := (dL (dT4 D.int D.int D.int D.int))) 4 (Y.n_v (Y.n_list 0 g.list (Y.q_v (Y.v_tix (enc := (dT3 D.int D.int (dL (dT4 D.int D.int D.int D.int)))) (enb := (dL (dT4 D.int D.int D.int D.int))) (fun x => x.2.2) (fun _ => ⟨_, rfl, rfl⟩) (Y.v_var 2 rfl (Y.step hm fun handed_1 hm => ?_)))))))
  refine Y.s_cons (Y.s_setL (Ψ := Ψ) (enc := (dO (dT5 D.str D.int D.bl D.bl D.bl))) 5 (Y.v_none (Y.step hm fun told_1 hm => ?_)))
  refine Y.s_cons (Y.s_setL (Ψ := Ψ) (enc := (dO dNet)) 6 (Y.v_none (Y.step hm fun other_1 hm => ?_)))
  refine Y.nx_weak (Δ := [some (.dat (dNet x.1)), some (.dat ((dT3 D.int D.int (dL (dT4 D.int D.int D.int D.int))) x.2.1)), some (.dat ((dT3 D.int D.int (dL (dT4 D.int D.int D.int D.int))) x.2.2)), some (.dat ((dO (dT2 D.str D.int)) due_1)), some (.dat ((dL (dT4 D.int D.int D.int D.int)) handed_1)), some (.dat ((dO (dT5 D.str D.int D.bl D.bl D.bl)) told_1)), some (.dat ((dO dNet) other_1)), none, none]) (Ω' := []) ?_ (.keep (.keep (.keep (.keep (.keep (.keep (.keep (.none (.none .nil))))))))) .slnil
  refine Y.s_tryG (ι := Unit) (σ := (Option ((Str) × (Int) × (Bool) × (Bool) × (Bool))) × (Option (Net))) 7 15 g.catch_BadNet rfl tt (fun _ => True) (fun _ s_1 => [some (.dat (dNet x.1)), some (.dat ((dT3 D.int D.int (dL (dT4 D.int D.int D.int D.int))) x.2.1)), some (.dat ((dT3 D.int D.int (dL (dT4 D.int D.int D.int D.int))) x.2.2)), some (.dat ((dO (dT2 D.str D.int)) due_1)), some (.dat ((dL (dT4 D.int D.int D.int D.int)) handed_1)), some (.dat ((dO (dT5 D.str D.int D.bl D.bl D.bl)) s_1.1)), some (.dat ((dO dNet) s_1.2)), none, none]) (fun _ s_1 => []) ([some (.dat (dNet x.1)), some (.dat ((dT3 D.int D.int (dL (dT4 D.int D.int D.int D.int))) x.2.1)), some (.dat ((dT3 D.int D.int (dL (dT4 D.int D.int D.int D.int))) x.2.2)), some (.dat ((dO (dT2 D.str D.int)) due_1)), some (.dat ((dL (dT4 D.int D.int D.int D.int)) handed_1)), some (.dat ((dO (dT5 D.str D.int D.bl D.bl D.bl)) told_1)), some (.dat ((dO dNet) other_1)), none, none]) ([]) hm ?_ (by intro e Γ1 Ω1 z l1 l2; exact hx e _ _ z (.trans .slnil l1)) ?_ ?_
  · intro T' Φ' Ψ' eHe tt' hm hx
    refine Y.s_cons (Y.s_setL (Ψ := Ψ') (enc := (dO dNet)) 6 (Y.v_some (Y.v_make (enc := dNet) (c := "Net") (Y.e_make (f_Net_Net g) g.mk_Net g.cls_Netg (i := 1) rfl (Y.a_v (enc := D.int) (Y.v_tix (enc := (dT3 D.int D.int (dL (dT4 D.int D.int D.int D.int)))) (enb := D.int) (fun x => x.1) (fun _ => ⟨_, rfl, rfl⟩) (Y.v_var 2 rfl (Y.a_v (enc := D.int) (Y.v_tix (enc := (dT3 D.int D.int (dL (dT4 D.int D.int D.int D.int)))) (enb := D.int) (fun x => x.2.1) (fun _ => ⟨_, rfl, rfl⟩) (Y.v_var 2 rfl (Y.a_v (enc := (dL (dT4 D.int D.int D.int D.int))) (Y.v_var 4 rfl (Y.a_nil (kC ((x.2.2.1, x.2.2.2.1, handed_1)) (Y.step hm (fun obj_1 hm => ?_) (fun e z => hx e _ _ z .slnil (.keep (.keep (.keep (.keep (.keep (.keep (.keep (.none (.none .nil)))))))))))))))))))))))))
    refine ⟨_, obj_1, rfl, rfl, (Y.step hm fun other_2 hm => ?_)⟩
    refine Y.s_nil ?_
    exact ⟨(), (told_1, other_2), trivial, (.keep (.keep (.keep (.keep (.keep (.keep (.keep (.none (.none .nil))))))))), .slnil, hm.get⟩
  · rintro ⟨ec, ef⟩ Φ' T2 a d hn hm e1 hin
    obtain rfl : ec = "BadNet" := by simpa [named_BadNet] using hn
    refine Y.s_cons (Y.s_setL (Ψ := Ψ) (enc := D.bl) 8 (Y.v_isET 7 2 hin g.ec_BadNet (Y.cs_cons 3 (ic_UnknownSpan g) g.ek_BadNet_UnknownSpan (Y.cs_cons 4 (ic_UnknownEvent g) g.ek_BadNet_UnknownEvent (Y.cs_cons 5 (ic_BadTimes g) g.ek_BadNet_BadTimes (Y.cs_cons 6 (ic_BadPath g) g.ek_BadNet_BadPath (Y.cs_cons 7 (ic_BrokenSpan g) g.ek_BadNet_BrokenSpan (Y.cs_cons 8 (ic_BadRounds g) g.ek_BadNet_BadRounds Y.cs_nil)))))) (show 6 ≤ sizeLine from by decide) g.isinstance rfl (Y.step hm fun strange_1 hm => ?_)))
    refine Y.s_cons (Y.s_setL (Ψ := Ψ) (enc := D.bl) 8 (Y.v_or (Y.v_var 8 rfl ⟨fun hb => have hm := (Run.ite hm).2 hb; (Y.v_one (Y.v_isET 7 2 hin g.ec_BadNet (Y.cs_cons 9 (ic_ShutRing g) g.ek_BadNet_ShutRing (Y.cs_cons 10 (ic_TooMany g) g.ek_BadNet_TooMany Y.cs_nil)) (show 2 ≤ sizeLine from by decide) g.isinstance rfl (Y.step hm fun strange_2 hm => ?_))), fun hb => have hm := (Run.ite hm).1 hb; (Y.step hm fun strange_3 hm => ?_)⟩)))
    · refine Y.s_cons (Y.s_setL (Ψ := Ψ) (enc := (dO (dT5 D.str D.int D.bl D.bl D.bl))) 5 (Y.v_some (Y.v_tup (enb := (dT5 D.str D.int D.bl D.bl D.bl)) (Y.a_v (enc := D.str) (Y.v_xfS (Ψ := Ψ) 7 hin g.xf_BadNet g.xn_BadNet_part rfl (Y.step hm fun xf_1 hm => ?_))))))
      refine Y.a_v (enc := D.int) (Y.v_xfI (Ψ := Ψ) 7 hin g.xf_BadNet g.xn_BadNet_place rfl (Y.step hm fun xf_2 hm => ?_))
      refine Y.a_v (enc := D.bl) (Y.v_isE 7 12 2 hin g.ec_BadNet (ic_DepotError g) g.ek_BadNet_DepotError g.isinstance rfl (Y.a_v (enc := D.bl) (Y.v_isE 7 11 2 hin g.ec_BadNet (ic_ValueError g) g.ek_BadNet_ValueError g.isinstance rfl (Y.a_v (enc := D.bl) (Y.v_var 8 rfl (Y.a_nil ⟨(xf_1, xf_2, true, true, strange_2), _, rfl, rfl, (show 5 ≤ sizeLine from by decide), (Y.step hm fun told_2 hm => ?_)⟩))) rfl)) rfl)
      refine Y.s_nil ?_
      exact ⟨(), (told_2, other_1), trivial, (.keep (.keep (.keep (.keep (.keep (.keep (.keep (.none (.none .nil))))))))), .slnil, hm.get⟩
    · refine Y.s_cons (Y.s_setL (Ψ := Ψ) (enc := (dO (dT5 D.str D.int D.bl D.bl D.bl))) 5 (Y.v_some (Y.v_tup (enb := (dT5 D.str D.int D.bl D.bl D.bl)) (Y.a_v (enc := D.str) (Y.v_xfS (Ψ := Ψ) 7 hin g.xf_BadNet g.xn_BadNet_part rfl (Y.step hm fun xf_3 hm => ?_))))))
      refine Y.a_v (enc := D.int) (Y.v_xfI (Ψ := Ψ) 7 hin g.xf_BadNet g.xn_BadNet_place rfl (Y.step hm fun xf_4 hm => ?_))
      refine Y.a_v (enc := D.bl) (Y.v_isE 7 12 2 hin g.ec_BadNet (ic_DepotError g) g.ek_BadNet_DepotError g.isinstance rfl (Y.a_v (enc := D.bl) (Y.v_isE 7 11 2 hin g.ec_BadNet (ic_ValueError g) g.ek_BadNet_ValueError g.isinstance rfl (Y.a_v (enc := D.bl) (Y.v_var 8 rfl (Y.a_nil ⟨(xf_3, xf_4, true, true, strange_3), _, rfl, rfl, (show 5 ≤ sizeLine from by decide), (Y.step hm fun told_3 hm => ?_)⟩))) rfl)) rfl)
      refine Y.s_nil ?_
      exact ⟨(), (told_3, other_1), trivial, (.keep (.keep (.keep (.keep (.keep (.keep (.keep (.none (.none .nil))))))))), .slnil, hm.get⟩
  · intro s_1 _ _ hm
    refine Y.s_cons (Y.s_ite (Y.t_not (Y.t_val (Y.e_call (f_law_same g 3) g.fn__law_same (i := 13) rfl (Y.a_v (enc := (dL (dT4 D.int D.int D.int D.int))) (Y.v_var 4 rfl (Y.a_v (enc := (dL (dT4 D.int D.int D.int D.int))) (Y.v_tix (enc := (dT3 D.int D.int (dL (dT4 D.int D.int D.int D.int)))) (enb := (dL (dT4 D.int D.int D.int D.int))) (fun x => x.2.2) (fun _ => ⟨_, rfl, rfl⟩) (Y.v_var 2 rfl (Y.a_nil (k0 ((dL (dT4 D.int D.int D.int D.int)) handed_1, (dL (dT4 D.int D.int D.int D.int)) x.2.2.2.2) ((Run.noexc (Y.step hm (fun r_2 hm => ⟨_, rfl, ⟨fun hb => ?_, fun hb => ?_⟩⟩))).mono (fun _ q => q) (fun _ z => z.elim)))))))))))))
    · have hm := (Run.ite hm).1 hb
      exact Y.s_cons (Y.s_ret (WV.asE (enc := D.bl) (Y.v_bl (r0 hm))))
    · have hm := (Run.ite hm).2 hb
      refine Y.s_nil ?_
      refine Y.s_cons (Y.s_ite (Y.t_cmp (Y.c_notN (Y.v_var 3 rfl ⟨fun hb => ?_, fun hb => ?_⟩))))
      · have hm := (Run.ite hm).1 hb
        obtain ⟨due_2, hdue_2, hm⟩ := Run.opt hm
        refine Y.s_cons (Y.s_ret (WV.asE (enc := D.bl) (Y.v_and (Y.v_cmp (Y.c_isN (Y.v_var 6 rfl ⟨fun hb => have hm := (Run.ite hm).1 hb; (Y.v_one (Y.e_call (f_law_same g 2) g.fn__law_same (i := 13) rfl (Y.a_v (enc := (dO (dT5 D.str D.int D.bl D.bl D.bl))) (Y.v_var 5 rfl (Y.a_v (enc := (dT5 D.str D.int D.bl D.bl D.bl)) (Y.v_catTM (Ψ := Ψ) (enc := (dT2 D.str D.int)) (enb := (dT3 D.bl D.bl D.bl)) (eng := (dT5 D.str D.int D.bl D.bl D.bl)) (fun x y => (x.1, x.2, y.1, y.2.1, y.2.2)) (fun _ _ => ⟨_, _, rfl, rfl, rfl, Nat.succ_ne_zero _, Nat.succ_ne_zero _, show 2 + 3 ≤ sizeLine from by decide⟩) (Y.v_varN 3 rfl hdue_2 (Y.v_tup (enb := (dT3 D.bl D.bl D.bl)) (Y.a_v (enc := D.bl) (Y.v_bl (Y.a_v (enc := D.bl) (Y.v_bl (Y.a_v (enc := D.bl) (Y.v_bl (Y.a_nil ⟨(true, true, false), _, rfl, rfl, (show 3 ≤ sizeLine from by decide), (Y.step hm fun tup_1 hm => ?_)⟩))))))))))))))), fun hb => have hm := (Run.ite hm).2 hb; (r0 hm)⟩))))))
        exact Y.a_nil (k0 ((dO (dT5 D.str D.int D.bl D.bl D.bl)) s_1.1, (dT5 D.str D.int D.bl D.bl D.bl) tup_1) ((Run.noexc (Y.step hm (fun r_3 hm => ⟨_, rfl, (r0 hm)⟩))).mono (fun _ q => q) (fun _ z => z.elim)))
      · have hm := (Run.ite hm).2 hb
        refine Y.s_nil ?_
        refine Y.s_cons (Y.s_ite (WT.cut hm (fun _ hm => (Y.t_w (Y.w_or (Y.t_cmp (Y.c_notN (Y.v_var 5 rfl ⟨fun hb => have hm := (Run.ite hm).2 hb; (Y.w_or (Y.t_cmp (Y.c_isN (Y.v_var 6 rfl ⟨fun hb => have hm := (Run.ite hm).2 hb; Run.optE hm fun other_3 hother_3 hm => (Y.w_or1 (Y.t_not (Y.t_val (Y.e_call (f_law_shows g) g.fn__law_shows (i := 14) rfl (Y.a_v (enc := dNet) (Y.v_varN 6 rfl hother_3 (Y.a_v (enc := D.int) (Y.v_tix (enc := (dT3 D.int D.int (dL (dT4 D.int D.int D.int D.int)))) (enb := D.int) (fun x => x.1) (fun _ => ⟨_, rfl, rfl⟩) (Y.v_var 2 rfl (Y.a_v (enc := D.int) (Y.v_tix (enc := (dT3 D.int D.int (dL (dT4 D.int D.int D.int D.int)))) (enb := D.int) (fun x => x.2.1) (fun _ => ⟨_, rfl, rfl⟩) (Y.v_var 2 rfl (Y.a_v (enc := (dL (dT4 D.int D.int D.int D.int))) (Y.v_tix (enc := (dT3 D.int D.int (dL (dT4 D.int D.int D.int D.int)))) (enb := (dL (dT4 D.int D.int D.int D.int))) (fun x => x.2.2) (fun _ => ⟨_, rfl, rfl⟩) (Y.v_var 2 rfl (Y.a_nil (k0 ((other_3, x.2.2.1, x.2.2.2.1, x.2.2.2.2)) ((Run.noexc (Y.step hm (fun r_4 hm => ⟨_, rfl, ⟨rfl, hm.get⟩⟩))).mono (fun _ q => q) (fun _ z => z.elim))))))))))))))))))), fun hb => have hm := (Run.ite hm).1 hb; ⟨rfl, hm.get⟩⟩)))), fun hb => have hm := (Run.ite hm).1 hb; ⟨rfl, hm.get⟩⟩)))))) fun b_1 hm => ⟨fun hb => ?_, fun hb => ?_⟩))
        · have hm := (Run.ite hm).1 hb
          exact Y.s_cons (Y.s_ret (WV.asE (enc := D.bl) (Y.v_bl (r0 hm))))
        · have hm := (Run.ite hm).2 hb
          obtain ⟨other_4, hother_4, hm⟩ := Run.opt hm
          refine Y.s_nil ?_
          refine Y.s_cons (Y.s_ret (WV.asE (enc := D.bl) (Y.v_and (Y.e_call (f_law_same g 1) g.fn__law_same (i := 13) rfl (Y.a_v (enc := D.bl) (Y.v_cmp (Y.c_eqO (enc := dNet) (enb := dNet) (f_Net___eq g) g.meth_Net___eq__ (fun _ => ⟨_, rfl⟩) (fun _ => ⟨_, rfl⟩) (Y.v_var 0 rfl (Y.v_varN 6 rfl hother_4 (Run.noexc (Y.step hm fun eq_1 hm => ?_)))))))))))
          refine Y.a_v (enc := D.bl) (Y.v_cmp (Y.c_eqD (Ψ := Ψ) (Y.d_v (Y.v_var 1 rfl (Y.d_v (Y.v_var 2 rfl ⟨rfl, Y.step hm fun eq_2 hm => ?_⟩))))))
          refine Y.a_nil (k0 (D.bl eq_1, D.bl eq_2) ((Run.noexc (Y.step hm (fun r_5 hm => ?_))).mono (fun _ q => q) (fun _ z => z.elim)))
          refine ⟨_, rfl, ⟨fun hb => have hm := (Run.ite hm).1 hb; (Y.v_one (Y.e_call (f_law_same g 1) g.fn__law_same (i := 13) rfl (Y.a_v (enc := D.bl) (Y.v_cmp (Y.c_eqO (enc := dNet) (enb := dNet) (f_Net___eq g) g.meth_Net___eq__ (fun _ => ⟨_, rfl⟩) (fun _ => ⟨_, rfl⟩) (Y.v_varN 6 rfl hother_4 (Y.v_var 0 rfl (Run.noexc (Y.step hm fun eq_3 hm => ?_))))))))), fun hb => have hm := (Run.ite hm).2 hb; (r0 hm)⟩⟩
          refine Y.a_v (enc := D.bl) (Y.v_cmp (Y.c_eqD (Ψ := Ψ) (Y.d_v (Y.v_var 1 rfl (Y.d_v (Y.v_var 2 rfl ⟨rfl, Y.step hm fun eq_4 hm => ?_⟩))))))
          exact Y.a_nil (k0 (D.bl eq_3, D.bl eq_4) ((Run.noexc (Y.step hm (fun r_6 hm => ⟨_, rfl, (r0 hm)⟩))).mono (fun _ q => q) (fun _ z => z.elim)))
theorem f_law_judged {W : Wd} (g : Fa W) : FnY W 6 (He.ga W.K "_law_judged") (spOf W.K s_law_judged) := by
  obtain ⟨fd, F⟩ := g.def__law_judged
  exact FnY.of (N := ["net", "first", "row", "due", "handed", "told", "other", "e", "strange"]) (ps := ["net", "first", "row"]) F (C8.fnScope_by (by decide +kernel)) (scOk_of (by decide +kernel)) (by rintro x as Ω ⟨rfl, rfl⟩; rfl) (fun _ _ _ _ _ _ us hl => match us, hl with | [_, _, _], _ => rfl) (b_law_judged g)
theorem b_Net_plus {W : Wd} (g : Fa W) : BodyOk W c_Net_plus (defBody (inClass (top 20) 2)) s_Net_plus := by
  rintro T tt x as Ω Φ Ψ ⟨rfl, rfl⟩ hm hx
  simp only [s_Net_plus, sp0, sp0O, sp1, sp1O, sp1b, sp1bO, sp2, spC] at hm
  unfold m_Net_plus at hm
  refine Y.s_cons (Y.s_ret (WV.asE (enc := dNet) (Y.v_make (enc := dNet) (c := "Net") (Y.e_make (f_Net_Net g) g.mk_Net g.cls_Netg (i := 0) rfl (Y.a_v (enc := D.int) (Y.v_fld fld_Net_round_length g.cf_Net_round_length (Y.v_var 0 rfl (Y.a_v (enc := D.int) (Y.v_fld fld_Net_events g.cf_Net_events (Y.v_var 0 rfl (Y.a_v (enc := (dL (dT4 D.int D.int D.int D.int))) (Y.n_v (Y.n_lstS (Ψ := Ψ) (enc := (dT4 D.int D.int D.int D.int)) (Y.a_star (enc := (dT4 D.int D.int D.int D.int)) (Y.q_u (Y.v_fld fld_Net_spans g.cf_Net_spans (Y.v_var 0 rfl (Y.a_star (enc := (dT4 D.int D.int D.int D.int)) (Y.q_u (Y.v_var 1 rfl (Y.a_nil ⟨(x.1.spans ++ (x.2 ++ [])), by simp, Y.step hm fun lst_1 hm => ?_⟩)))))))))))))))))))))
  exact Y.a_nil (kC ((x.1.round_length, x.1.events, lst_1)) (Y.step hm (fun obj_1 hm => ⟨_, obj_1, rfl, rfl, (r0 hm)⟩) (fun e z => hx e _ _ z .slnil)))
theorem f_Net_plus {W : Wd} (g : Fa W) : FnV W 5 (He.ma W.K (He.ga W.K (Str.ofString "Net")) "plus") (spV 1 (spOf W.K s_Net_plus)) := by
  obtain ⟨fd, F⟩ := g.def_Net_plus
  exact FnV.of1 (N := ["self", "spans"]) (p1 := "self") (pv := "spans") F (C8.fnScope_by (by decide +kernel)) (scOk_of (by decide +kernel)) (fun _ _ _ _ _ _ _ => rfl) (fun _ _ _ _ _ _ _ _ _ => rfl) (b_Net_plus g)
theorem b_law_plus {W : Wd} (g : Fa W) : BodyOk W c_law_plus (defBody (top 35)) s_law_plus := by
  rintro T tt x as Ω Φ Ψ ⟨rfl, rfl⟩ hm hx
  simp only [s_law_plus, sp0, sp0O, sp1, sp1O, sp1b, sp1bO, sp2, spC] at hm
  unfold m_law_plus at hm
  refine Y.s_cons (Y.s_ite (Y.t_cmp (Y.c_eqI (Y.v_len 0 g.len (Y.q_v (Y.v_var 1 rfl (Y.v_int ⟨fun hb => ?_, fun hb => ?_⟩)))))))
  · have hm := (Run.ite hm).1 hb
    exact Y.s_cons (Y.s_ret (WV.asE (enc := dNet) (Y.e_methV0 _ (f_Net_plus g) g.cls_Net g.meth_Net_plus (insV nf_Net_plus (Y.v_var 0 rfl (k0 (x.1, ([] : List ((Int) × (Int) × (Int) × (Int)))) (Y.step hm (fun r_1 hm => ⟨_, rfl, (r0 hm)⟩) (fun e z => hx e _ _ z .slnil))))))))
  · have hm := (Run.ite hm).2 hb
    refine Y.s_nil ?_
    refine Y.s_cons (Y.s_ite (Y.t_cmp (Y.c_eqI (Y.v_len 0 g.len (Y.q_v (Y.v_var 1 rfl (Y.v_int ⟨fun hb => ?_, fun hb => ?_⟩)))))))
    · have hm := (Run.ite hm).1 hb
      refine Y.s_cons (Y.s_ret (WV.asE (enc := dNet) (Y.e_methV _ (f_Net_plus g) g.cls_Net g.meth_Net_plus (insV nf_Net_plus (Y.v_var 0 rfl (Y.a_v (enc := (dT4 D.int D.int D.int D.int)) (Y.v_ixL (Ψ := Ψ) (Y.v_var 1 rfl (Y.v_int (Y.step hm fun v_1 hm => ?_))))))))))
      exact Y.a_nil ⟨[(dT4 D.int D.int D.int D.int) v_1], rfl, (show 1 ≤ sizeLine from by decide), (k0 (x.1, [v_1]) (Y.step hm (fun r_2 hm => ⟨_, rfl, (r0 hm)⟩) (fun e z => hx e _ _ z .slnil)))⟩
    · have hm := (Run.ite hm).2 hb
      refine Y.s_nil ?_
      refine Y.s_cons (Y.s_ite (Y.t_cmp (Y.c_eqI (Y.v_len 0 g.len (Y.q_v (Y.v_var 1 rfl (Y.v_int ⟨fun hb => ?_, fun hb => ?_⟩)))))))
      · have hm := (Run.ite hm).1 hb
        refine Y.s_cons (Y.s_ret (WV.asE (enc := dNet) (Y.e_methV _ (f_Net_plus g) g.cls_Net g.meth_Net_plus (insV nf_Net_plus (Y.v_var 0 rfl (Y.a_v (enc := (dT4 D.int D.int D.int D.int)) (Y.v_ixL (Ψ := Ψ) (Y.v_var 1 rfl (Y.v_int (Y.step hm fun v_2 hm => ?_))))))))))
        refine Y.a_v (enc := (dT4 D.int D.int D.int D.int)) (Y.v_ixL (Ψ := Ψ) (Y.v_var 1 rfl (Y.v_int (Y.step hm fun v_3 hm => ?_))))
        exact Y.a_nil ⟨[(dT4 D.int D.int D.int D.int) v_2, (dT4 D.int D.int D.int D.int) v_3], rfl, (show 2 ≤ sizeLine from by decide), (k0 (x.1, [v_2, v_3]) (Y.step hm (fun r_3 hm => ⟨_, rfl, (r0 hm)⟩) (fun e z => hx e _ _ z .slnil)))⟩
      · have hm := (Run.ite hm).2 hb
        refine Y.s_nil ?_
        refine Y.s_cons (Y.s_ret (WV.asE (enc := dNet) (Y.e_methV _ (f_Net_plus g) g.cls_Net g.meth_Net_plus (insV nf_Net_plus (Y.v_var 0 rfl (Y.a_v (enc := (dT4 D.int D.int D.int D.int)) (Y.v_ixL (Ψ := Ψ) (Y.v_var 1 rfl (Y.v_int (Y.step hm fun v_4 hm => ?_))))))))))
        refine Y.a_v (enc := (dT4 D.int D.int D.int D.int)) (Y.v_ixL (Ψ := Ψ) (Y.v_var 1 rfl (Y.v_int (Y.step hm fun v_5 hm => ?_))))
        refine Y.a_v (enc := (dT4 D.int D.int D.int D.int)) (Y.v_ixL (Ψ := Ψ) (Y.v_var 1 rfl (Y.v_int (Y.step hm fun v_6 hm => ?_))))
        refine Y.a_v (enc := (dT4 D.int D.int D.int D.int)) (Y.v_ixL (Ψ := Ψ) (Y.v_var 1 rfl (Y.v_int (Y.step hm fun v_7 hm => ?_))))
        refine Y.a_v (enc := (dT4 D.int D.int D.int D.int)) (Y.v_ixL (Ψ := Ψ) (Y.v_var 1 rfl (Y.v_int (Y.step hm fun v_8 hm => ?_))))
        refine Y.a_v (enc := (dT4 D.int D.int D.int D.int)) (Y.v_ixL (Ψ := Ψ) (Y.v_var 1 rfl (Y.v_int (Y.step hm fun v_9 hm => ?_))))
        exact Y.a_nil ⟨[(dT4 D.int D.int D.int D.int) v_4, (dT4 D.int D.int D.int D.int) v_5, (dT4 D.int D.int D.int D.int) v_6, (dT4 D.int D.int D.int D.int) v_7, (dT4 D.int D.int D.int D.int) v_8, (dT4 D.int D.int D.int D.int) v_9], rfl, (show 6 ≤ sizeLine from by decide), (k0 (x.1, [v_4, v_5, v_6, v_7, v_8, v_9]) (Y.step hm (fun r_4 hm => ⟨_, rfl, (r0 hm)⟩) (fun e z => hx e _ _ z .slnil)))⟩
theorem f_law_plus {W : Wd} (g : Fa W) : FnY W 6 (He.ga W.K "_law_plus") (spOf W.K s_law_plus) := by
  obtain ⟨fd, F⟩ := g.def__law_plus
  exact FnY.of (N := ["net", "added"]) (ps := ["net", "added"]) F (C8.fnScope_by (by decide +kernel)) (scOk_of (by decide +kernel)) (by rintro x as Ω ⟨rfl, rfl⟩; rfl) (fun _ _ _ _ _ _ us hl => match us, hl with | [_, _], _ => rfl) (b_law_plus g)
theorem b_law_plus_good {W : Wd} (g : Fa W) : BodyOk W c_law_plus_good (defBody (top 36)) s_law_plus_good := by
  rintro T tt x as Ω Φ Ψ ⟨rfl, rfl⟩ hm hx
  simp only [s_law_plus_good, sp0, sp0O, sp1, sp1O, sp1b, sp1bO, sp2, spC] at hm
  unfold m_law_plus_good at hm
  refine Y.s_cons (Y.s_setL (Ψ := Ψ) (enc := (dO (dT2 D.str D.int))) 3 (Y.e_call (f_law_fault g) g.fn__law_fault (i := 4) rfl (Y.a_v (enc := D.int) (Y.v_tix (enc := (dT3 D.int D.int (dL (dT4 D.int D.int D.int D.int)))) (enb := D.int) (fun x => x.1) (fun _ => ⟨_, rfl, rfl⟩) (Y.v_var 1 rfl (Y.a_v (enc := D.int) (Y.v_tix (enc := (dT3 D.int D.int (dL (dT4 D.int D.int D.int D.int)))) (enb := D.int) (fun x => x.2.1) (fun _ => ⟨_, rfl, rfl⟩) (Y.v_var 1 rfl (Y.a_v (enc := (dL (dT4 D.int D.int D.int D.int))) (Y.n_v (Y.n_catV (Ψ := Ψ) (Y.v_tix (enc := (dT3 D.int D.int (dL (dT4 D.int D.int D.int D.int)))) (enb := (dL (dT4 D.int D.int D.int D.int))) (fun x => x.2.2) (fun _ => ⟨_, rfl, rfl⟩) (Y.v_var 1 rfl (Y.x_v (Y.v_var 2 rfl (Y.step hm fun lst_1 hm => ?_))))))))))))))))
  refine Y.a_nil (k0 ((x.2.1.1, x.2.1.2.1, lst_1)) ((Run.noexc (Y.step hm (fun r_1 hm => ?_))).mono (fun _ q => q) (fun _ z => z.elim)))
  refine ⟨_, rfl, (Y.step hm fun due_1 hm => ?_)⟩
  refine Y.s_cons (Y.s_setL (Ψ := Ψ) (enc := (dO (dT2 D.str D.int))) 4 (Y.v_none (Y.step hm fun told_1 hm => ?_)))
  refine Y.s_cons (Y.s_setL (Ψ := Ψ) (enc := (dO dNet)) 5 (Y.v_none (Y.step hm fun other_1 hm => ?_)))
  refine Y.s_tryG (ι := Unit) (σ := (Option ((Str) × (Int))) × (Option (Net))) 6 3 g.catch_BadNet rfl tt (fun _ => True) (fun _ s_1 => [some (.dat (dNet x.1)), some (.dat ((dT3 D.int D.int (dL (dT4 D.int D.int D.int D.int))) x.2.1)), some (.dat ((dL (dT4 D.int D.int D.int D.int)) x.2.2)), some (.dat ((dO (dT2 D.str D.int)) due_1)), some (.dat ((dO (dT2 D.str D.int)) s_1.1)), some (.dat ((dO dNet) s_1.2)), none]) (fun _ s_1 => []) ([some (.dat (dNet x.1)), some (.dat ((dT3 D.int D.int (dL (dT4 D.int D.int D.int D.int))) x.2.1)), some (.dat ((dL (dT4 D.int D.int D.int D.int)) x.2.2)), some (.dat ((dO (dT2 D.str D.int)) due_1)), some (.dat ((dO (dT2 D.str D.int)) told_1)), some (.dat ((dO dNet) other_1)), none]) ([]) hm ?_ (by intro e Γ1 Ω1 z l1 l2; exact hx e _ _ z (.trans .slnil l1)) ?_ ?_
  · intro T' Φ' Ψ' eHe tt' hm hx
    refine Y.s_cons (Y.s_setL (Ψ := Ψ') (enc := (dO dNet)) 5 (Y.v_some (Y.e_call (f_law_plus g) g.fn__law_plus (i := 0) rfl (Y.a_v (enc := dNet) (Y.v_var 0 rfl (Y.a_v (enc := (dL (dT4 D.int D.int D.int D.int))) (Y.v_var 2 rfl (Y.a_nil (k0 ((x.1, x.2.2)) (Y.step hm (fun r_2 hm => ?_) (fun e z => hx e _ _ z .slnil (.keep (.keep (.keep (.keep (.keep (.keep (.none .nil))))))))))))))))))
    refine ⟨_, rfl, (Y.step hm fun other_2 hm => ?_)⟩
    refine Y.s_nil ?_
    exact ⟨(), (told_1, other_2), trivial, (.keep (.keep (.keep (.keep (.keep (.keep (.none .nil))))))), .slnil, hm.get⟩
  · rintro ⟨ec, ef⟩ Φ' T2 a d hn hm e1 hin
    obtain rfl : ec = "BadNet" := by simpa [named_BadNet] using hn
    refine Y.s_cons (Y.s_setL (Ψ := Ψ) (enc := (dO (dT2 D.str D.int))) 4 (Y.v_some (Y.v_tup (enb := (dT2 D.str D.int)) (Y.a_v (enc := D.str) (Y.v_xfS (Ψ := Ψ) 6 hin g.xf_BadNet g.xn_BadNet_part rfl (Y.step hm fun xf_1 hm => ?_))))))
    refine Y.a_v (enc := D.int) (Y.v_xfI (Ψ := Ψ) 6 hin g.xf_BadNet g.xn_BadNet_place rfl (Y.step hm fun xf_2 hm => ?_))
    refine Y.a_nil ⟨(xf_1, xf_2), _, rfl, rfl, (show 2 ≤ sizeLine from by decide), (Y.step hm fun told_2 hm => ?_)⟩
    refine Y.s_nil ?_
    exact ⟨(), (told_2, other_1), trivial, (.keep (.keep (.keep (.keep (.keep (.keep (.none .nil))))))), .slnil, hm.get⟩
  · intro s_1 _ _ hm
    refine Y.s_cons (Y.s_ite (Y.t_cmp (Y.c_notN (Y.v_var 3 rfl ⟨fun hb => ?_, fun hb => ?_⟩))))
    · have hm := (Run.ite hm).1 hb
      obtain ⟨due_2, hdue_2, hm⟩ := Run.opt hm
      refine Y.nx_weak (Δ := [some (.dat (dNet x.1)), some (.dat ((dT3 D.int D.int (dL (dT4 D.int D.int D.int D.int))) x.2.1)), some (.dat ((dL (dT4 D.int D.int D.int D.int)) x.2.2)), some (.dat ((dO (dT2 D.str D.int)) due_1)), some (.dat ((dO (dT2 D.str D.int)) s_1.1)), some (.dat ((dO dNet) s_1.2)), none]) (Ω' := []) ?_ (.keep (.keep (.keep (.keep (.keep (.keep (.none .nil))))))) .slnil
      exact Y.s_cons (Y.s_ret (WV.asE (enc := D.bl) (Y.v_and (Y.v_cmp (Y.c_isN (Y.v_var 5 rfl ⟨fun hb => have hm := (Run.ite hm).1 hb; (Y.v_one (Y.e_call (f_law_same g 2) g.fn__law_same (i := 1) rfl (Y.a_v (enc := (dO (dT2 D.str D.int))) (Y.v_var 4 rfl (Y.a_v (enc := (dT2 D.str D.int)) (Y.v_varN 3 rfl hdue_2 (Y.a_nil (k0 ((dO (dT2 D.str D.int)) s_1.1, (dT2 D.str D.int) due_2) ((Run.noexc (Y.step hm (fun r_3 hm => ⟨_, rfl, (r0 hm)⟩))).mono (fun _ q => q) (fun _ z => z.elim)))))))))), fun hb => have hm := (Run.ite hm).2 hb; (r0 hm)⟩))))))
    · have hm := (Run.ite hm).2 hb
      refine Y.s_nil ?_
      refine Y.s_cons (Y.s_ite (WT.cut hm (fun _ hm => (Y.t_w (Y.w_or (Y.t_cmp (Y.c_notN (Y.v_var 4 rfl ⟨fun hb => have hm := (Run.ite hm).2 hb; (Y.w_or (Y.t_cmp (Y.c_isN (Y.v_var 5 rfl ⟨fun hb => have hm := (Run.ite hm).2 hb; Run.optE hm fun other_3 hother_3 hm => (Y.w_or1 (Y.t_not (Y.t_val (Y.e_call (f_law_shows g) g.fn__law_shows (i := 2) rfl (Y.a_v (enc := dNet) (Y.v_varN 5 rfl hother_3 (Y.a_v (enc := D.int) (Y.v_tix (enc := (dT3 D.int D.int (dL (dT4 D.int D.int D.int D.int)))) (enb := D.int) (fun x => x.1) (fun _ => ⟨_, rfl, rfl⟩) (Y.v_var 1 rfl (Y.a_v (enc := D.int) (Y.v_tix (enc := (dT3 D.int D.int (dL (dT4 D.int D.int D.int D.int)))) (enb := D.int) (fun x => x.2.1) (fun _ => ⟨_, rfl, rfl⟩) (Y.v_var 1 rfl (Y.a_v (enc := (dL (dT4 D.int D.int D.int D.int))) (Y.n_v (Y.n_catV (Ψ := Ψ) (Y.v_tix (enc := (dT3 D.int D.int (dL (dT4 D.int D.int D.int D.int)))) (enb := (dL (dT4 D.int D.int D.int D.int))) (fun x => x.2.2) (fun _ => ⟨_, rfl, rfl⟩) (Y.v_var 1 rfl (Y.x_v (Y.v_var 2 rfl (Y.step hm fun lst_2 hm => (Y.a_nil (k0 ((other_3, x.2.1.1, x.2.1.2.1, lst_2)) ((Run.noexc (Y.step hm (fun r_4 hm => ⟨_, rfl, ⟨rfl, hm.get⟩⟩))).mono (fun _ q => q) (fun _ z => z.elim)))))))))))))))))))))))), fun hb => have hm := (Run.ite hm).1 hb; ⟨rfl, hm.get⟩⟩)))), fun hb => have hm := (Run.ite hm).1 hb; ⟨rfl, hm.get⟩⟩)))))) fun b_1 hm => ⟨fun hb => ?_, fun hb => ?_⟩))
      · have hm := (Run.ite hm).1 hb
        exact Y.s_cons (Y.s_ret (WV.asE (enc := D.bl) (Y.v_bl (r0 hm))))
      · have hm := (Run.ite hm).2 hb
        obtain ⟨other_4, hother_4, hm⟩ := Run.opt hm
        refine Y.s_nil ?_
        refine Y.nx_weak (Δ := [some (.dat (dNet x.1)), some (.dat ((dT3 D.int D.int (dL (dT4 D.int D.int D.int D.int))) x.2.1)), some (.dat ((dL (dT4 D.int D.int D.int D.int)) x.2.2)), some (.dat ((dO (dT2 D.str D.int)) due_1)), some (.dat ((dO (dT2 D.str D.int)) s_1.1)), some (.dat ((dO dNet) s_1.2)), none]) (Ω' := []) ?_ (.keep (.keep (.keep (.keep (.keep (.keep (.none .nil))))))) .slnil
        refine Y.s_cons (Y.s_ret (WV.asE (enc := D.bl) (Y.e_call (f_law_same g 1) g.fn__law_same (i := 1) rfl (Y.a_v (enc := D.bl) (Y.v_cmp (Y.c_eqO (enc := dNet) (enb := dNet) (f_Net___eq g) g.meth_Net___eq__ (fun _ => ⟨_, rfl⟩) (fun _ => ⟨_, rfl⟩) (Y.v_var 0 rfl (Y.v_varN 5 rfl hother_4 (Run.noexc (Y.step hm fun eq_1 hm => ?_))))))))))
        refine Y.a_v (enc := D.bl) (Y.v_cmp (Y.c_eqD (Ψ := Ψ) (Y.d_v (Y.v_var 2 rfl (Y.d_v (Y.n_v (Y.n_lst (enc := (dT4 D.int D.int D.int D.int)) [] (Y.a_nil ⟨([] : List ((Int) × (Int) × (Int) × (Int))), rfl, (show 0 ≤ sizeLine from by decide), ⟨rfl, Y.step hm fun eq_2 hm => ?_⟩⟩))))))))
        exact Y.a_nil (k0 (D.bl eq_1, D.bl eq_2) ((Run.noexc (Y.step hm (fun r_5 hm => ⟨_, rfl, (r0 hm)⟩))).mono (fun _ q => q) (fun _ z => z.elim)))
theorem f_law_plus_good {W : Wd} (g : Fa W) : FnY W 7 (He.ga W.K "_law_plus_good") (spOf W.K s_law_plus_good) := by
  obtain ⟨fd, F⟩ := g.def__law_plus_good
  exact FnY.of (N := ["net", "first", "added", "due", "told", "other", "e"]) (ps := ["net", "first", "added"]) F (C8.fnScope_by (by decide +kernel)) (scOk_of (by decide +kernel)) (by rintro x as Ω ⟨rfl, rfl⟩; rfl) (fun _ _ _ _ _ _ us hl => match us, hl with | [_, _, _], _ => rfl) (b_law_plus_good g)
theorem b_Net_without {W : Wd} (g : Fa W) : BodyOk W c_Net_without (defBody (inClass (top 20) 3)) s_Net_without := by
  rintro T tt x as Ω Φ Ψ ⟨rfl, rfl⟩ hm hx
  simp only [s_Net_without, sp0, sp0O, sp1, sp1O, sp1b, sp1bO, sp2, spC] at hm
  unfold m_Net_without at hm
  refine Y.s_forG (ι := Unit) (σ := Unit) (fun _ => True) (fun _ s_1 => [some (.dat (dNet x.1)), some (.dat ((dU D.int) x.2)), none, none, none, none]) (fun _ s_1 => []) (Y.i_tup (Y.v_var 1 rfl fun hz => ⟨_, _, (), _, hm, trivial, (.keep (.keep (.none (.none (.none (.none .nil)))))), .slnil, ?_, ?_⟩))
  · intro it_1 s_1 _ Φ' hmem _ hm
    refine (Y.g_name 2 ?_)
    refine Y.s_cons (Y.s_ite (Y.t_not (Y.t_chain (fun _ => op_le) (fun _ => op_lt) (Y.v_int (Y.v_var 2 rfl ⟨_, (Y.v_len 0 g.len (Y.q_u (Y.v_fld fld_Net_spans g.cf_Net_spans (Y.v_var 0 rfl ⟨rfl, rfl⟩)))), ⟨fun hb => ?_, fun hb => ?_⟩⟩)))))
    · have hm := (Run.ite hm).1 hb
      exact Y.s_cons (Y.s_raise 1 g.exc_UnknownSpan g.cls_UnknownSpang rfl (Y.a_v (enc := D.int) (Y.v_var 2 rfl (Y.a_nil ⟨[D.int it_1], rfl, rfl, (Run.chk hm).1, hx _ _ _ (Run.chk hm).2.getE .slnil⟩))))
    · have hm := (Run.ite hm).2 hb
      refine Y.s_nil ?_
      refine Y.s_nil ?_
      exact ⟨(), (), trivial, (.keep (.keep (.none (.none (.none (.none .nil)))))), .slnil, hm.get⟩
  · intro s_2 _ _ hm
    refine Y.s_cons (Y.s_setC 3 (scope := _) [("place", 4), ("span", 5)] [1, 4, 5] [] (by decide +kernel) (Y.i_enumT 2 g.enumerate (Y.v_fld fld_Net_spans g.cf_Net_spans (Y.v_var 0 rfl fun hz => ⟨(by rw [enumL_length]; exact hz), CompOk.filM (Run.bind hm) (fun it_2 Φ' hmem hm T1 q o e1 => (Y.g_tup (Y.g_cons (Y.g_name 4 (Y.g_cons (Y.g_name 5 (Y.g_nil (fun T2 e2 => Y.f_one (Y.t_cmp (Y.c_ninI (Y.v_var 4 rfl (Y.q_u (Y.v_var 1 rfl ⟨fun hb T3 e3 => have hm := (Run.ite hm).1 hb; (Y.v_var 5 rfl ⟨rfl, hm.get⟩), fun hb => have hm := (Run.ite hm).2 hb; ⟨rfl, hm.get⟩⟩))))))))))))) (fun lst_1 hm => fun q_1 hq_1 => ?_)⟩))))
    refine Y.s_frz 3 0 rfl rfl hq_1 ?_
    exact Y.s_cons (Y.s_ret (WV.asE (enc := dNet) (Y.v_make (enc := dNet) (c := "Net") (Y.e_make (f_Net_Net g) g.mk_Net g.cls_Netg (i := 3) rfl (Y.a_v (enc := D.int) (Y.v_fld fld_Net_round_length g.cf_Net_round_length (Y.v_var 0 rfl (Y.a_v (enc := D.int) (Y.v_fld fld_Net_events g.cf_Net_events (Y.v_var 0 rfl (Y.a_v (enc := (dL (dT4 D.int D.int D.int D.int))) (Y.v_var 3 rfl (Y.a_nil (kC ((x.1.round_length, x.1.events, lst_1)) (Y.step hm (fun obj_1 hm => ⟨_, obj_1, rfl, rfl, (r0 hm)⟩) (fun e z => hx e _ _ z .slnil))))))))))))))))
theorem f_Net_without {W : Wd} (g : Fa W) : FnV W 5 (He.ma W.K (He.ga W.K (Str.ofString "Net")) "without") (spV 1 (spOf W.K s_Net_without)) := by
  obtain ⟨fd, F⟩ := g.def_Net_without
  exact FnV.of1 (N := ["self", "numbers", "number", "left", "place", "span"]) (p1 := "self") (pv := "numbers") F (C8.fnScope_by (by decide +kernel)) (scOk_of (by decide +kernel)) (fun _ _ _ _ _ _ _ => rfl) (fun _ _ _ _ _ _ _ _ _ => rfl) (b_Net_without g)
theorem b_law_without {W : Wd} (g : Fa W) : BodyOk W c_law_without (defBody (top 39)) s_law_without := by
  rintro T tt x as Ω Φ Ψ ⟨rfl, rfl⟩ hm hx
  simp only [s_law_without, sp0, sp0O, sp1, sp1O, sp1b, sp1bO, sp2, spC] at hm
  unfold m_law_without at hm
  refine Y.s_cons (Y.s_ite (Y.t_cmp (Y.c_eqI (Y.v_len 0 g.len (Y.q_v (Y.v_var 1 rfl (Y.v_int ⟨fun hb => ?_, fun hb => ?_⟩)))))))
  · have hm := (Run.ite hm).1 hb
    exact Y.s_cons (Y.s_ret (WV.asE (enc := dNet) (Y.e_methV0 _ (f_Net_without g) g.cls_Net g.meth_Net_without (insV nf_Net_without (Y.v_var 0 rfl (k0 (x.1, ([] : List (Int))) (Y.step hm (fun r_1 hm => ⟨_, rfl, (r0 hm)⟩) (fun e z => hx e _ _ z .slnil))))))))
  · have hm := (Run.ite hm).2 hb
    refine Y.s_nil ?_
    refine Y.s_cons (Y.s_ite (Y.t_cmp (Y.c_eqI (Y.v_len 0 g.len (Y.q_v (Y.v_var 1 rfl (Y.v_int ⟨fun hb => ?_, fun hb => ?_⟩)))))))
    · have hm := (Run.ite hm).1 hb
      refine Y.s_cons (Y.s_ret (WV.asE (enc := dNet) (Y.e_methV _ (f_Net_without g) g.cls_Net g.meth_Net_without (insV nf_Net_without (Y.v_var 0 rfl (Y.a_v (enc := D.int) (Y.v_ixL (Ψ := Ψ) (Y.v_var 1 rfl (Y.v_int (Y.step hm fun v_1 hm => ?_))))))))))
      exact Y.a_nil ⟨[D.int v_1], rfl, (show 1 ≤ sizeLine from by decide), (k0 (x.1, [v_1]) (Y.step hm (fun r_2 hm => ⟨_, rfl, (r0 hm)⟩) (fun e z => hx e _ _ z .slnil)))⟩
    · have hm := (Run.ite hm).2 hb
      refine Y.s_nil ?_
      refine Y.s_cons (Y.s_ite (Y.t_cmp (Y.c_eqI (Y.v_len 0 g.len (Y.q_v (Y.v_var 1 rfl (Y.v_int ⟨fun hb => ?_, fun hb => ?_⟩)))))))
      · have hm := (Run.ite hm).1 hb
        refine Y.s_cons (Y.s_ret (WV.asE (enc := dNet) (Y.e_methV _ (f_Net_without g) g.cls_Net g.meth_Net_without (insV nf_Net_without (Y.v_var 0 rfl (Y.a_v (enc := D.int) (Y.v_ixL (Ψ := Ψ) (Y.v_var 1 rfl (Y.v_int (Y.step hm fun v_2 hm => ?_))))))))))
        refine Y.a_v (enc := D.int) (Y.v_ixL (Ψ := Ψ) (Y.v_var 1 rfl (Y.v_int (Y.step hm fun v_3 hm => ?_))))
        exact Y.a_nil ⟨[D.int v_2, D.int v_3], rfl, (show 2 ≤ sizeLine from by decide), (k0 (x.1, [v_2, v_3]) (Y.step hm (fun r_3 hm => ⟨_, rfl, (r0 hm)⟩) (fun e z => hx e _ _ z .slnil)))⟩
      · have hm := (Run.ite hm).2 hb
        refine Y.s_nil ?_
        refine Y.s_cons (Y.s_ite (Y.t_cmp (Y.c_eqI (Y.v_len 0 g.len (Y.q_v (Y.v_var 1 rfl (Y.v_int ⟨fun hb => ?_, fun hb => ?_⟩)))))))
        · have hm := (Run.ite hm).1 hb
          refine Y.s_cons (Y.s_ret (WV.asE (enc := dNet) (Y.e_methV _ (f_Net_without g) g.cls_Net g.meth_Net_without (insV nf_Net_without (Y.v_var 0 rfl (Y.a_v (enc := D.int) (Y.v_ixL (Ψ := Ψ) (Y.v_var 1 rfl (Y.v_int (Y.step hm fun v_4 hm => ?_))))))))))
          refine Y.a_v (enc := D.int) (Y.v_ixL (Ψ := Ψ) (Y.v_var 1 rfl (Y.v_int (Y.step hm fun v_5 hm => ?_))))
          refine Y.a_v (enc := D.int) (Y.v_ixL (Ψ := Ψ) (Y.v_var 1 rfl (Y.v_int (Y.step hm fun v_6 hm => ?_))))
          exact Y.a_nil ⟨[D.int v_4, D.int v_5, D.int v_6], rfl, (show 3 ≤ sizeLine from by decide), (k0 (x.1, [v_4, v_5, v_6]) (Y.step hm (fun r_4 hm => ⟨_, rfl, (r0 hm)⟩) (fun e z => hx e _ _ z .slnil)))⟩
        · have hm := (Run.ite hm).2 hb
          refine Y.s_nil ?_
          refine Y.s_cons (Y.s_ret (WV.asE (enc := dNet) (Y.e_methV _ (f_Net_without g) g.cls_Net g.meth_Net_without (insV nf_Net_without (Y.v_var 0 rfl (Y.a_v (enc := D.int) (Y.v_ixL (Ψ := Ψ) (Y.v_var 1 rfl (Y.v_int (Y.step hm fun v_7 hm => ?_))))))))))
          refine Y.a_v (enc := D.int) (Y.v_ixL (Ψ := Ψ) (Y.v_var 1 rfl (Y.v_int (Y.step hm fun v_8 hm => ?_))))
          refine Y.a_v (enc := D.int) (Y.v_ixL (Ψ := Ψ) (Y.v_var 1 rfl (Y.v_int (Y.step hm fun v_9 hm => ?_))))
          refine Y.a_v (enc := D.int) (Y.v_ixL (Ψ := Ψ) (Y.v_var 1 rfl (Y.v_int (Y.step hm fun v_10 hm => ?_))))
          refine Y.a_v (enc := D.int) (Y.v_ixL (Ψ := Ψ) (Y.v_var 1 rfl (Y.v_int (Y.step hm fun v_11 hm => ?_))))
          refine Y.a_v (enc := D.int) (Y.v_ixL (Ψ := Ψ) (Y.v_var 1 rfl (Y.v_int (Y.step hm fun v_12 hm => ?_))))
          exact Y.a_nil ⟨[D.int v_7, D.int v_8, D.int v_9, D.int v_10, D.int v_11, D.int v_12], rfl, (show 6 ≤ sizeLine from by decide), (k0 (x.1, [v_7, v_8, v_9, v_10, v_11, v_12]) (Y.step hm (fun r_5 hm => ⟨_, rfl, (r0 hm)⟩) (fun e z => hx e _ _ z .slnil)))⟩
theorem f_law_without {W : Wd} (g : Fa W) : FnY W 6 (He.ga W.K "_law_without") (spOf W.K s_law_without) := by
  obtain ⟨fd, F⟩ := g.def__law_without
  exact FnY.of (N := ["net", "numbers"]) (ps := ["net", "numbers"]) F (C8.fnScope_by (by decide +kernel)) (scOk_of (by decide +kernel)) (by rintro x as Ω ⟨rfl, rfl⟩; rfl) (fun _ _ _ _ _ _ us hl => match us, hl with | [_, _], _ => rfl) (b_law_without g)
theorem b_law_without_good {W : Wd} (g : Fa W) : BodyOk W c_law_without_good (defBody (top 40)) s_law_without_good := by
  rintro T tt x as Ω Φ Ψ ⟨rfl, rfl⟩ hm hx
  simp only [s_law_without_good, sp0, sp0O, sp1, sp1O, sp1b, sp1bO, sp2, spC] at hm
  unfold m_law_without_good at hm
  refine Y.s_cons (Y.s_setL (Ψ := Ψ) (enc := D.int) 3 (Y.v_len 0 g.len (Y.q_v (Y.v_tix (enc := (dT3 D.int D.int (dL (dT4 D.int D.int D.int D.int)))) (enb := (dL (dT4 D.int D.int D.int D.int))) (fun x => x.2.2) (fun _ => ⟨_, rfl, rfl⟩) (Y.v_var 1 rfl (Y.step hm fun count_1 hm => ?_))))))
  refine Y.s_cons (Y.s_setC 4 (scope := _) [("number", 10)] [3, 10] [] (by decide +kernel) (Y.i_lst (Y.v_var 2 rfl fun hz => ⟨hz, CompOk.filM (Run.bind hm) (fun it_1 Φ' hmem hm T1 q o e1 => (Y.g_name 10 (fun T2 e2 => Y.f_one (Y.t_pure (Y.t_w (Y.w_orP (Y.t_cmp (Y.c_lt (Y.v_var 10 rfl (Y.v_int ⟨rfl, rfl⟩)))) fun _ => (Y.w_or1 (Y.t_cmp (Y.c_ge (Y.v_var 10 rfl (Y.v_var 3 rfl ⟨rfl, rfl⟩))))))) ⟨fun hb T3 e3 => have hm := (Run.ite hm).1 hb; (Y.v_var 10 rfl ⟨rfl, hm.get⟩), fun hb => have hm := (Run.ite hm).2 hb; ⟨rfl, hm.get⟩⟩)))) (fun lst_1 hm => fun q_1 hq_1 => ?_)⟩)))
  refine Y.s_frz 4 0 rfl rfl hq_1 ?_
  refine Y.s_cons (Y.s_setC 5 (scope := _) [("k", 9)] [1, 2, 9] [] (by decide +kernel) (Y.i_rng1 (Ψ := Ψ) 1 g.range (Y.v_var 3 rfl (Y.step hm fun xs_1 hm => ⟨okLen_le (Run.chk hm).1, have hm := (Run.chk hm).2; CompOk.filM (Run.bind hm) (fun it_2 Φ' hmem hm T1 q o e1 => (Y.g_name 9 (fun T2 e2 => Y.f_one (Y.t_cmp (Y.c_ninI (Y.v_var 9 rfl (Y.q_v (Y.v_var 2 rfl ⟨fun hb T3 e3 => have hm := (Run.ite hm).1 hb; (Y.v_ixL (Ψ := Ψ) (Y.v_tix (enc := (dT3 D.int D.int (dL (dT4 D.int D.int D.int D.int)))) (enb := (dL (dT4 D.int D.int D.int D.int))) (fun x => x.2.2) (fun _ => ⟨_, rfl, rfl⟩) (Y.v_var 1 rfl (Y.v_var 9 rfl (Y.step hm fun v_1 hm => ⟨rfl, hm.get⟩))))), fun hb => have hm := (Run.ite hm).2 hb; ⟨rfl, hm.get⟩⟩)))))))) (fun lst_2 hm => fun q_2 hq_2 => ?_)⟩))))
  refine Y.s_frz 5 0 rfl rfl hq_2 ?_
  refine Y.s_cons (Y.s_setL (Ψ := Ψ) (enc := (dO (dT4 D.int D.bl D.bl D.bl))) 6 (Y.v_none (Y.step hm fun told_1 hm => ?_)))
  refine Y.nx_weak (Δ := [some (.dat (dNet x.1)), some (.dat ((dT3 D.int D.int (dL (dT4 D.int D.int D.int D.int))) x.2.1)), some (.dat ((dL D.int) x.2.2)), some (.dat (D.int count_1)), some (.dat ((dL D.int) lst_1)), some (.dat ((dL (dT4 D.int D.int D.int D.int)) lst_2)), some (.dat ((dO (dT4 D.int D.bl D.bl D.bl)) told_1)), none, none, none, none]) (Ω' := []) ?_ (.keep (.keep (.keep (.keep (.keep (.keep (.keep (.none (.none (.none (.none .nil))))))))))) .slnil
  refine Y.s_cons (Y.s_setL (Ψ := Ψ) (enc := (dO dNet)) 7 (Y.v_none (Y.step hm fun other_1 hm => ?_)))
  refine Y.s_tryG (ι := Unit) (σ := (Option ((Int) × (Bool) × (Bool) × (Bool))) × (Option (Net))) 8 9 g.catch_UnknownSpan rfl tt (fun _ => True) (fun _ s_1 => [some (.dat (dNet x.1)), some (.dat ((dT3 D.int D.int (dL (dT4 D.int D.int D.int D.int))) x.2.1)), some (.dat ((dL D.int) x.2.2)), some (.dat (D.int count_1)), some (.dat ((dL D.int) lst_1)), some (.dat ((dL (dT4 D.int D.int D.int D.int)) lst_2)), some (.dat ((dO (dT4 D.int D.bl D.bl D.bl)) s_1.1)), some (.dat ((dO dNet) s_1.2)), none, none, none]) (fun _ s_1 => []) ([some (.dat (dNet x.1)), some (.dat ((dT3 D.int D.int (dL (dT4 D.int D.int D.int D.int))) x.2.1)), some (.dat ((dL D.int) x.2.2)), some (.dat (D.int count_1)), some (.dat ((dL D.int) lst_1)), some (.dat ((dL (dT4 D.int D.int D.int D.int)) lst_2)), some (.dat ((dO (dT4 D.int D.bl D.bl D.bl)) told_1)), some (.dat ((dO dNet) other_1)), none, none, none]) ([]) hm ?_ (by intro e Γ1 Ω1 z l1 l2; exact hx e _ _ z (.trans .slnil l1)) ?_ ?_
  · intro T' Φ' Ψ' eHe tt' hm hx
    refine Y.s_cons (Y.s_setL (Ψ := Ψ') (enc := (dO dNet)) 7 (Y.v_some (Y.e_call (f_law_without g) g.fn__law_without (i := 2) rfl (Y.a_v (enc := dNet) (Y.v_var 0 rfl (Y.a_v (enc := (dL D.int)) (Y.v_var 2 rfl (Y.a_nil (k0 ((x.1, x.2.2)) (Y.step hm (fun r_1 hm => ?_) (fun e z => hx e _ _ z .slnil (.keep (.keep (.keep (.keep (.keep (.keep (.keep (.keep (.none (.none (.none .nil))))))))))))))))))))))
    refine ⟨_, rfl, (Y.step hm fun other_2 hm => ?_)⟩
    refine Y.s_nil ?_
    exact ⟨(), (told_1, other_2), trivial, (.keep (.keep (.keep (.keep (.keep (.keep (.keep (.keep (.none (.none (.none .nil))))))))))), .slnil, hm.get⟩
  · rintro ⟨ec, ef⟩ Φ' T2 a d hn hm e1 hin
    obtain rfl : ec = "UnknownSpan" := by simpa [named_UnknownSpan] using hn
    refine Y.s_cons (Y.s_setL (Ψ := Ψ) (enc := (dO (dT4 D.int D.bl D.bl D.bl))) 6 (Y.v_some (Y.v_tup (enb := (dT4 D.int D.bl D.bl D.bl)) (Y.a_v (enc := D.int) (Y.v_xfI (Ψ := Ψ) 8 hin g.xf_UnknownSpan g.xn_UnknownSpan_number rfl (Y.step hm fun xf_1 hm => ?_))))))
    refine Y.a_v (enc := D.bl) (Y.v_isE 8 6 3 hin g.ec_UnknownSpan (ic_DepotError g) g.ek_UnknownSpan_DepotError g.isinstance rfl (Y.a_v (enc := D.bl) (Y.v_isE 8 5 3 hin g.ec_UnknownSpan (ic_ValueError g) g.ek_UnknownSpan_ValueError g.isinstance rfl (Y.a_v (enc := D.bl) (Y.v_isE 8 4 3 hin g.ec_UnknownSpan (ic_BadNet g) g.ek_UnknownSpan_BadNet g.isinstance rfl (Y.a_nil ⟨(xf_1, true, true, false), _, rfl, rfl, (show 4 ≤ sizeLine from by decide), (Y.step hm fun told_2 hm => ?_)⟩) rfl)) rfl)) rfl)
    refine Y.s_nil ?_
    exact ⟨(), (told_2, other_1), trivial, (.keep (.keep (.keep (.keep (.keep (.keep (.keep (.keep (.none (.none (.none .nil))))))))))), .slnil, hm.get⟩
  · intro s_1 _ _ hm
    refine Y.s_cons (Y.s_ite (Y.t_cmp (Y.c_neD (Ψ := Ψ) (Y.d_v (Y.v_var 4 rfl (Y.d_v (Y.n_v (Y.n_lst (enc := D.int) [] (Y.a_nil ⟨([] : List (Int)), rfl, (show 0 ≤ sizeLine from by decide), ⟨rfl, Y.step hm fun eq_1 hm => ⟨fun hb => ?_, fun hb => ?_⟩⟩⟩)))))))))
    · have hm := (Run.ite hm).1 hb
      refine Y.s_cons (Y.s_ret (WV.asE (enc := D.bl) (Y.v_and (Y.v_cmp (Y.c_isN (Y.v_var 7 rfl ⟨fun hb => have hm := (Run.ite hm).1 hb; (Y.v_one (Y.e_call (f_law_same g 2) g.fn__law_same (i := 7) rfl (Y.a_v (enc := (dO (dT4 D.int D.bl D.bl D.bl))) (Y.v_var 6 rfl (Y.a_v (enc := (dT4 D.int D.bl D.bl D.bl)) (Y.v_tup (enb := (dT4 D.int D.bl D.bl D.bl)) (Y.a_v (enc := D.int) (Y.v_ixL (Ψ := Ψ) (Y.v_var 4 rfl (Y.v_int (Y.step hm fun v_2 hm => ?_))))))))))), fun hb => have hm := (Run.ite hm).2 hb; (r0 hm)⟩))))))
      exact Y.a_v (enc := D.bl) (Y.v_bl (Y.a_v (enc := D.bl) (Y.v_bl (Y.a_v (enc := D.bl) (Y.v_bl (Y.a_nil ⟨(v_2, true, true, false), _, rfl, rfl, (show 4 ≤ sizeLine from by decide), (Y.a_nil (k0 ((dO (dT4 D.int D.bl D.bl D.bl)) s_1.1, (dT4 D.int D.bl D.bl D.bl) ((v_2, true, true, false))) ((Run.noexc (Y.step hm (fun r_2 hm => ⟨_, rfl, (r0 hm)⟩))).mono (fun _ q => q) (fun _ z => z.elim))))⟩))))))
    · have hm := (Run.ite hm).2 hb
      refine Y.s_nil ?_
      refine Y.s_cons (Y.s_ite (WT.cut hm (fun _ hm => (Y.t_w (Y.w_or (Y.t_cmp (Y.c_notN (Y.v_var 6 rfl ⟨fun hb => have hm := (Run.ite hm).2 hb; (Y.w_or (Y.t_cmp (Y.c_isN (Y.v_var 7 rfl ⟨fun hb => have hm := (Run.ite hm).2 hb; Run.optE hm fun other_3 hother_3 hm => (Y.w_or1 (Y.t_not (Y.t_val (Y.e_call (f_law_shows g) g.fn__law_shows (i := 8) rfl (Y.a_v (enc := dNet) (Y.v_varN 7 rfl hother_3 (Y.a_v (enc := D.int) (Y.v_tix (enc := (dT3 D.int D.int (dL (dT4 D.int D.int D.int D.int)))) (enb := D.int) (fun x => x.1) (fun _ => ⟨_, rfl, rfl⟩) (Y.v_var 1 rfl (Y.a_v (enc := D.int) (Y.v_tix (enc := (dT3 D.int D.int (dL (dT4 D.int D.int D.int D.int)))) (enb := D.int) (fun x => x.2.1) (fun _ => ⟨_, rfl, rfl⟩) (Y.v_var 1 rfl (Y.a_v (enc := (dL (dT4 D.int D.int D.int D.int))) (Y.v_var 5 rfl (Y.a_nil (k0 ((other_3, x.2.1.1, x.2.1.2.1, lst_2)) ((Run.noexc (Y.step hm (fun r_3 hm => ⟨_, rfl, ⟨rfl, hm.get⟩⟩))).mono (fun _ q => q) (fun _ z => z.elim)))))))))))))))))), fun hb => have hm := (Run.ite hm).1 hb; ⟨rfl, hm.get⟩⟩)))), fun hb => have hm := (Run.ite hm).1 hb; ⟨rfl, hm.get⟩⟩)))))) fun b_1 hm => ⟨fun hb => ?_, fun hb => ?_⟩))
      · have hm := (Run.ite hm).1 hb
        exact Y.s_cons (Y.s_ret (WV.asE (enc := D.bl) (Y.v_bl (r0 hm))))
      · have hm := (Run.ite hm).2 hb
        obtain ⟨other_4, hother_4, hm⟩ := Run.opt hm
        refine Y.s_nil ?_
        refine Y.s_cons (Y.s_ret (WV.asE (enc := D.bl) (Y.e_call (f_law_same g 1) g.fn__law_same (i := 7) rfl (Y.a_v (enc := D.bl) (Y.v_cmp (Y.c_eqO (enc := dNet) (enb := dNet) (f_Net___eq g) g.meth_Net___eq__ (fun _ => ⟨_, rfl⟩) (fun _ => ⟨_, rfl⟩) (Y.v_var 0 rfl (Y.v_varN 7 rfl hother_4 (Run.noexc (Y.step hm fun eq_2 hm => ?_))))))))))
        refine Y.a_v (enc := D.bl) (Y.v_cmp (Y.c_eqD (Ψ := Ψ) (Y.d_v (Y.v_var 2 rfl (Y.d_v (Y.n_v (Y.n_lst (enc := D.int) [] (Y.a_nil ⟨([] : List (Int)), rfl, (show 0 ≤ sizeLine from by decide), ⟨rfl, Y.step hm fun eq_3 hm => ?_⟩⟩))))))))
        exact Y.a_nil (k0 (D.bl eq_2, D.bl eq_3) ((Run.noexc (Y.step hm (fun r_4 hm => ⟨_, rfl, (r0 hm)⟩))).mono (fun _ q => q) (fun _ z => z.elim)))
theorem f_law_without_good {W : Wd} (g : Fa W) : FnY W 7 (He.ga W.K "_law_without_good") (spOf W.K s_law_without_good) := by
  obtain ⟨fd, F⟩ := g.def__law_without_good
  exact FnY.of (N := ["net", "first", "numbers", "count", "strangers", "left", "told", "other", "e", "k", "number"]) (ps := ["net", "first", "numbers"]) F (C8.fnScope_by (by decide +kernel)) (scOk_of (by decide +kernel)) (by rintro x as Ω ⟨rfl, rfl⟩; rfl) (fun _ _ _ _ _ _ us hl => match us, hl with | [_, _, _], _ => rfl) (b_law_without_good g)
theorem b_law_number {W : Wd} (g : Fa W) : BodyOk W c_law_number (defBody (top 37)) s_law_number := by
  rintro T tt x as Ω Φ Ψ ⟨p, rfl, rfl⟩ hm hx
  simp only [s_law_number, sp0, sp0O, sp1, sp1O, sp1b, sp1bO, sp2, spC] at hm
  unfold m_law_number at hm
  refine Y.s_cons (Y.s_setC 4 (scope := _) [("one", 6)] [2, 6] [] (by decide +kernel) (Y.i_rng1 (Ψ := Ψ) 0 g.range (Y.v_var 1 rfl (Y.step hm fun xs_1 hm => ⟨okLen_le (Run.chk hm).1, have hm := (Run.chk hm).2; CompOk.filM (Run.bind hm) (fun it_1 Φ' hmem hm T1 q o e1 => (Y.g_name 6 (fun T2 e2 => Y.f_one (Y.t_cmp (Y.c_ninI (Y.v_var 6 rfl (Y.q_v (Y.v_var 2 rfl ⟨fun hb T3 e3 => have hm := (Run.ite hm).1 hb; (Y.v_var 6 rfl ⟨rfl, hm.get⟩), fun hb => have hm := (Run.ite hm).2 hb; ⟨rfl, hm.get⟩⟩)))))))) (fun lst_1 hm => fun q_1 hq_1 => ?_)⟩))))
  refine Y.s_frz 4 0 rfl rfl hq_1 ?_
  refine Y.s_cons (Y.s_setL (Ψ := Ψ) (enc := D.int) 5 (Y.v_ixL (Ψ := Ψ) (Y.n_v (Y.n_lst (enc := D.int) [] (Y.a_v (enc := D.int) (Y.v_int (Y.a_v (enc := D.int) (Y.v_int (Y.a_v (enc := D.int) (Y.v_int (Y.a_v (enc := D.int) (Y.v_int (Y.a_v (enc := D.int) (Y.v_pow (Ψ := Ψ) (Y.v_int (Y.v_int (Y.step hm fun n_1 hm => ?_)))))))))))))))))
  refine Y.a_nil ⟨[(0 : Int), (0 : Int), (1 : Int), (24 : Int), n_1], rfl, (show 5 ≤ sizeLine from by decide), (Y.e_call (f_law_take g) g.fn__law_take (i := 1) rfl (Y.a_cons (Y.e_var 0 rfl rfl rfl (Y.a_v (enc := D.int) (Y.v_int (Y.a_nil (k1 ((x.1, (5 : Int))) 0 rfl ((Run.noexc (Y.step hm (fun r_1 hm => ?_))).mono (fun _ q => q) (fun _ z => z.elim)))))))))⟩
  refine ⟨_, rfl, (Y.step hm fun v_1 hm => (Y.step hm fun far_1 hm => ?_))⟩
  refine Y.s_cons (Y.s_ite (WT.cutS (ΩS := fun st_1 => [(p, oL D.int st_1)]) hm (fun _ hm => (Y.t_w (Y.w_or (Y.t_cmp (Y.c_eqD (Ψ := Ψ) (Y.d_v (Y.v_var 4 rfl (Y.d_v (Y.n_v (Y.n_lst (enc := D.int) [] (Y.a_nil ⟨([] : List (Int)), rfl, (show 0 ≤ sizeLine from by decide), ⟨rfl, Y.step hm fun eq_1 hm => ⟨fun hb => have hm := (Run.ite hm).2 hb; (Y.w_or1 (Y.t_cmp (Y.c_eqI (Y.e_call (f_law_take g) g.fn__law_take (i := 1) rfl (Y.a_cons (Y.e_var 0 rfl rfl rfl (Y.a_v (enc := D.int) (Y.v_var 3 rfl (Y.a_nil (k1 ((r_1.2, x.2.2.2)) 0 rfl ((Run.noexc (Y.step hm (fun r_2 hm => ⟨_, rfl, (Y.v_int ⟨r_2.2, rfl, hm.get⟩)⟩))).mono (fun _ q => q) (fun _ z => z.elim)))))))))))), fun hb => have hm := (Run.ite hm).1 hb; ⟨r_1.2, rfl, hm.get⟩⟩⟩⟩))))))))))) fun b_1 st_1 hm => ⟨fun hb => ?_, fun hb => ?_⟩))
  · have hm := (Run.ite hm).1 hb
    refine Y.s_cons (Y.s_ret (WV.asE (enc := D.int) (Y.v_ixL (Ψ := Ψ) (Y.n_v (Y.n_lst (enc := D.int) [] (Y.a_v (enc := D.int) (Y.v_sub (Y.v_neg (Y.v_int (Y.v_var 5 rfl (Y.a_v (enc := D.int) (Y.v_add (Y.v_var 1 rfl (Y.v_var 5 rfl (Y.a_nil ⟨[((-((1 : Int))) - far_1), (x.2.1 + far_1)], rfl, (show 2 ≤ sizeLine from by decide), (Y.e_call (f_law_take g) g.fn__law_take (i := 1) rfl (Y.a_cons (Y.e_var 0 rfl rfl rfl (Y.a_v (enc := D.int) (Y.v_int (Y.a_nil (k1 ((st_1, (2 : Int))) 0 rfl ((Run.noexc (Y.step hm (fun r_3 hm => ?_))).mono (fun _ q => q) (fun _ z => z.elim)))))))))⟩)))))))))))))))
    exact ⟨_, rfl, (Y.step hm fun v_2 hm => (r1 hm (.cons₂ _ .slnil)))⟩
  · have hm := (Run.ite hm).2 hb
    refine Y.s_nil ?_
    refine Y.s_cons (Y.s_ret (WV.asE (enc := D.int) (Y.v_ixL (Ψ := Ψ) (Y.v_var 4 rfl (Y.e_call (f_law_take g) g.fn__law_take (i := 1) rfl (Y.a_cons (Y.e_var 0 rfl rfl rfl (Y.a_v (enc := D.int) (Y.v_len 2 g.len (Y.q_v (Y.v_var 4 rfl (Y.a_nil (k1 ((st_1, ((lst_1.length : Nat) : Int))) 0 rfl ((Run.noexc (Y.step hm (fun r_4 hm => ?_))).mono (fun _ q => q) (fun _ z => z.elim)))))))))))))))
    exact ⟨_, rfl, (Y.step hm fun v_3 hm => (r1 hm (.cons₂ _ .slnil)))⟩
theorem f_law_number {W : Wd} (g : Fa W) : FnY W 2 (He.ga W.K "_law_number") (spOf W.K s_law_number) := by
  obtain ⟨fd, F⟩ := g.def__law_number
  exact FnY.of (N := ["pool", "count", "numbers", "chance", "left", "far", "one"]) (ps := ["pool", "count", "numbers", "chance"]) F (C8.fnScope_by (by decide +kernel)) (scOk_of (by decide +kernel)) (by rintro x as Ω ⟨p, rfl, rfl⟩; rfl) (fun _ _ _ _ _ _ us hl => match us, hl with | [_, _, _, _], _ => rfl) (b_law_number g)
theorem b_law_numbers {W : Wd} (g : Fa W) : BodyOk W c_law_numbers (defBody (top 38)) s_law_numbers := by
  rintro T tt x as Ω Φ Ψ ⟨p, rfl, rfl⟩ hm hx
  simp only [s_law_numbers, sp0, sp0O, sp1, sp1O, sp1b, sp1bO, sp2, spC] at hm
  unfold m_law_numbers at hm
  refine Y.s_cons (Y.s_set 2 (Y.n_o (enc := D.int) (Y.n_lst (enc := D.int) [] (Y.a_nil ⟨([] : List (Int)), rfl, (show 0 ≤ sizeLine from by decide), fun q_1 hq_1 => ?_⟩))))
  refine Y.s_forG (ι := Unit) (σ := (List (Int)) × (List (Int))) (fun _ => True) (fun _ s_1 => [some (.own p), some (.dat (D.int x.2)), some (.own q_1), none]) (fun _ s_1 => [(q_1, oL D.int s_1.2), (p, oL D.int s_1.1)]) (Y.i_rng1 (Ψ := Ψ) 0 g.range (Y.e_call (f_law_take g) g.fn__law_take (i := 3) rfl (Y.a_cons (Y.e_var 0 rfl rfl rfl (Y.a_v (enc := D.int) (Y.v_int (Y.a_nil (k1 ((x.1, (4 : Int))) 1 rfl ((Run.noexc (Y.step hm (fun r_1 hm => ⟨_, rfl, (Y.step hm fun xs_1 hm => ⟨_, _, (), _, hm, trivial, (.keep (.keep (.keep (.none .nil)))), (.cons₂ _ (.cons₂ _ .slnil)), ?_, ?_⟩)⟩))).mono (fun _ q => q) (fun _ z => z.elim))))))))))
  · intro it_1 s_1 _ Φ' hmem _ hm
    refine (Y.g_name 3 ?_)
    refine Y.s_cons (Y.s_expr (WV.asE (Y.v_append (Ψ := Ψ) 2 0 rfl rfl (Y.e_callV (f_law_number g) g.fn__law_number (i := 1) rfl (Y.a_cons (Y.e_var 0 rfl rfl rfl (Y.a_v (enc := D.int) (Y.v_var 1 rfl (Y.a_cons (Y.e_var 2 rfl rfl rfl (Y.a_v (enc := D.int) (Y.v_int (Y.a_nil (kv1 ((s_1.1, x.2, s_1.2, (3 : Int))) 1 rfl (.cons (.same _) (.cons (.same _) (.cons (vw_see (enc := D.int) 0 rfl rfl) (.cons (.same _) .nil)))) (nol_oL _) (fun _ => nol_oL _) ((Run.noexc (Y.step hm (fun r_2 hm => ?_))).mono (fun _ q => q) (fun _ z => z.elim))))))))))))))))
    refine ⟨_, rfl, ⟨_, rfl, Y.step hm fun numbers_1 hm => ?_⟩⟩
    refine Y.s_nil ?_
    exact ⟨(), (r_2.2, numbers_1), trivial, (.keep (.keep (.keep (.none .nil)))), (.cons₂ _ (.cons₂ _ .slnil)), hm.get⟩
  · intro s_2 _ _ hm
    refine Y.s_iteG (ι := Unit) (σ := (List (Int)) × (List (Int))) (fun _ => True) (fun _ s_3 => [some (.own p), some (.dat (D.int x.2)), some (.own q_1), none]) (fun _ s_3 => [(q_1, oL D.int s_3.2), (p, oL D.int s_3.1)]) (Y.t_cmp (Y.c_eqI (Y.e_call (f_law_take g) g.fn__law_take (i := 3) rfl (Y.a_cons (Y.e_var 0 rfl rfl rfl (Y.a_v (enc := D.int) (Y.v_int (Y.a_nil (k1 ((s_2.1, (8 : Int))) 1 rfl ((Run.noexc (Y.step hm (fun r_3 hm => ⟨_, rfl, (Y.v_int ⟨_, _, _, hm, fun hb Φ' hm => ?_, fun hb Φ' hm => ?_, ?_⟩)⟩))).mono (fun _ q => q) (fun _ z => z.elim)))))))))))
    · refine Y.s_forG (ι := Unit) (σ := (List (Int)) × (List (Int))) (fun _ => True) (fun _ s_4 => [some (.own p), some (.dat (D.int x.2)), some (.own q_1), none]) (fun _ s_4 => [(q_1, oL D.int s_4.2), (p, oL D.int s_4.1)]) (Y.i_rng1 (Ψ := Ψ) 0 g.range (Y.v_sub (Y.v_int (Y.v_len 2 g.len (Y.q_own 2 0 rfl rfl (Y.step hm fun xs_2 hm => ⟨_, _, (), _, hm, trivial, (.keep (.keep (.keep (.none .nil)))), (.cons₂ _ (.cons₂ _ .slnil)), ?_, ?_⟩))))))
      · intro it_2 s_4 _ Φ' hmem _ hm
        refine (Y.g_name 3 ?_)
        refine Y.s_cons (Y.s_expr (WV.asE (Y.v_append (Ψ := Ψ) 2 0 rfl rfl (Y.e_callV (f_law_number g) g.fn__law_number (i := 1) rfl (Y.a_cons (Y.e_var 0 rfl rfl rfl (Y.a_v (enc := D.int) (Y.v_var 1 rfl (Y.a_cons (Y.e_var 2 rfl rfl rfl (Y.a_v (enc := D.int) (Y.v_int (Y.a_nil (kv1 ((s_4.1, x.2, s_4.2, (20 : Int))) 1 rfl (.cons (.same _) (.cons (.same _) (.cons (vw_see (enc := D.int) 0 rfl rfl) (.cons (.same _) .nil)))) (nol_oL _) (fun _ => nol_oL _) ((Run.noexc (Y.step hm (fun r_4 hm => ?_))).mono (fun _ q => q) (fun _ z => z.elim))))))))))))))))
        refine ⟨_, rfl, ⟨_, rfl, Y.step hm fun numbers_2 hm => ?_⟩⟩
        refine Y.s_nil ?_
        exact ⟨(), (r_4.2, numbers_2), trivial, (.keep (.keep (.keep (.none .nil)))), (.cons₂ _ (.cons₂ _ .slnil)), hm.get⟩
      · intro s_5 _ _ hm
        refine Y.s_nil ?_
        exact ⟨(), (s_5.1, s_5.2), trivial, (.keep (.keep (.keep (.none .nil)))), (.cons₂ _ (.cons₂ _ .slnil)), hm.get⟩
    · refine Y.s_nil ?_
      exact ⟨(), (r_3.2, s_2.2), trivial, (.keep (.keep (.keep (.none .nil)))), (.cons₂ _ (.cons₂ _ .slnil)), hm.get⟩
    · intro s_3 _ _ hm
      refine Y.s_frz 2 0 rfl rfl hq_1 ?_
      exact Y.s_cons (Y.s_ret (WV.asE (enc := (dL D.int)) (Y.v_var 2 rfl (r1 hm (.cons₂ _ .slnil)))))
theorem f_law_numbers {W : Wd} (g : Fa W) : FnY W 3 (He.ga W.K "_law_numbers") (spOf W.K s_law_numbers) := by
  obtain ⟨fd, F⟩ := g.def__law_numbers
  exact FnY.of (N := ["pool", "count", "numbers", "k"]) (ps := ["pool", "count"]) F (C8.fnScope_by (by decide +kernel)) (scOk_of (by decide +kernel)) (by rintro x as Ω ⟨p, rfl, rfl⟩; rfl) (fun _ _ _ _ _ _ us hl => match us, hl with | [_, _], _ => rfl) (b_law_numbers g)
theorem b_law {W : Wd} (g : Fa W) : BodyOk W c_law (defBody (top 41)) s_law := by
  rintro T tt x as Ω Φ Ψ ⟨rfl, rfl⟩ hm hx
  simp only [s_law, sp0, sp0O, sp1, sp1O, sp1b, sp1bO, sp2, spC] at hm
  unfold m_law at hm
  refine Y.s_cons (Y.s_set 1 (Y.n_o (enc := D.int) (Y.e_call (f_law_pool g) g.fn__law_pool (i := 11) rfl (Y.a_v (enc := dS) (Y.v_var 0 rfl (Y.a_v (enc := D.int) (Y.v_int (Y.a_nil (k0O ((x, (0 : Int))) ((Run.noexc (Y.step hm (fun r_1 hm => ?_))).mono (fun _ q => q) (fun _ z => z.elim)))))))))))
  refine fun q_2 hq_2 => ⟨q_2, _, _, rfl, hq_2, rfl, fun q_1 hq_1 => ?_⟩
  refine Y.s_cons (Y.s_setL (Ψ := Ψ) (enc := D.int) 2 (Y.e_call (f_law_length g) g.fn__law_length (i := 16) rfl (Y.a_cons (Y.e_var 1 rfl rfl rfl (Y.a_nil (k1 r_1 0 rfl ((Run.noexc (Y.step hm (fun r_2 hm => ?_))).mono (fun _ q => q) (fun _ z => z.elim))))))))
  refine ⟨_, rfl, (Y.step hm fun length_1 hm => ?_)⟩
  refine Y.s_cons (Y.s_setL (Ψ := Ψ) (enc := D.int) 3 (Y.e_call (f_law_many g) g.fn__law_many (i := 15) rfl (Y.a_cons (Y.e_var 1 rfl rfl rfl (Y.a_nil (k1 r_2.2 0 rfl ((Run.noexc (Y.step hm (fun r_3 hm => ?_))).mono (fun _ q => q) (fun _ z => z.elim))))))))
  refine ⟨_, rfl, (Y.step hm fun many_1 hm => ?_)⟩
  refine Y.s_cons (Y.s_setL (Ψ := Ψ) (enc := (dL (dT4 D.int D.int D.int D.int))) 4 (Y.e_call (f_law_any_spans g) g.fn__law_any_spans (i := 5) rfl (Y.a_cons (Y.e_var 1 rfl rfl rfl (Y.a_v (enc := D.int) (Y.v_var 2 rfl (Y.a_v (enc := D.int) (Y.v_var 3 rfl (Y.a_v (enc := D.int) (Y.e_call (f_law_count g) g.fn__law_count (i := 14) rfl (Y.a_cons (Y.e_var 1 rfl rfl rfl (Y.a_v (enc := D.int) (Y.v_var 3 rfl (Y.a_nil (k1 ((r_3.2, many_1)) 0 rfl ((Run.noexc (Y.step hm (fun r_4 hm => ?_))).mono (fun _ q => q) (fun _ z => z.elim))))))))))))))))))
  refine ⟨_, rfl, (Y.a_nil (k1 ((r_4.2, length_1, many_1, r_4.1)) 0 rfl ((Run.noexc (Y.step hm (fun r_5 hm => ?_))).mono (fun _ q => q) (fun _ z => z.elim))))⟩
  refine ⟨_, rfl, (Y.step hm fun spans_1 hm => ?_)⟩
  refine Y.nx_weak (Δ := [some (.dat (dS x)), some (.own q_1), some (.dat (D.int length_1)), some (.dat (D.int many_1)), some (.dat ((dL (dT4 D.int D.int D.int D.int)) spans_1)), none, none, none, none, none, none]) (Ω' := [(q_1, oL D.int r_5.2)]) ?_ (.keep (.keep (.keep (.keep (.keep (.none (.none (.none (.none (.none (.none .nil))))))))))) (.cons₂ _ .slnil)
  refine Y.s_cons (Y.s_setL (Ψ := Ψ) (enc := (dT3 D.int D.int (dL (dT4 D.int D.int D.int D.int)))) 5 (Y.v_tup (enb := (dT3 D.int D.int (dL (dT4 D.int D.int D.int D.int)))) (Y.a_v (enc := D.int) (Y.v_var 2 rfl (Y.a_v (enc := D.int) (Y.v_var 3 rfl (Y.a_v (enc := (dL (dT4 D.int D.int D.int D.int))) (Y.v_var 4 rfl (Y.a_nil ⟨(length_1, many_1, spans_1), _, rfl, rfl, (show 3 ≤ sizeLine from by decide), (Y.step hm fun first_1 hm => ?_)⟩)))))))))
  refine Y.s_cons (Y.s_set 6 (Y.n_o (enc := (dT4 D.int D.int D.int D.int)) (Y.n_list 8 g.list (Y.q_v (Y.v_var 4 rfl fun q_3 hq_3 => ?_)))))
  refine Y.s_cons (Y.s_setL (Ψ := Ψ) (enc := dNet) 7 (Y.v_make (enc := dNet) (c := "Net") (Y.e_makeV (f_Net_Net g) g.mk_Net g.cls_Netg (i := 0) rfl (Y.a_v (enc := D.int) (Y.v_var 2 rfl (Y.a_v (enc := D.int) (Y.v_var 3 rfl (Y.a_cons (Y.e_var 6 rfl rfl rfl (Y.a_nil (kvC ((length_1, many_1, spans_1)) _ (.cons (.same _) (.cons (.same _) (.cons (vw_see (enc := (dT4 D.int D.int D.int D.int)) 0 rfl rfl) .nil))) (fun r => nolf_Net r) (Run.flatE (Y.step hm (fun obj_1 hm => ?_) (fun e z => hx e _ _ z (.cons _ (.cons _ .slnil))))))))))))))))
  refine ⟨_, obj_1, rfl, rfl, (Y.step hm fun net_1 hm => ?_)⟩
  refine Y.s_cons (Y.s_ite (Y.t_not (Y.t_val (Y.e_callV (f_law_same g 3) g.fn__law_same (i := 1) rfl (Y.a_cons (Y.e_var 6 rfl rfl rfl (Y.a_v (enc := (dL (dT4 D.int D.int D.int D.int))) (Y.v_var 4 rfl (Y.a_nil (kv0 (dL (dT4 D.int D.int D.int D.int) spans_1, (dL (dT4 D.int D.int D.int D.int)) spans_1) (.cons (vw_see (enc := (dT4 D.int D.int D.int D.int)) 0 rfl rfl) (.cons (.same _) .nil)) ((Run.noexc (Y.step hm (fun r_6 hm => ⟨_, rfl, ⟨fun hb => ?_, fun hb => ?_⟩⟩))).mono (fun _ q => q) (fun _ z => z.elim))))))))))))
  · have hm := (Run.ite hm).1 hb
    exact Y.s_cons (Y.s_ret (WV.asE (enc := D.bl) (Y.v_bl (r0 hm))))
  · have hm := (Run.ite hm).2 hb
    refine Y.s_nil ?_
    refine Y.s_cons (Y.s_expr (WV.asE (Y.v_append (Ψ := Ψ) 6 0 rfl rfl (Y.v_tup (enb := (dT4 D.int D.int D.int D.int)) (Y.a_v (enc := D.int) (Y.v_int (Y.a_v (enc := D.int) (Y.v_int (Y.a_v (enc := D.int) (Y.v_int (Y.a_v (enc := D.int) (Y.v_int (Y.a_nil ⟨((0 : Int), (1 : Int), (0 : Int), (0 : Int)), _, rfl, rfl, (show 4 ≤ sizeLine from by decide), ⟨_, rfl, Y.step hm fun handed_1 hm => ?_⟩⟩)))))))))))))
    refine Y.s_cons (Y.s_setItem (Ψ := Ψ) (enc := (dT4 D.int D.int D.int D.int)) 6 0 rfl (Y.v_tup (enb := (dT4 D.int D.int D.int D.int)) (Y.a_v (enc := D.int) (Y.v_int (Y.a_v (enc := D.int) (Y.v_int (Y.a_v (enc := D.int) (Y.v_int (Y.a_v (enc := D.int) (Y.v_int (Y.a_nil ⟨((1 : Int), (0 : Int), (0 : Int), (1 : Int)), _, rfl, rfl, (show 4 ≤ sizeLine from by decide), (Y.v_int ⟨_, rfl, Y.step hm fun handed_2 hm => ?_⟩)⟩)))))))))))
    refine Y.s_cons (Y.s_ite (Y.t_not (Y.t_val (Y.e_call (f_law_shows g) g.fn__law_shows (i := 9) rfl (Y.a_v (enc := dNet) (Y.v_var 7 rfl (Y.a_v (enc := D.int) (Y.v_var 2 rfl (Y.a_v (enc := D.int) (Y.v_var 3 rfl (Y.a_v (enc := (dL (dT4 D.int D.int D.int D.int))) (Y.v_var 4 rfl (Y.a_nil (k0 ((net_1, length_1, many_1, spans_1)) ((Run.noexc (Y.step hm (fun r_7 hm => ⟨_, rfl, ⟨fun hb => ?_, fun hb => ?_⟩⟩))).mono (fun _ q => q) (fun _ z => z.elim))))))))))))))))
    · have hm := (Run.ite hm).1 hb
      exact Y.s_cons (Y.s_ret (WV.asE (enc := D.bl) (Y.v_bl (r0 hm))))
    · have hm := (Run.ite hm).2 hb
      refine Y.s_nil ?_
      refine Y.s_cons (Y.s_set 1 (Y.n_o (enc := D.int) (Y.e_call (f_law_pool g) g.fn__law_pool (i := 11) rfl (Y.a_v (enc := dS) (Y.v_var 0 rfl (Y.a_v (enc := D.int) (Y.v_int (Y.a_nil (k0O ((x, (1 : Int))) ((Run.noexc (Y.step hm (fun r_8 hm => ?_))).mono (fun _ q => q) (fun _ z => z.elim)))))))))))
      refine fun q_5 hq_5 => ⟨q_5, _, _, rfl, hq_5, rfl, fun q_4 hq_4 => ?_⟩
      refine Y.nx_weak (Δ := [some (.dat (dS x)), some (.own q_4), some (.dat (D.int length_1)), some (.dat (D.int many_1)), some (.dat ((dL (dT4 D.int D.int D.int D.int)) spans_1)), some (.dat ((dT3 D.int D.int (dL (dT4 D.int D.int D.int D.int))) first_1)), some (.own q_3), some (.dat (dNet net_1)), none, none, none]) (Ω' := [(q_4, oL D.int r_8), (q_3, oL (dT4 D.int D.int D.int D.int) handed_2), (q_1, oL D.int r_5.2)]) ?_ (.keep (.keep (.keep (.keep (.keep (.keep (.keep (.keep (.none (.none (.none .nil))))))))))) (.cons₂ _ (.cons₂ _ (.cons₂ _ .slnil)))
      refine Y.s_forR (ι := Unit) (σ := (List (Int))) (fun _ => True) (fun _ s_1 => [some (.dat (dS x)), some (.own q_4), some (.dat (D.int length_1)), some (.dat (D.int many_1)), some (.dat ((dL (dT4 D.int D.int D.int D.int)) spans_1)), some (.dat ((dT3 D.int D.int (dL (dT4 D.int D.int D.int D.int))) first_1)), some (.own q_3), some (.dat (dNet net_1)), none, none, none]) (fun _ s_1 => [(q_4, oL D.int s_1), (q_3, oL (dT4 D.int D.int D.int D.int) handed_2), (q_1, oL D.int r_5.2)]) (fun (r : Bool) a _ => a = .dat (D.bl r)) (Y.i_lst (Y.e_call (f_law_nets_near g) g.fn__law_nets_near (i := 13) rfl (Y.a_cons (Y.e_var 1 rfl rfl rfl (Y.a_v (enc := D.int) (Y.v_var 2 rfl (Y.a_v (enc := D.int) (Y.v_var 3 rfl (Y.a_v (enc := (dL (dT4 D.int D.int D.int D.int))) (Y.v_var 4 rfl (Y.a_nil (k1 ((r_8, length_1, many_1, spans_1)) 0 rfl ((Run.noexc (Y.step hm (fun r_9 hm => ⟨_, rfl, fun hz => ⟨_, _, (), _, _, hm, trivial, (.keep (.keep (.keep (.keep (.keep (.keep (.keep (.keep (.none (.none (.none .nil))))))))))), (.cons₂ _ (.cons₂ _ (.cons₂ _ .slnil))), ?_, ?_, ?_⟩⟩))).mono (fun _ q => q) (fun _ z => z.elim))))))))))))))
      · intro it_1 s_1 _ Φ' hmem _ hm
        refine (Y.g_name 8 ?_)
        refine Y.s_cons (Y.s_ite (Y.t_not (Y.t_val (Y.e_call (f_law_judged g) g.fn__law_judged (i := 2) rfl (Y.a_v (enc := dNet) (Y.v_var 7 rfl (Y.a_v (enc := (dT3 D.int D.int (dL (dT4 D.int D.int D.int D.int)))) (Y.v_var 5 rfl (Y.a_v (enc := (dT3 D.int D.int (dL (dT4 D.int D.int D.int D.int)))) (Y.v_var 8 rfl (Y.a_nil (k0 ((net_1, first_1, it_1)) ((Run.noexc (Y.step hm (fun r_10 hm => ⟨_, rfl, ⟨fun hb => ?_, fun hb => ?_⟩⟩))).mono (fun _ q => q) (fun _ z => z.elim))))))))))))))
        · have hm := (Run.ite hm).1 hb
          exact Y.s_cons (Y.s_ret (WV.asE (enc := D.bl) (Y.v_bl ⟨_, rfl, hm.get⟩)))
        · have hm := (Run.ite hm).2 hb
          refine Y.s_nil ?_
          refine Y.s_nil ?_
          exact ⟨(), s_1, trivial, (.keep (.keep (.keep (.keep (.keep (.keep (.keep (.keep (.none (.none (.none .nil))))))))))), (.cons₂ _ (.cons₂ _ (.cons₂ _ .slnil))), hm.get⟩
      · intro s_2 _ _ hm
        refine Y.s_cons (Y.s_set 1 (Y.n_o (enc := D.int) (Y.e_call (f_law_pool g) g.fn__law_pool (i := 11) rfl (Y.a_v (enc := dS) (Y.v_var 0 rfl (Y.a_v (enc := D.int) (Y.v_int (Y.a_nil (k0O ((x, (2 : Int))) ((Run.noexc (Y.step hm (fun r_11 hm => ?_))).mono (fun _ q => q) (fun _ z => z.elim)))))))))))
        refine fun q_7 hq_7 => ⟨q_7, _, _, rfl, hq_7, rfl, fun q_6 hq_6 => ?_⟩
        refine Y.s_cons (Y.s_setC 9 (scope := _) [("k", 10)] [1, 2, 3, 10] ["_law_near_span"] (by decide +kernel) (Y.i_rng1 (Ψ := Ψ) 3 g.range (Y.e_call (f_law_take g) g.fn__law_take (i := 4) rfl (Y.a_cons (Y.e_var 1 rfl rfl rfl (Y.a_v (enc := D.int) (Y.v_int (Y.a_nil (k1 ((r_11, (3 : Int))) 0 rfl ((Run.noexc (Y.step hm (fun r_12 hm => ⟨_, rfl, (Y.step hm fun xs_1 hm => ⟨okLen_le (Run.chk hm).1, have hm := (Run.chk hm).2; CompOk.mapS (fun s_3 => [(q_6, oL D.int s_3), (q_4, oL D.int s_2), (q_3, oL (dT4 D.int D.int D.int D.int) handed_2), (q_1, oL D.int r_5.2)]) (Run.bind hm) rfl (fun it_2 s_3 Φ' hmem hm T1 q o e1 => (Y.g_name 10 (fun T3 e3 => (Y.e_call (f_law_near_span g) g.fn__law_near_span (i := 0) rfl (Y.a_cons (Y.e_var 1 rfl rfl rfl (Y.a_v (enc := D.int) (Y.v_var 2 rfl (Y.a_v (enc := D.int) (Y.v_var 3 rfl (Y.a_nil (k1 ((s_3, length_1, many_1)) 1 rfl ((Run.noexc (Y.step hm (fun r_13 hm => ⟨_, rfl, ⟨r_13.2, rfl, hm.get⟩⟩))).mono (fun _ q => q) (fun _ z => z.elim)))))))))))))) (fun z_1 hm => fun q_8 hq_8 => ?_)⟩)⟩))).mono (fun _ q => q) (fun _ z => z.elim)))))))))))
        refine Y.s_frz 9 0 rfl rfl hq_8 ?_
        refine Y.s_iteG (ι := Unit) (σ := (List ((Int) × (Int) × (Int) × (Int))) × (List (Int))) (fun _ => True) (fun _ s_5 => [some (.dat (dS x)), some (.own q_6), some (.dat (D.int length_1)), some (.dat (D.int many_1)), some (.dat ((dL (dT4 D.int D.int D.int D.int)) spans_1)), some (.dat ((dT3 D.int D.int (dL (dT4 D.int D.int D.int D.int))) first_1)), some (.own q_3), some (.dat (dNet net_1)), none, some (.dat ((dL (dT4 D.int D.int D.int D.int)) s_5.1)), none]) (fun _ s_5 => [(q_6, oL D.int s_5.2), (q_4, oL D.int s_2), (q_3, oL (dT4 D.int D.int D.int D.int) handed_2), (q_1, oL D.int r_5.2)]) (WT.cutS (ΩS := fun st_1 => [(q_6, oL D.int st_1), (q_4, oL D.int s_2), (q_3, oL (dT4 D.int D.int D.int D.int) handed_2), (q_1, oL D.int r_5.2)]) hm (fun _ hm => (Y.t_w (Y.w_and (Y.t_cmp (Y.c_gt (Y.v_var 3 rfl (Y.v_int ⟨fun hb => have hm := (Run.ite hm).1 hb; (Y.w_and1 (Y.t_cmp (Y.c_eqI (Y.e_call (f_law_take g) g.fn__law_take (i := 4) rfl (Y.a_cons (Y.e_var 1 rfl rfl rfl (Y.a_v (enc := D.int) (Y.v_int (Y.a_nil (k1 ((z_1.2, (8 : Int))) 0 rfl ((Run.noexc (Y.step hm (fun r_14 hm => ⟨_, rfl, (Y.v_int ⟨r_14.2, rfl, hm.get⟩)⟩))).mono (fun _ q => q) (fun _ z => z.elim)))))))))))), fun hb => have hm := (Run.ite hm).2 hb; ⟨z_1.2, rfl, hm.get⟩⟩))))))) fun b_1 st_1 hm => ⟨_, _, _, hm, fun hb Φ' hm => ?_, fun hb Φ' hm => ?_, ?_⟩)
        · refine Y.s_cons (Y.s_setL (Ψ := Ψ) (enc := (dL (dT4 D.int D.int D.int D.int))) 9 (Y.n_v (Y.n_sli (Y.l_v (Y.n_v (Y.n_catV (Ψ := Ψ) (Y.v_var 9 rfl (Y.x_v (Y.e_call (f_law_any_spans g) g.fn__law_any_spans (i := 5) rfl (Y.a_cons (Y.e_var 1 rfl rfl rfl (Y.a_v (enc := D.int) (Y.v_var 2 rfl (Y.a_v (enc := D.int) (Y.v_var 3 rfl (Y.a_v (enc := D.int) (Y.v_int (Y.a_nil (k1 ((st_1, length_1, many_1, (6 : Int))) 0 rfl ((Run.noexc (Y.step hm (fun r_15 hm => ?_))).mono (fun _ q => q) (fun _ z => z.elim)))))))))))))))))))))
          refine ⟨_, rfl, (Y.step hm fun lst_1 hm => ?_)⟩
          refine Y.p_none (Y.p_some (Y.v_int ⟨rfl, (Y.step hm fun added_1 hm => ?_)⟩))
          refine Y.s_nil ?_
          exact ⟨(), (added_1, r_15.2), trivial, (.keep (.keep (.keep (.keep (.keep (.keep (.keep (.keep (.none (.keep (.none .nil))))))))))), (.cons₂ _ (.cons₂ _ (.cons₂ _ (.cons₂ _ .slnil)))), hm.get⟩
        · refine Y.s_nil ?_
          exact ⟨(), (z_1.1, st_1), trivial, (.keep (.keep (.keep (.keep (.keep (.keep (.keep (.keep (.none (.keep (.none .nil))))))))))), (.cons₂ _ (.cons₂ _ (.cons₂ _ (.cons₂ _ .slnil)))), hm.get⟩
        · intro s_5 _ _ hm
          refine Y.s_cons (Y.s_ite (Y.t_not (Y.t_val (Y.e_call (f_law_plus_good g) g.fn__law_plus_good (i := 12) rfl (Y.a_v (enc := dNet) (Y.v_var 7 rfl (Y.a_v (enc := (dT3 D.int D.int (dL (dT4 D.int D.int D.int D.int)))) (Y.v_var 5 rfl (Y.a_v (enc := (dL (dT4 D.int D.int D.int D.int))) (Y.v_var 9 rfl (Y.a_nil (k0 ((net_1, first_1, s_5.1)) ((Run.noexc (Y.step hm (fun r_16 hm => ⟨_, rfl, ⟨fun hb => ?_, fun hb => ?_⟩⟩))).mono (fun _ q => q) (fun _ z => z.elim))))))))))))))
          · have hm := (Run.ite hm).1 hb
            exact Y.s_cons (Y.s_ret (WV.asE (enc := D.bl) (Y.v_bl (r0 hm))))
          · have hm := (Run.ite hm).2 hb
            refine Y.s_nil ?_
            refine Y.s_cons (Y.s_set 1 (Y.n_o (enc := D.int) (Y.e_call (f_law_pool g) g.fn__law_pool (i := 11) rfl (Y.a_v (enc := dS) (Y.v_var 0 rfl (Y.a_v (enc := D.int) (Y.v_int (Y.a_nil (k0O ((x, (3 : Int))) ((Run.noexc (Y.step hm (fun r_17 hm => ?_))).mono (fun _ q => q) (fun _ z => z.elim)))))))))))
            refine fun q_10 hq_10 => ⟨q_10, _, _, rfl, hq_10, rfl, fun q_9 hq_9 => ?_⟩
            refine Y.s_cons (Y.s_ite (Y.t_not (Y.t_val (Y.e_call (f_law_without_good g) g.fn__law_without_good (i := 7) rfl (Y.a_v (enc := dNet) (Y.v_var 7 rfl (Y.a_v (enc := (dT3 D.int D.int (dL (dT4 D.int D.int D.int D.int)))) (Y.v_var 5 rfl (Y.a_v (enc := (dL D.int)) (Y.e_call (f_law_numbers g) g.fn__law_numbers (i := 10) rfl (Y.a_cons (Y.e_var 1 rfl rfl rfl (Y.a_v (enc := D.int) (Y.v_len 6 g.len (Y.q_v (Y.v_var 4 rfl (Y.a_nil (k1 ((r_17, ((spans_1.length : Nat) : Int))) 0 rfl ((Run.noexc (Y.step hm (fun r_18 hm => ?_))).mono (fun _ q => q) (fun _ z => z.elim))))))))))))))))))))
            refine ⟨_, rfl, (Y.a_nil (k0 ((net_1, first_1, r_18.1)) (Y.step hm (fun r_19 hm => ⟨_, rfl, ⟨fun hb => ?_, fun hb => ?_⟩⟩) (fun e z => hx e _ _ z (.cons _ (.cons _ (.cons _ (.cons _ (.cons _ .slnil)))))))))⟩
            · have hm := (Run.ite hm).1 hb
              exact Y.s_cons (Y.s_ret (WV.asE (enc := D.bl) (Y.v_bl (r0 hm))))
            · have hm := (Run.ite hm).2 hb
              refine Y.s_nil ?_
              refine Y.s_cons (Y.s_ite (WT.cut hm (fun _ hm => (Y.t_w (Y.w_and (Y.t_cmp (Y.c_neD (Ψ := Ψ) (Y.d_v (Y.v_var 4 rfl (Y.d_v (Y.n_v (Y.n_lst (enc := (dT4 D.int D.int D.int D.int)) [] (Y.a_nil ⟨([] : List ((Int) × (Int) × (Int) × (Int))), rfl, (show 0 ≤ sizeLine from by decide), ⟨rfl, Y.step hm fun eq_1 hm => ⟨fun hb => have hm := (Run.ite hm).1 hb; (Y.w_and1 (Y.t_not (Y.t_val (Y.e_call (f_law_without_good g) g.fn__law_without_good (i := 7) rfl (Y.a_v (enc := dNet) (Y.v_var 7 rfl (Y.a_v (enc := (dT3 D.int D.int (dL (dT4 D.int D.int D.int D.int)))) (Y.v_var 5 rfl (Y.a_v (enc := (dL D.int)) (Y.n_v (Y.n_lst (enc := D.int) [] (Y.a_v (enc := D.int) (Y.v_sub (Y.v_len 6 g.len (Y.q_v (Y.v_var 4 rfl (Y.v_int (Y.a_v (enc := D.int) (Y.v_div (Ψ := Ψ) (Y.v_len 6 g.len (Y.q_v (Y.v_var 4 rfl (Y.v_int (Y.step hm fun n_1 hm => (Y.a_v (enc := D.int) (Y.v_sub (Y.v_len 6 g.len (Y.q_v (Y.v_var 4 rfl (Y.v_int (Y.a_nil ⟨[(((spans_1.length : Nat) : Int) - (1 : Int)), n_1, (((spans_1.length : Nat) : Int) - (1 : Int))], rfl, (show 3 ≤ sizeLine from by decide), (Y.a_nil (k0 ((net_1, first_1, [(((spans_1.length : Nat) : Int) - (1 : Int)), n_1, (((spans_1.length : Nat) : Int) - (1 : Int))])) (Y.step hm (fun r_20 hm => ⟨_, rfl, ⟨rfl, hm.get⟩⟩) (fun e z => hx e _ _ z (.cons _ (.cons _ (.cons _ (.cons _ (.cons _ .slnil)))))))))⟩))))))))))))))))))))))))))))))), fun hb => have hm := (Run.ite hm).2 hb; ⟨rfl, hm.get⟩⟩⟩⟩))))))))))) fun b_2 hm => ⟨fun hb => ?_, fun hb => ?_⟩))
              · have hm := (Run.ite hm).1 hb
                exact Y.s_cons (Y.s_ret (WV.asE (enc := D.bl) (Y.v_bl (r0 hm))))
              · have hm := (Run.ite hm).2 hb
                refine Y.s_nil ?_
                refine Y.s_cons (Y.s_ret (WV.asE (enc := D.bl) (Y.v_and (Y.e_call (f_law_shows g) g.fn__law_shows (i := 9) rfl (Y.a_v (enc := dNet) (Y.v_var 7 rfl (Y.a_v (enc := D.int) (Y.v_var 2 rfl (Y.a_v (enc := D.int) (Y.v_var 3 rfl (Y.a_v (enc := (dL (dT4 D.int D.int D.int D.int))) (Y.v_var 4 rfl (Y.a_nil (k0 ((net_1, length_1, many_1, spans_1)) ((Run.noexc (Y.step hm (fun r_21 hm => ?_))).mono (fun _ q => q) (fun _ z => z.elim))))))))))))))))
                refine ⟨_, rfl, ⟨fun hb => have hm := (Run.ite hm).1 hb; (Y.v_one (Y.e_call (f_law_same g 1) g.fn__law_same (i := 1) rfl (Y.a_v (enc := D.bl) (Y.v_cmp (Y.c_eqO (enc := dNet) (enb := dNet) (f_Net___eq g) g.meth_Net___eq__ (fun _ => ⟨_, rfl⟩) (fun _ => ⟨_, rfl⟩) (Y.v_var 7 rfl (Y.v_make (enc := dNet) (c := "Net") (Y.e_make (f_Net_Net g) g.mk_Net g.cls_Netg (i := 0) rfl (Y.a_v (enc := D.int) (Y.v_var 2 rfl (Y.a_v (enc := D.int) (Y.v_var 3 rfl (Y.a_v (enc := (dL (dT4 D.int D.int D.int D.int))) (Y.n_v (Y.n_list 8 g.list (Y.q_v (Y.v_var 4 rfl (Y.a_nil (kC ((length_1, many_1, spans_1)) (Y.step hm (fun obj_2 hm => ?_) (fun e z => hx e _ _ z (.cons _ (.cons _ (.cons _ (.cons _ (.cons _ .slnil)))))))))))))))))))))))))), fun hb => have hm := (Run.ite hm).2 hb; (r0 hm)⟩⟩
                refine ⟨_, obj_2, rfl, rfl, (Run.noexc (Y.step hm fun eq_2 hm => ?_))⟩
                exact Y.a_v (enc := D.bl) (Y.v_bl (Y.a_nil (k0 (D.bl eq_2, D.bl true) ((Run.noexc (Y.step hm (fun r_22 hm => ⟨_, rfl, (r0 hm)⟩))).mono (fun _ q => q) (fun _ z => z.elim)))))
      · rintro r a Ω' rfl hm
        exact r0 hm
theorem f_law {W : Wd} (g : Fa W) : FnY W 8 (He.ga W.K "law") (spOf W.K s_law) := by
  obtain ⟨fd, F⟩ := g.def_law
  exact FnY.of (N := ["script", "pool", "length", "many", "spans", "first", "handed", "net", "row", "added", "k"]) (ps := ["script"]) F (C8.fnScope_by (by decide +kernel)) (scOk_of (by decide +kernel)) (by rintro x as Ω ⟨rfl, rfl⟩; rfl) (fun _ _ _ _ _ _ us hl => match us, hl with | [_], _ => rfl) (b_law g)
end KK
namespace KK
open PySem PySem.Spec PyProof.Rows L2 Y
def ex0 : List (Fr → Bool) := [
  fun K => He.Fa.ok K (.free "ValueError"),
  fun K => He.Fa.ok K (.free "Exception"),
  fun K => He.Fa.ok K (.free "len"),
  fun K => He.Fa.ok K (.free "abs"),
  fun K => He.Fa.ok K (.free "int"),
  fun K => He.Fa.ok K (.free "list"),
  fun K => He.Fa.ok K (.free "tuple"),
  fun K => He.Fa.ok K (.free "range"),
  fun K => He.Fa.ok K (.free "enumerate"),
  fun K => He.Fa.ok K (.free "set"),
  fun K => He.Fa.ok K (.free "sorted"),
  fun K => He.Fa.ok K (.free "sum"),
  fun K => He.Fa.ok K (.free "any"),
  fun K => He.Fa.ok K (.free "all"),
  fun K => He.Fa.ok K (.free "min")]
def ex1 : List (Fr → Bool) := [
  fun K => He.Fa.ok K (.free "max"),
  fun K => He.Fa.ok K (.free "isinstance"),
  fun K => He.Fa.ok K (.free "bool"),
  fun K => He.Fa.ok K (.free "str"),
  fun K => He.Fa.ok K (.free "zip"),
  fun K => He.Fa.ok K (.free "super"),
  fun K => ["DepotError", "BadRounds", "BadNet", "BadTimes", "BadPath", "UnknownSpan", "UnknownEvent", "BrokenSpan", "TooMany", "ShutRing"].all fun s => decide (PySem.W.exmOne K (.ref (He.ga K (Str.ofString s))) (.ref (He.ga K (Str.ofString "BadNet"))) = some (named_BadNet s)),
  fun K => He.Fa.ok K (.glo (Str.ofString "BadNet")),
  fun K => ["DepotError", "BadRounds", "BadNet", "BadTimes", "BadPath", "UnknownSpan", "UnknownEvent", "BrokenSpan", "TooMany", "ShutRing"].all fun s => decide (PySem.W.exmOne K (.ref (He.ga K (Str.ofString s))) (.ref (He.ga K (Str.ofString "UnknownSpan"))) = some (named_UnknownSpan s)),
  fun K => He.Fa.ok K (.glo (Str.ofString "UnknownSpan")),
  fun K => He.Fa.ok K (.cls (Str.ofString "Net")),
  fun K => He.Fa.ok K (.noat (Str.ofString "Net") (Str.ofString "events")),
  fun K => He.Fa.ok K (.noat (Str.ofString "Net") (Str.ofString "round_length")),
  fun K => He.Fa.ok K (.noat (Str.ofString "Net") (Str.ofString "spans")),
  fun K => He.Fa.ok K (.glo (Str.ofString "Net"))]
def ex2 : List (Fr → Bool) := [
  fun K => He.Fa.ok K (.glo (Str.ofString "BadPath")),
  fun K => He.Fa.ok K (.glo (Str.ofString "BadRounds")),
  fun K => He.Fa.ok K (.glo (Str.ofString "BadTimes")),
  fun K => He.Fa.ok K (.glo (Str.ofString "BrokenSpan")),
  fun K => He.Fa.ok K (.glo (Str.ofString "DepotError")),
  fun K => He.Fa.ok K (.glo (Str.ofString "ShutRing")),
  fun K => He.Fa.ok K (.glo (Str.ofString "TooMany")),
  fun K => He.Fa.ok K (.glo (Str.ofString "UnknownEvent")),
  fun K => plB K (He.ma K (He.ga K (Str.ofString "Net")) "__eq__") "Net.__eq__",
  fun K => plB K (He.ma K (He.ga K (Str.ofString "Net")) "__init__") "Net.__init__",
  fun K => plB K (He.ma K (He.ga K (Str.ofString "Net")) "plus") "Net.plus",
  fun K => plB K (He.ma K (He.ga K (Str.ofString "Net")) "without") "Net.without",
  fun K => plB K (He.ga K "_law_any_spans") "_law_any_spans",
  fun K => plB K (He.ga K "_law_cell") "_law_cell",
  fun K => plB K (He.ga K "_law_count") "_law_count"]
def ex3 : List (Fr → Bool) := [
  fun K => plB K (He.ga K "_law_fault") "_law_fault",
  fun K => plB K (He.ga K "_law_judged") "_law_judged",
  fun K => plB K (He.ga K "_law_length") "_law_length",
  fun K => plB K (He.ga K "_law_many") "_law_many",
  fun K => plB K (He.ga K "_law_near_span") "_law_near_span",
  fun K => plB K (He.ga K "_law_nets_near") "_law_nets_near",
  fun K => plB K (He.ga K "_law_number") "_law_number",
  fun K => plB K (He.ga K "_law_numbers") "_law_numbers",
  fun K => plB K (He.ga K "_law_plus") "_law_plus",
  fun K => plB K (He.ga K "_law_plus_good") "_law_plus_good",
  fun K => plB K (He.ga K "_law_pool") "_law_pool",
  fun K => plB K (He.ga K "_law_same") "_law_same",
  fun K => plB K (He.ga K "_law_shows") "_law_shows",
  fun K => plB K (He.ga K "_law_take") "_law_take",
  fun K => plB K (He.ga K "_law_without") "_law_without"]
def ex4 : List (Fr → Bool) := [
  fun K => plB K (He.ga K "_law_without_good") "_law_without_good",
  fun K => plB K (He.ga K "is_span") "is_span",
  fun K => plB K (He.ga K "is_window") "is_window",
  fun K => plB K (He.ga K "law") "law",
  fun K => ecB K (He.ga K (Str.ofString "BadNet")),
  fun K => ecB K (He.ga K (Str.ofString "UnknownSpan")),
  fun K => decide (PySem.W.kitOne K (.ref (He.ga K (Str.ofString "BadNet"))) (.ref (He.ga K (Str.ofString "BadPath"))) = some false),
  fun K => decide (PySem.W.kitOne K (.ref (He.ga K (Str.ofString "BadNet"))) (.ref (He.ga K (Str.ofString "BadRounds"))) = some false),
  fun K => decide (PySem.W.kitOne K (.ref (He.ga K (Str.ofString "BadNet"))) (.ref (He.ga K (Str.ofString "BadTimes"))) = some false),
  fun K => decide (PySem.W.kitOne K (.ref (He.ga K (Str.ofString "BadNet"))) (.ref (He.ga K (Str.ofString "BrokenSpan"))) = some false),
  fun K => decide (PySem.W.kitOne K (.ref (He.ga K (Str.ofString "BadNet"))) (.ref (He.ga K (Str.ofString "DepotError"))) = some true),
  fun K => decide (PySem.W.kitOne K (.ref (He.ga K (Str.ofString "BadNet"))) (.ref (He.ga K (Str.ofString "ShutRing"))) = some false),
  fun K => decide (PySem.W.kitOne K (.ref (He.ga K (Str.ofString "BadNet"))) (.ref (He.ga K (Str.ofString "TooMany"))) = some false),
  fun K => decide (PySem.W.kitOne K (.ref (He.ga K (Str.ofString "BadNet"))) (.ref (He.ga K (Str.ofString "UnknownEvent"))) = some false),
  fun K => decide (PySem.W.kitOne K (.ref (He.ga K (Str.ofString "BadNet"))) (.ref (He.ga K (Str.ofString "UnknownSpan"))) = some false)]
def ex5 : List (Fr → Bool) := [
  fun K => decide (PySem.W.kitOne K (.ref (He.ga K (Str.ofString "BadNet"))) (.type "ValueError") = some true),
  fun K => decide (PySem.W.kitOne K (.ref (He.ga K (Str.ofString "Net"))) (.ref (He.ga K (Str.ofString "Net"))) = some true),
  fun K => decide (PySem.W.kitOne K (.ref (He.ga K (Str.ofString "UnknownSpan"))) (.ref (He.ga K (Str.ofString "BadNet"))) = some false),
  fun K => decide (PySem.W.kitOne K (.ref (He.ga K (Str.ofString "UnknownSpan"))) (.ref (He.ga K (Str.ofString "DepotError"))) = some true),
  fun K => decide (PySem.W.kitOne K (.ref (He.ga K (Str.ofString "UnknownSpan"))) (.type "ValueError") = some true),
  fun K => xiB PySem.Challenge.pw_depotyear_k06_net_parts_and_refusals K (He.ga K (Str.ofString "BadNet")) "BadNet.__init__" ((defArgs (inClass (top 4) 0)).args.getD 0 default),
  fun K => oexB K (He.ga K (Str.ofString "BadNet")),
  fun K => He.Fa.ok K (.noat (Str.ofString "BadNet") (Str.ofString "part")),
  fun K => He.Fa.ok K (.noat (Str.ofString "BadNet") (Str.ofString "place")),
  fun K => xiB PySem.Challenge.pw_depotyear_k06_net_parts_and_refusals K (He.ga K (Str.ofString "UnknownSpan")) "UnknownSpan.__init__" ((defArgs (inClass (top 7) 0)).args.getD 0 default),
  fun K => oexB K (He.ga K (Str.ofString "UnknownSpan")),
  fun K => He.Fa.ok K (.noat (Str.ofString "UnknownSpan") (Str.ofString "number")),
  fun K => He.Fa.ok K (.glo "_law_any_spans"),
  fun K => He.Fa.ok K (.glo "_law_cell"),
  fun K => He.Fa.ok K (.glo "_law_count")]
def ex6 : List (Fr → Bool) := [
  fun K => He.Fa.ok K (.glo "_law_fault"),
  fun K => He.Fa.ok K (.glo "_law_judged"),
  fun K => He.Fa.ok K (.glo "_law_length"),
  fun K => He.Fa.ok K (.glo "_law_many"),
  fun K => He.Fa.ok K (.glo "_law_near_span"),
  fun K => He.Fa.ok K (.glo "_law_nets_near"),
  fun K => He.Fa.ok K (.glo "_law_number"),
  fun K => He.Fa.ok K (.glo "_law_numbers"),
  fun K => He.Fa.ok K (.glo "_law_plus"),
  fun K => He.Fa.ok K (.glo "_law_plus_good"),
  fun K => He.Fa.ok K (.glo "_law_pool"),
  fun K => He.Fa.ok K (.glo "_law_same"),
  fun K => He.Fa.ok K (.glo "_law_shows"),
  fun K => He.Fa.ok K (.glo "_law_take"),
  fun K => He.Fa.ok K (.glo "_law_without")]
def ex7 : List (Fr → Bool) := [
  fun K => He.Fa.ok K (.glo "_law_without_good"),
  fun K => He.Fa.ok K (.glo "is_span"),
  fun K => He.Fa.ok K (.glo "is_window"),
  fun K => ikB K (He.ga K (Str.ofString "Net")),
  fun K => He.Fa.ok K (.int "LONGEST_ROUND" (60)),
  fun K => He.Fa.ok K (.int "MOST_EVENTS" (12)),
  fun K => He.Fa.ok K (.int "MOST_MINUTES" (999)),
  fun K => He.Fa.ok K (.int "MOST_SPANS" (24)),
  fun K => He.Fa.ok K (.int "SHORTEST_ROUND" (2)),
  fun K => He.Fa.ok K (.meth (Str.ofString "Net") "__eq__"),
  fun K => He.Fa.ok K (.meth (Str.ofString "Net") "plus"),
  fun K => He.Fa.ok K (.meth (Str.ofString "Net") "without"),
  fun K => He.Fa.ok K (.mkr (Str.ofString "Net")),
  fun K => xfB K (He.ga K (Str.ofString "BadNet")),
  fun K => xfB K (He.ga K (Str.ofString "UnknownSpan"))]
def ex8 : List (Fr → Bool) := [
  fun K => He.Fa.ok K (.glo "law")]
def exl : List (Fr → Bool) := ex0 ++ (ex1 ++ (ex2 ++ (ex3 ++ (ex4 ++ (ex5 ++ (ex6 ++ (ex7 ++ (ex8))))))))
def ex (K : Fr) : Bool := exl.all fun f => f K
def fns0 : List DfY := [
  ⟨fun K => (He.ma K (He.ga K (Str.ofString "Net")) "__eq__"), "__eq__", "Net.__eq__", defArgs (inClass (top 20) 1), defBody (inClass (top 20) 1), defScope (inClass (top 20) 1)⟩,
  ⟨fun K => (He.ma K (He.ga K (Str.ofString "Net")) "__init__"), "__init__", "Net.__init__", defArgs (inClass (top 20) 0), defBody (inClass (top 20) 0), defScope (inClass (top 20) 0)⟩,
  ⟨fun K => (He.ma K (He.ga K (Str.ofString "Net")) "plus"), "plus", "Net.plus", defArgs (inClass (top 20) 2), defBody (inClass (top 20) 2), defScope (inClass (top 20) 2)⟩,
  ⟨fun K => (He.ma K (He.ga K (Str.ofString "Net")) "without"), "without", "Net.without", defArgs (inClass (top 20) 3), defBody (inClass (top 20) 3), defScope (inClass (top 20) 3)⟩,
  ⟨fun K => (He.ga K "_law_any_spans"), "_law_any_spans", "_law_any_spans", defArgs (top 29), defBody (top 29), defScope (top 29)⟩,
  ⟨fun K => (He.ga K "_law_cell"), "_law_cell", "_law_cell", defArgs (top 22), defBody (top 22), defScope (top 22)⟩,
  ⟨fun K => (He.ga K "_law_count"), "_law_count", "_law_count", defArgs (top 28), defBody (top 28), defScope (top 28)⟩,
  ⟨fun K => (He.ga K "_law_fault"), "_law_fault", "_law_fault", defArgs (top 30), defBody (top 30), defScope (top 30)⟩,
  ⟨fun K => (He.ga K "_law_judged"), "_law_judged", "_law_judged", defArgs (top 34), defBody (top 34), defScope (top 34)⟩,
  ⟨fun K => (He.ga K "_law_length"), "_law_length", "_law_length", defArgs (top 26), defBody (top 26), defScope (top 26)⟩,
  ⟨fun K => (He.ga K "_law_many"), "_law_many", "_law_many", defArgs (top 27), defBody (top 27), defScope (top 27)⟩,
  ⟨fun K => (He.ga K "_law_near_span"), "_law_near_span", "_law_near_span", defArgs (top 31), defBody (top 31), defScope (top 31)⟩,
  ⟨fun K => (He.ga K "_law_nets_near"), "_law_nets_near", "_law_nets_near", defArgs (top 32), defBody (top 32), defScope (top 32)⟩,
  ⟨fun K => (He.ga K "_law_number"), "_law_number", "_law_number", defArgs (top 37), defBody (top 37), defScope (top 37)⟩,
  ⟨fun K => (He.ga K "_law_numbers"), "_law_numbers", "_law_numbers", defArgs (top 38), defBody (top 38), defScope (top 38)⟩]
def fns1 : List DfY := [
  ⟨fun K => (He.ga K "_law_plus"), "_law_plus", "_law_plus", defArgs (top 35), defBody (top 35), defScope (top 35)⟩,
  ⟨fun K => (He.ga K "_law_plus_good"), "_law_plus_good", "_law_plus_good", defArgs (top 36), defBody (top 36), defScope (top 36)⟩,
  ⟨fun K => (He.ga K "_law_pool"), "_law_pool", "_law_pool", defArgs (top 23), defBody (top 23), defScope (top 23)⟩,
  ⟨fun K => (He.ga K "_law_same"), "_law_same", "_law_same", defArgs (top 25), defBody (top 25), defScope (top 25)⟩,
  ⟨fun K => (He.ga K "_law_shows"), "_law_shows", "_law_shows", defArgs (top 33), defBody (top 33), defScope (top 33)⟩,
  ⟨fun K => (He.ga K "_law_take"), "_law_take", "_law_take", defArgs (top 24), defBody (top 24), defScope (top 24)⟩,
  ⟨fun K => (He.ga K "_law_without"), "_law_without", "_law_without", defArgs (top 39), defBody (top 39), defScope (top 39)⟩,
  ⟨fun K => (He.ga K "_law_without_good"), "_law_without_good", "_law_without_good", defArgs (top 40), defBody (top 40), defScope (top 40)⟩,
  ⟨fun K => (He.ga K "is_span"), "is_span", "is_span", defArgs (top 19), defBody (top 19), defScope (top 19)⟩,
  ⟨fun K => (He.ga K "is_window"), "is_window", "is_window", defArgs (top 18), defBody (top 18), defScope (top 18)⟩,
  ⟨fun K => (He.ga K "law"), "law", "law", defArgs (top 41), defBody (top 41), defScope (top 41)⟩,
  ⟨fun K => (He.ma K (He.ga K (Str.ofString "BadNet")) "__init__"), "__init__", "BadNet.__init__", defArgs (inClass (top 4) 0), defBody (inClass (top 4) 0), defScope (inClass (top 4) 0)⟩,
  ⟨fun K => (He.ma K (He.ga K (Str.ofString "UnknownSpan")) "__init__"), "__init__", "UnknownSpan.__init__", defArgs (inClass (top 7) 0), defBody (inClass (top 7) 0), defScope (inClass (top 7) 0)⟩]
def fns : List DfY := fns0 ++ (fns1)
def names0 : List Str := ["_wall", "__name__", "DepotError", "BadRounds", "BadNet", "BadTimes", "BadPath", "UnknownSpan", "UnknownEvent", "BrokenSpan", "TooMany", "ShutRing", "SHORTEST_ROUND", "LONGEST_ROUND", "MOST_EVENTS"]
def names1 : List Str := ["MOST_SPANS", "MOST_MINUTES", "is_window", "is_span", "Net", "_law_cell", "_law_pool", "_law_take", "_law_same", "_law_length", "_law_many", "_law_count", "_law_any_spans", "_law_fault", "_law_near_span"]
def names2 : List Str := ["_law_nets_near", "_law_shows", "_law_judged", "_law_plus", "_law_plus_good", "_law_number", "_law_numbers", "_law_without", "_law_without_good"]
theorem exc_BadNet {w : World} {K : Fr} {h base : Heap} {mg : Str → Option Value} (X : K.In h) (G : h.Ns mainGlobals mg) (c : SaysY ex fns K) : ExcCls ⟨PySem.Challenge.pw_depotyear_k06_net_parts_and_refusals, w, K, mg, base⟩ "BadNet" 2 parts_BadNet fl_BadNet := by
  have x := xiB_ok (P := PySem.Challenge.pw_depotyear_k06_net_parts_and_refusals) (name := "__init__") (q := "BadNet.__init__") (params := defArgs (inClass (top 4) 0)) (body := defBody (inClass (top 4) 0)) (scope := defScope (inClass (top 4) 0)) (ar := ((defArgs (inClass (top 4) 0)).args.getD 0 default)) (all_at c.bool 80) (all_at c.bool 81) (c.text 26) rfl rfl
  refine ⟨?_, by decide, by decide, ?_⟩
  · obtain ⟨⟨cc, cda, kV, doc, pm, ct, oc, an, od, osl, occ, a1, a2, a3, a4, a5⟩, fi, ty⟩ := x
    exact ⟨He.ma K (He.ga K (Str.ofString "BadNet")) "__init__", cc, cda, ((defArgs (inClass (top 4) 0)).args.getD 0 default), "__init__", "BadNet.__init__", defArgs (inClass (top 4) 0), defBody (inClass (top 4) 0), defScope (inClass (top 4) 0), kV, doc, pm, ct, oc, an, od, osl, ["self", "part", "place"], occ, _, _, _, _, _, _, _, _, _, _, a1, a2,
      ⟨rfl, rfl, rfl, by decide, rfl, by decide +kernel, by decide +kernel, by decide +kernel, rfl, rfl⟩, a3, a4, rfl, rfl, by decide, a5, He.free_ok X G (all_at c.bool 20), rfl, (.con (.fmt 1 rfl (.con (.fmt 2 rfl .nil)))), (.cons 1 rfl (.cons 2 rfl .nil)), fi, ty, ⟨_, fun env => rfl⟩, fun cdv ct us hl => match us, hl with | [_, _, _], _ => rfl⟩
  · intro q hq
    simp only [fl_BadNet, List.mem_cons, List.not_mem_nil, or_false] at hq
    rcases hq with rfl | rfl
    · exact ⟨by decide, He.noat_ok (all_at c.bool 82)⟩
    · exact ⟨by decide, He.noat_ok (all_at c.bool 83)⟩
theorem exc_UnknownSpan {w : World} {K : Fr} {h base : Heap} {mg : Str → Option Value} (X : K.In h) (G : h.Ns mainGlobals mg) (c : SaysY ex fns K) : ExcCls ⟨PySem.Challenge.pw_depotyear_k06_net_parts_and_refusals, w, K, mg, base⟩ "UnknownSpan" 1 parts_UnknownSpan fl_UnknownSpan := by
  have x := xiB_ok (P := PySem.Challenge.pw_depotyear_k06_net_parts_and_refusals) (name := "__init__") (q := "UnknownSpan.__init__") (params := defArgs (inClass (top 7) 0)) (body := defBody (inClass (top 7) 0)) (scope := defScope (inClass (top 7) 0)) (ar := ((defArgs (inClass (top 7) 0)).args.getD 0 default)) (all_at c.bool 84) (all_at c.bool 85) (c.text 27) rfl rfl
  refine ⟨?_, by decide, by decide, ?_⟩
  · obtain ⟨⟨cc, cda, kV, doc, pm, ct, oc, an, od, osl, occ, a1, a2, a3, a4, a5⟩, fi, ty⟩ := x
    exact ⟨He.ma K (He.ga K (Str.ofString "UnknownSpan")) "__init__", cc, cda, ((defArgs (inClass (top 7) 0)).args.getD 0 default), "__init__", "UnknownSpan.__init__", defArgs (inClass (top 7) 0), defBody (inClass (top 7) 0), defScope (inClass (top 7) 0), kV, doc, pm, ct, oc, an, od, osl, ["self", "number"], occ, _, _, _, _, _, _, _, _, _, _, a1, a2,
      ⟨rfl, rfl, rfl, by decide, rfl, by decide +kernel, by decide +kernel, by decide +kernel, rfl, rfl⟩, a3, a4, rfl, rfl, by decide, a5, He.free_ok X G (all_at c.bool 20), rfl, (.con (.fmt 1 rfl .nil)), (.cons 1 rfl .nil), fi, ty, ⟨_, fun env => rfl⟩, fun cdv ct us hl => match us, hl with | [_, _], _ => rfl⟩
  · intro q hq
    simp only [fl_UnknownSpan, List.mem_cons, List.not_mem_nil, or_false] at hq
    rcases hq with rfl
    · exact ⟨by decide, He.noat_ok (all_at c.bool 86)⟩
theorem fa_of {w : World} {K : Fr} {h base : Heap} {mg : Str → Option Value} (X : K.In h) (G : h.Ns mainGlobals mg) (c : SaysY ex fns K) : Fa ⟨PySem.Challenge.pw_depotyear_k06_net_parts_and_refusals, w, K, mg, base⟩ where
  ValueError := He.free_ok X G (all_at c.bool 0)
  Exception := He.free_ok X G (all_at c.bool 1)
  len := He.free_ok X G (all_at c.bool 2)
  abs := He.free_ok X G (all_at c.bool 3)
  int := He.free_ok X G (all_at c.bool 4)
  list := He.free_ok X G (all_at c.bool 5)
  tuple := He.free_ok X G (all_at c.bool 6)
  range := He.free_ok X G (all_at c.bool 7)
  enumerate := He.free_ok X G (all_at c.bool 8)
  set := He.free_ok X G (all_at c.bool 9)
  sorted := He.free_ok X G (all_at c.bool 10)
  sum := He.free_ok X G (all_at c.bool 11)
  any := He.free_ok X G (all_at c.bool 12)
  all := He.free_ok X G (all_at c.bool 13)
  min := He.free_ok X G (all_at c.bool 14)
  max := He.free_ok X G (all_at c.bool 15)
  isinstance := He.free_ok X G (all_at c.bool 16)
  bool := He.free_ok X G (all_at c.bool 17)
  str := He.free_ok X G (all_at c.bool 18)
  zip := He.free_ok X G (all_at c.bool 19)
  super := He.free_ok X G (all_at c.bool 20)
  catch_BadNet := ⟨_, .inl ⟨He.glo_ok X G (all_at c.bool 22), by decide⟩, fun s hs => of_decide_eq_true (List.all_eq_true.mp (all_at c.bool 21) s (List.contains_iff_mem.mp hs))⟩
  catch_UnknownSpan := ⟨_, .inl ⟨He.glo_ok X G (all_at c.bool 24), by decide⟩, fun s hs => of_decide_eq_true (List.all_eq_true.mp (all_at c.bool 23) s (List.contains_iff_mem.mp hs))⟩
  cf_Net_events := ⟨He.cls_ok (all_at c.bool 25), He.noat_ok (all_at c.bool 26)⟩
  cf_Net_round_length := ⟨He.cls_ok (all_at c.bool 25), He.noat_ok (all_at c.bool 27)⟩
  cf_Net_spans := ⟨He.cls_ok (all_at c.bool 25), He.noat_ok (all_at c.bool 28)⟩
  cls_Netg := He.glo_ok X G (all_at c.bool 29)
  cls_Net := He.cls_ok (all_at c.bool 25)
  cls_BadNetg := He.glo_ok X G (all_at c.bool 22)
  cls_BadPathg := He.glo_ok X G (all_at c.bool 30)
  cls_BadRoundsg := He.glo_ok X G (all_at c.bool 31)
  cls_BadTimesg := He.glo_ok X G (all_at c.bool 32)
  cls_BrokenSpang := He.glo_ok X G (all_at c.bool 33)
  cls_DepotErrorg := He.glo_ok X G (all_at c.bool 34)
  cls_ShutRingg := He.glo_ok X G (all_at c.bool 35)
  cls_TooManyg := He.glo_ok X G (all_at c.bool 36)
  cls_UnknownEventg := He.glo_ok X G (all_at c.bool 37)
  cls_UnknownSpang := He.glo_ok X G (all_at c.bool 24)
  def_Net___eq__ := plB_ok (d := ⟨fun K => (He.ma K (He.ga K (Str.ofString "Net")) "__eq__"), "__eq__", "Net.__eq__", defArgs (inClass (top 20) 1), defBody (inClass (top 20) 1), defScope (inClass (top 20) 1)⟩) (c.text 0) (all_at c.bool 38)
  def_Net_init := plB_ok (d := ⟨fun K => (He.ma K (He.ga K (Str.ofString "Net")) "__init__"), "__init__", "Net.__init__", defArgs (inClass (top 20) 0), defBody (inClass (top 20) 0), defScope (inClass (top 20) 0)⟩) (c.text 1) (all_at c.bool 39)
  def_Net_plus := plB_ok (d := ⟨fun K => (He.ma K (He.ga K (Str.ofString "Net")) "plus"), "plus", "Net.plus", defArgs (inClass (top 20) 2), defBody (inClass (top 20) 2), defScope (inClass (top 20) 2)⟩) (c.text 2) (all_at c.bool 40)
  def_Net_without := plB_ok (d := ⟨fun K => (He.ma K (He.ga K (Str.ofString "Net")) "without"), "without", "Net.without", defArgs (inClass (top 20) 3), defBody (inClass (top 20) 3), defScope (inClass (top 20) 3)⟩) (c.text 3) (all_at c.bool 41)
  def__law_any_spans := plB_ok (d := ⟨fun K => (He.ga K "_law_any_spans"), "_law_any_spans", "_law_any_spans", defArgs (top 29), defBody (top 29), defScope (top 29)⟩) (c.text 4) (all_at c.bool 42)
  def__law_cell := plB_ok (d := ⟨fun K => (He.ga K "_law_cell"), "_law_cell", "_law_cell", defArgs (top 22), defBody (top 22), defScope (top 22)⟩) (c.text 5) (all_at c.bool 43)
  def__law_count := plB_ok (d := ⟨fun K => (He.ga K "_law_count"), "_law_count", "_law_count", defArgs (top 28), defBody (top 28), defScope (top 28)⟩) (c.text 6) (all_at c.bool 44)
  def__law_fault := plB_ok (d := ⟨fun K => (He.ga K "_law_fault"), "_law_fault", "_law_fault", defArgs (top 30), defBody (top 30), defScope (top 30)⟩) (c.text 7) (all_at c.bool 45)
  def__law_judged := plB_ok (d := ⟨fun K => (He.ga K "_law_judged"), "_law_judged", "_law_judged", defArgs (top 34), defBody (top 34), defScope (top 34)⟩) (c.text 8) (all_at c.bool 46)
  def__law_length := plB_ok (d := ⟨fun K => (He.ga K "_law_length"), "_law_length", "_law_length", defArgs (top 26), defBody (top 26), defScope (top 26)⟩) (c.text 9) (all_at c.bool 47)
  def__law_many := plB_ok (d := ⟨fun K => (He.ga K "_law_many"), "_law_many", "_law_many", defArgs (top 27), defBody (top 27), defScope (top 27)⟩) (c.text 10) (all_at c.bool 48)
  def__law_near_span := plB_ok (d := ⟨fun K => (He.ga K "_law_near_span"), "_law_near_span", "_law_near_span", defArgs (top 31), defBody (top 31), defScope (top 31)⟩) (c.text 11) (all_at c.bool 49)
  def__law_nets_near := plB_ok (d := ⟨fun K => (He.ga K "_law_nets_near"), "_law_nets_near", "_law_nets_near", defArgs (top 32), defBody (top 32), defScope (top 32)⟩) (c.text 12) (all_at c.bool 50)
  def__law_number := plB_ok (d := ⟨fun K => (He.ga K "_law_number"), "_law_number", "_law_number", defArgs (top 37), defBody (top 37), defScope (top 37)⟩) (c.text 13) (all_at c.bool 51)
  def__law_numbers := plB_ok (d := ⟨fun K => (He.ga K "_law_numbers"), "_law_numbers", "_law_numbers", defArgs (top 38), defBody (top 38), defScope (top 38)⟩) (c.text 14) (all_at c.bool 52)
  def__law_plus := plB_ok (d := ⟨fun K => (He.ga K "_law_plus"), "_law_plus", "_law_plus", defArgs (top 35), defBody (top 35), defScope (top 35)⟩) (c.text 15) (all_at c.bool 53)
  def__law_plus_good := plB_ok (d := ⟨fun K => (He.ga K "_law_plus_good"), "_law_plus_good", "_law_plus_good", defArgs (top 36), defBody (top 36), defScope (top 36)⟩) (c.text 16) (all_at c.bool 54)
  def__law_pool := plB_ok (d := ⟨fun K => (He.ga K "_law_pool"), "_law_pool", "_law_pool", defArgs (top 23), defBody (top 23), defScope (top 23)⟩) (c.text 17) (all_at c.bool 55)
  def__law_same := plB_ok (d := ⟨fun K => (He.ga K "_law_same"), "_law_same", "_law_same", defArgs (top 25), defBody (top 25), defScope (top 25)⟩) (c.text 18) (all_at c.bool 56)
  def__law_shows := plB_ok (d := ⟨fun K => (He.ga K "_law_shows"), "_law_shows", "_law_shows", defArgs (top 33), defBody (top 33), defScope (top 33)⟩) (c.text 19) (all_at c.bool 57)
  def__law_take := plB_ok (d := ⟨fun K => (He.ga K "_law_take"), "_law_take", "_law_take", defArgs (top 24), defBody (top 24), defScope (top 24)⟩) (c.text 20) (all_at c.bool 58)
  def__law_without := plB_ok (d := ⟨fun K => (He.ga K "_law_without"), "_law_without", "_law_without", defArgs (top 39), defBody (top 39), defScope (top 39)⟩) (c.text 21) (all_at c.bool 59)
  def__law_without_good := plB_ok (d := ⟨fun K => (He.ga K "_law_without_good"), "_law_without_good", "_law_without_good", defArgs (top 40), defBody (top 40), defScope (top 40)⟩) (c.text 22) (all_at c.bool 60)
  def_is_span := plB_ok (d := ⟨fun K => (He.ga K "is_span"), "is_span", "is_span", defArgs (top 19), defBody (top 19), defScope (top 19)⟩) (c.text 23) (all_at c.bool 61)
  def_is_window := plB_ok (d := ⟨fun K => (He.ga K "is_window"), "is_window", "is_window", defArgs (top 18), defBody (top 18), defScope (top 18)⟩) (c.text 24) (all_at c.bool 62)
  def_law := plB_ok (d := ⟨fun K => (He.ga K "law"), "law", "law", defArgs (top 41), defBody (top 41), defScope (top 41)⟩) (c.text 25) (all_at c.bool 63)
  ec_BadNet := ecB_ok (all_at c.bool 64)
  ec_UnknownSpan := ecB_ok (all_at c.bool 65)
  ek_BadNet_BadPath := of_decide_eq_true (all_at c.bool 66)
  ek_BadNet_BadRounds := of_decide_eq_true (all_at c.bool 67)
  ek_BadNet_BadTimes := of_decide_eq_true (all_at c.bool 68)
  ek_BadNet_BrokenSpan := of_decide_eq_true (all_at c.bool 69)
  ek_BadNet_DepotError := of_decide_eq_true (all_at c.bool 70)
  ek_BadNet_ShutRing := of_decide_eq_true (all_at c.bool 71)
  ek_BadNet_TooMany := of_decide_eq_true (all_at c.bool 72)
  ek_BadNet_UnknownEvent := of_decide_eq_true (all_at c.bool 73)
  ek_BadNet_UnknownSpan := of_decide_eq_true (all_at c.bool 74)
  ek_BadNet_ValueError := of_decide_eq_true (all_at c.bool 75)
  ek_Net_Net := of_decide_eq_true (all_at c.bool 76)
  ek_UnknownSpan_BadNet := of_decide_eq_true (all_at c.bool 77)
  ek_UnknownSpan_DepotError := of_decide_eq_true (all_at c.bool 78)
  ek_UnknownSpan_ValueError := of_decide_eq_true (all_at c.bool 79)
  exc_BadNet := exc_BadNet X G c
  exc_UnknownSpan := exc_UnknownSpan X G c
  fn__law_any_spans := He.glo_ok X G (all_at c.bool 87)
  fn__law_cell := He.glo_ok X G (all_at c.bool 88)
  fn__law_count := He.glo_ok X G (all_at c.bool 89)
  fn__law_fault := He.glo_ok X G (all_at c.bool 90)
  fn__law_judged := He.glo_ok X G (all_at c.bool 91)
  fn__law_length := He.glo_ok X G (all_at c.bool 92)
  fn__law_many := He.glo_ok X G (all_at c.bool 93)
  fn__law_near_span := He.glo_ok X G (all_at c.bool 94)
  fn__law_nets_near := He.glo_ok X G (all_at c.bool 95)
  fn__law_number := He.glo_ok X G (all_at c.bool 96)
  fn__law_numbers := He.glo_ok X G (all_at c.bool 97)
  fn__law_plus := He.glo_ok X G (all_at c.bool 98)
  fn__law_plus_good := He.glo_ok X G (all_at c.bool 99)
  fn__law_pool := He.glo_ok X G (all_at c.bool 100)
  fn__law_same := He.glo_ok X G (all_at c.bool 101)
  fn__law_shows := He.glo_ok X G (all_at c.bool 102)
  fn__law_take := He.glo_ok X G (all_at c.bool 103)
  fn__law_without := He.glo_ok X G (all_at c.bool 104)
  fn__law_without_good := He.glo_ok X G (all_at c.bool 105)
  fn_is_span := He.glo_ok X G (all_at c.bool 106)
  fn_is_window := He.glo_ok X G (all_at c.bool 107)
  ik_Net := ikB_ok (all_at c.bool 108) (He.cls_ok (all_at c.bool 25))
  int_LONGEST_ROUND := He.int_ok X G (all_at c.bool 109)
  int_MOST_EVENTS := He.int_ok X G (all_at c.bool 110)
  int_MOST_MINUTES := He.int_ok X G (all_at c.bool 111)
  int_MOST_SPANS := He.int_ok X G (all_at c.bool 112)
  int_SHORTEST_ROUND := He.int_ok X G (all_at c.bool 113)
  meth_Net___eq__ := He.meth_ok (all_at c.bool 114)
  meth_Net_plus := He.meth_ok (all_at c.bool 115)
  meth_Net_without := He.meth_ok (all_at c.bool 116)
  mk_Net := He.mkr_ok (all_at c.bool 117)
  xf_BadNet := xfB_ok (all_at c.bool 118)
  xf_UnknownSpan := xfB_ok (all_at c.bool 119)
  xn_BadNet_part := He.noat_ok (all_at c.bool 82)
  xn_BadNet_place := He.noat_ok (all_at c.bool 83)
  xn_UnknownSpan_number := He.noat_ok (all_at c.bool 86)
abbrev hdR : PySem.W.OpenRow := PySem.W.OpenLaw.row PySem.Challenge.rw_depotyear_k06_net_parts_and_refusals
abbrev hdHk : PySem.W.Hook := hookY 5 ex fns
def hdOb (s : PySem.W.SharedT) : AlY := obsYG 5 ex fns (HandSHeadRun.getT s)
theorem hdOb_eq (s : PySem.W.SharedT) : hdOb s = hdHk.obs s.abs := obsYG_eq (HandSHeadRun.getT_eq s)
theorem hdRun (w : World) : HandSHeadRun.RunEq hdR (PySem.W.view hdR.prog [41]) hdHk hdOb 6000 (names0 ++ names1 ++ names2) w := by
  intro os
  kernel_rfl
theorem bin_law {K : Fr} {f : Addr} {fd : FuncData} (F : FunD K "law" "law" (defArgs (top 41)) (defBody (top 41)) (defScope (top 41)) [] [] f fd) : ∀ (s : Shared) (v : Value), BindsTo s fd ⟨[v], []⟩ [("script", v)] := fun s v =>
  FunD.bindsA (ps := ["script"]) F (fun _ _ _ _ _ _ us hl => match us, hl with | [_], _ => rfl) s [v] rfl
theorem holds_of (hm : ∀ ns : List Int, ns.length ≤ 63 → m_law ns = .ok true) : PySem.Challenge.rw_depotyear_k06_net_parts_and_refusals.Holds := by
  w_on; o_law
  refine HandSHeadRun.head_any (r := PySem.W.OpenLaw.row PySem.Challenge.rw_depotyear_k06_net_parts_and_refusals) (q := PySem.W.view (PySem.W.OpenLaw.row PySem.Challenge.rw_depotyear_k06_net_parts_and_refusals).prog [41]) (H := hdHk) (ob := hdOb) (M := 6000) (loose := (names0 ++ names1 ++ names2)) (d := HandSHeadRun.topDef (PySem.W.OpenLaw.row PySem.Challenge.rw_depotyear_k06_net_parts_and_refusals).prog 41) (kwd := []) hdOb_eq
    (by kernel_rfl) (fun s => by kernel_rfl) hdRun (by kernel_rfl) (by kernel_rfl) (by kernel_rfl) (by rfl) (by first | assumption | decide +kernel) (by decide +kernel) ⟨rfl, rfl, rfl, rfl, rfl, by decide +kernel⟩ ?hw ?hc
  case hw => w_witness2
  case hc =>
    refine walk_ofEW (l := PySem.Challenge.rw_depotyear_k06_net_parts_and_refusals) (n := 63) (k := 8) (x := "script") (CX := fun w => L2.CX PySem.Challenge.pw_depotyear_k06_net_parts_and_refusals w) rfl (by decide) (by kernel_rfl) ⟨rfl, by decide, by decide⟩ ?F (fun _ _ _ _ _ z => cx_no z)
    intro w mg fa h Y G hmg0
    obtain ⟨K, KX, c⟩ := Y
    have hmg : mg ("law" : PySem.Str) = some (.ref fa) := by
      have e : (HandSHeadRun.topDef (PySem.W.OpenLaw.row PySem.Challenge.rw_depotyear_k06_net_parts_and_refusals).prog 41).name = ("law" : PySem.Str) := by kernel_rfl
      rw [← e]
      exact hmg0
    have g0 : Fa ⟨PySem.Challenge.pw_depotyear_k06_net_parts_and_refusals, w, K, mg, h⟩ := fa_of KX G c
    obtain ⟨fd, F⟩ := g0.def_law
    have e := hmg.symm.trans (He.glo_ok KX G (all_at c.bool 120))
    cases e
    refine ⟨K, fd, spOf K s_law, KX, bin_law F, fun H a ns hl _ hS => law_sp (Nat.le_trans hl (by decide)) hS (hm ns hl), fun base hb Gb => ?_⟩
    have g : Fa ⟨PySem.Challenge.pw_depotyear_k06_net_parts_and_refusals, w, K, mg, base⟩ := fa_of KX G c
    exact fnOk_of (W := ⟨PySem.Challenge.pw_depotyear_k06_net_parts_and_refusals, w, K, mg, base⟩) (N := ["script", "pool", "length", "many", "spans", "first", "handed", "net", "row", "added", "k"]) (ps := ["script"]) F (C8.fnScope_by (by decide +kernel)) (scOk_of (by decide +kernel)) (by rintro x as Ω ⟨rfl, rfl⟩; rfl) (b_law g)
end KK
/-! C1: what the drawing defs of the laws do. -/
namespace KK
open PySem PySem.Spec PyProof.Rows L2 Y
/-- a pool: three numbers, none negative -/
def PoolOk (p : List Int) : Prop := ∃ c f n : Int, p = [c, f, n] ∧ 0 ≤ c ∧ 0 ≤ n
theorem cell_eq (ns : List Int) (k : Int) (hk : 0 ≤ k) : ∃ c : Int, m_law_cell (ns, k) = .ok c ∧ 0 ≤ c := by
  unfold m_law_cell
  by_cases h : k < ns.length
  · obtain ⟨x, _, e⟩ := idxM_lt hk h
    simp only [decide_eq_true h, cond_true, e, bind_ok]
    refine ⟨_, rfl, ?_⟩
    split <;> omega
  · simp only [decide_eq_false h, cond_false]
    exact ⟨0, rfl, by omega⟩
theorem ok_pool (ns : List Int) (k : Int) (hk : 0 ≤ k) (hk2 : k ≤ 1000) : Ok (m_law_pool (ns, k)) PoolOk := by
  unfold m_law_pool
  obtain ⟨c, e, h⟩ := cell_eq ns k hk
  simp only [e, noexc_ok, bind_ok]
  rw [powM_of (by omega) (by omega)]
  simp only [bind_ok]
  rw [mulM_l (by omega)]
  exact .of ⟨_, _, _, rfl, h, by omega⟩
theorem idx0 {a b c : Int} : idxM [a, b, c] 0 = .ok a := rfl
theorem idx1 {a b c : Int} : idxM [a, b, c] 1 = .ok b := rfl
theorem idx2 {a b c : Int} : idxM [a, b, c] 2 = .ok c := rfl
theorem set0 {a b c x : Int} : setM [a, b, c] 0 x = .ok [x, b, c] := rfl
theorem set2 {a b c x : Int} : setM [a, b, c] 2 x = .ok [a, b, x] := rfl
theorem ok_take {p : List Int} {m : Int} (hp : PoolOk p) (h0 : 0 < m) (h1 : m < 2 ^ 64) : Ok (m_law_take (p, m)) fun r => (0 ≤ r.1 ∧ r.1 < m) ∧ PoolOk r.2 := by
  obtain ⟨c, f, n, rfl, hc, hn⟩ := hp
  unfold m_law_take
  simp only [idx0, idx1, idx2, set2, set0, bind_ok]
  refine Ok.bind (Φ := fun b => b = true → 0 ≤ c) ?_ fun b hb => ?_
  · refine Ok.ite (fun _ => ?_) (fun _ => ?_) <;> exact .of fun _ => hc
  refine Ok.ite (fun _ => ?_) (fun _ => ?_)
  · rw [modM_of h0, divM_of h0 h1]
    simp only [bind_ok]
    exact .of ⟨⟨Int.emod_nonneg _ (by omega), Int.emod_lt_of_pos _ h0⟩, _, _, _, rfl, Int.ediv_nonneg hc (by omega), hn⟩
  · rw [mulM_r (by omega), mulM_r (by omega)]
    simp only [bind_ok]
    rw [modM_of (by omega)]
    simp only [bind_ok]
    have a0 := Int.emod_nonneg ((c + 7) * 48271 + (n + 1) * 69621) (b := 2147483629) (by omega)
    generalize ((c + 7) * 48271 + (n + 1) * 69621) % 2147483629 = a at a0 ⊢
    rw [mulM_r (by omega), mulM_r (by omega)]
    simp only [bind_ok]
    rw [modM_of (by omega)]
    simp only [bind_ok]
    have d0 := Int.emod_nonneg (a * 16807 + (n + 1) * 7919) (b := 2147483587) (by omega)
    have d1 := Int.emod_lt_of_pos (a * 16807 + (n + 1) * 7919) (b := 2147483587) (by omega)
    generalize (a * 16807 + (n + 1) * 7919) % 2147483587 = d at d0 d1 ⊢
    refine Ok.bind (Φ := fun s => PoolOk s.2) ?_ fun s hs => ?_
    · refine Ok.ite (fun _ => ?_) (fun _ => .of ⟨_, _, _, rfl, hc, by omega⟩)
      rw [divM_of (by omega) (by omega), divM_of (by omega) (by omega)]
      simp only [bind_ok]
      rw [mulM_l (by omega)]
      simp only [bind_ok]
      rw [modM_of (by omega)]
      exact .of ⟨_, _, _, rfl, hc, by omega⟩
    · rw [divM_of (by omega) (by omega)]
      simp only [bind_ok]
      rw [modM_of h0]
      exact .of ⟨⟨Int.emod_nonneg _ (by omega), Int.emod_lt_of_pos _ h0⟩, hs⟩
end KK
/-! D2: the drawn net. -/
namespace KK
open PySem PySem.Spec PyProof.Rows L2 Y
abbrev Sp4 := Int × Int × Int × Int
def GoodS (L m : Int) (s : Sp4) : Prop := (0 ≤ s.1 ∧ s.1 < m) ∧ (0 ≤ s.2.1 ∧ s.2.1 < m) ∧ s.1 ≠ s.2.1 ∧ 0 ≤ s.2.2.1 ∧ s.2.2.1 ≤ s.2.2.2 ∧ s.2.2.2 ≤ s.2.2.1 + L - 1 ∧ s.2.2.2 ≤ 999
theorem ok_takeN {p : List Int} {m : Int} (hp : PoolOk p) (h0 : 0 < m) (h1 : m < 2 ^ 64) : Ok (M.noexc (m_law_take (p, m))) fun r => (0 ≤ r.1 ∧ r.1 < m) ∧ PoolOk r.2 := (ok_take hp h0 h1).noexc
theorem ok_length {p : List Int} (hp : PoolOk p) : Ok (m_law_length p) fun r => (2 ≤ r.1 ∧ r.1 ≤ 60) ∧ PoolOk r.2 := by
  unfold m_law_length
  refine (ok_takeN hp (by omega) (by omega)).bind fun r ⟨h, hq⟩ => ?_
  refine Ok.ite (fun _ => ?_) (fun _ => ?_)
  · refine (ok_takeN hq (by omega) (by omega)).bind fun r2 ⟨h2, hq2⟩ => .of ⟨by dsimp only; omega, hq2⟩
  · refine (ok_takeN hq (by omega) (by omega)).bind fun r2 ⟨h2, hq2⟩ => ?_
    obtain ⟨x, e, ei⟩ := idxM_lt (xs := [(2 : Int), 3, 5, 10, 24, 60]) h2.1 h2.2
    rw [ei, bind_ok]
    have hx : x ∈ [(2 : Int), 3, 5, 10, 24, 60] := List.mem_of_getElem? e
    simp only [List.mem_cons, List.not_mem_nil, or_false] at hx
    exact .of ⟨by dsimp only; omega, hq2⟩
theorem ok_many {p : List Int} (hp : PoolOk p) : Ok (m_law_many p) fun r => (0 ≤ r.1 ∧ r.1 ≤ 12) ∧ PoolOk r.2 := by
  unfold m_law_many
  refine (ok_takeN hp (by omega) (by omega)).bind fun r ⟨h, hq⟩ => ?_
  rw [bind_ok]
  refine Ok.ite (fun _ => ?_) (fun _ => Ok.ite (fun _ => ?_) (fun _ => ?_))
  · exact (ok_takeN hq (by omega) (by omega)).bind fun r2 ⟨h2, hq2⟩ => .of ⟨by dsimp only; omega, hq2⟩
  · exact (ok_takeN hq (by omega) (by omega)).bind fun r2 ⟨h2, hq2⟩ => .of ⟨by dsimp only; omega, hq2⟩
  · exact (ok_takeN hq (by omega) (by omega)).bind fun r2 ⟨h2, hq2⟩ => .of ⟨by dsimp only; omega, hq2⟩
theorem ok_count {p : List Int} {m : Int} (hp : PoolOk p) : Ok (m_law_count (p, m)) fun r => (0 ≤ r.1 ∧ r.1 ≤ 24 ∧ (m < 2 → r.1 = 0)) ∧ PoolOk r.2 := by
  unfold m_law_count
  refine Ok.ite (fun _ => .of ⟨by dsimp only; omega, hp⟩) (fun hm => ?_)
  have hm := of_decide_eq_false hm
  dsimp only at hm
  refine (ok_takeN hp (by omega) (by omega)).bind fun r ⟨h, hq⟩ => ?_
  refine Ok.ite (fun _ => ?_) (fun _ => ?_)
  · exact (ok_takeN hq (by omega) (by omega)).bind fun r2 ⟨h2, hq2⟩ => .of ⟨by dsimp only; omega, hq2⟩
  · exact (ok_takeN hq (by omega) (by omega)).bind fun r2 ⟨h2, hq2⟩ => .of ⟨by dsimp only; omega, hq2⟩
theorem ok_any {p : List Int} {L m c : Int} (hp : PoolOk p) (hL : 2 ≤ L ∧ L ≤ 60) (hm : 0 ≤ m ∧ m ≤ 12) (hc : 0 ≤ c ∧ c ≤ 24 ∧ (m < 2 → c = 0)) :
    Ok (m_law_any_spans (p, L, m, c)) fun r => (r.1.length = c.toNat ∧ ∀ s ∈ r.1, GoodS L m s) ∧ PoolOk r.2 := by
  unfold m_law_any_spans
  dsimp only
  rw [rngM_of (by omega), bind_ok]
  refine (Ok.fold (fun i s => PoolOk s.1 ∧ s.2.length = i ∧ ∀ s' ∈ s.2, GoodS L m s') (xs := rng 0 c) 0 ⟨hp, rfl, fun _ h => absurd h List.not_mem_nil⟩ ?h).bind fun s ⟨h1, h2, h3⟩ => .of ⟨⟨by rw [h2, rng_length]; omega, h3⟩, h1⟩
  · intro i k s e ⟨h1, h2, h3⟩
    obtain ⟨e1, e2, e3⟩ := rng_get e
    have m2 : 2 ≤ m := by
      rcases Int.lt_or_le m 2 with q | q
      · have := hc.2.2 q
        omega
      · exact q
    rw [Nat.zero_add] at h2
    refine (ok_takeN h1 (by omega) (by omega)).bind fun r1 ⟨a1, q1⟩ => ?_
    rw [bind_ok]
    refine (ok_takeN q1 (by omega) (by omega)).bind fun r2 ⟨a2, q2⟩ => ?_
    rw [modM_of (by omega), bind_ok, bind_ok]
    skip
    have b0 := Int.emod_nonneg (r1.1 + 1 + r2.1) (b := m) (by omega)
    have b1 := Int.emod_lt_of_pos (r1.1 + 1 + r2.1) (b := m) (by omega)
    have bne : r1.1 ≠ (r1.1 + 1 + r2.1) % m := by
      rcases Int.lt_or_le (r1.1 + 1 + r2.1) m with q | q
      · rw [Int.emod_eq_of_lt (by omega) q]; omega
      · rw [← Int.sub_emod_right, Int.emod_eq_of_lt (by omega) (by omega)]; omega
    generalize (r1.1 + 1 + r2.1) % m = b at b0 b1 bne ⊢
    rw [mulM_r (by omega), bind_ok, bind_ok]
    refine (ok_takeN q2 (by omega) (by omega)).bind fun r3 ⟨a3, q3⟩ => ?_
    refine Ok.bind (Φ := fun s => (0 < s.1 ∧ s.1 ≤ 1000) ∧ PoolOk s.2) ?_ fun s3 ⟨h4, q4⟩ => ?_
    · refine Ok.ite (fun _ => ?_) (fun _ => .of ⟨by dsimp only; omega, q3⟩)
      rw [bind_ok]
      exact .of ⟨by dsimp only; omega, q3⟩
    refine (ok_takeN q4 h4.1 (by omega)).bind fun r4 ⟨a4, q4⟩ => ?_
    rw [bind_ok]
    refine (ok_takeN q4 (by omega) (by omega)).bind fun r5 ⟨a5, q5⟩ => ?_
    have hi : i < 24 := by omega
    rw [appM_of (by omega), bind_ok]
    have good : ∀ s' ∈ s.2 ++ [(r1.1, b, r4.1, r4.1 + r5.1)], GoodS L m s' := fun s' h => by
      rcases List.mem_append.mp h with h | h
      · exact h3 s' h
      · cases List.mem_singleton.mp h
        exact ⟨a1, ⟨b0, b1⟩, bne, a4.1, by dsimp only; omega, by dsimp only; omega, by dsimp only; omega⟩
    refine (ok_takeN q5 (by omega) (by omega)).bind fun r6 ⟨a6, q6⟩ => ?_
    refine Ok.bind (Φ := fun s => PoolOk s.1 ∧ s.2.length = i + 1 ∧ ∀ s' ∈ s.2, GoodS L m s') ?_ fun s4 h => .of (by rw [Nat.zero_add]; exact h)
    refine Ok.ite (fun _ => ?_) (fun _ => .of ⟨q6, by simp [h2], good⟩)
    refine (ok_takeN q6 (by omega) (by omega)).bind fun r7 ⟨a7, q7⟩ => ?_
    obtain ⟨x, ex, ei⟩ := idxM_lt (xs := s.2 ++ [(r1.1, b, r4.1, r4.1 + r5.1)]) (i := r7.1) (by omega) (by simp [h2]; omega)
    rw [ei, bind_ok, setM_of (by omega) (by simp [h2]; omega), bind_ok]
    refine .of ⟨q7, by simp [h2], fun s' h => ?_⟩
    rcases List.mem_or_eq_of_mem_set h with h | h
    · exact good s' h
    · subst h
      exact good _ (List.mem_of_getElem? ex)
end KK
/-! D3: the first fault of a net's parts; the net made of them. -/
namespace KK
open PySem PySem.Spec PyProof.Rows L2 Y
instance (L m : Int) (s : Sp4) : Decidable (GoodS L m s) := by unfold GoodS; infer_instance
def spanG (L m : Int) (i : Nat) (s : Sp4) : Option (Str × Int) := if GoodS L m s then none else some (Str.ofString "span", (i : Int))
def fault (L m : Int) (ss : List Sp4) : Option (Str × Int) :=
  if L < 2 ∨ 60 < L then some (Str.ofString "round", 0)
  else if m < 0 ∨ 12 < m then some (Str.ofString "events", 0)
  else if 24 < (ss.length : Int) then some (Str.ofString "spans", 0)
  else firstG (spanG L m) 0 ss
theorem firstG_map {α ρ τ : Type} (g : Nat → α → Option ρ) (h : ρ → τ) : ∀ (xs : List α) (i : Nat), firstG (fun i x => (g i x).map h) i xs = (firstG g i xs).map h
  | [], i => rfl
  | x :: xs, i => by
    simp only [firstG]
    cases g i x with
    | none => exact firstG_map g h xs (i + 1)
    | some r => rfl
theorem firstG_none {α ρ : Type} {g : Nat → α → Option ρ} : ∀ {xs : List α} {i : Nat}, (∀ x ∈ xs, ∀ i, g i x = none) → firstG g i xs = none
  | [], i, _ => rfl
  | x :: xs, i, h => by
    simp only [firstG]
    rw [h x List.mem_cons_self i]
    exact firstG_none fun y hy => h y (List.mem_cons_of_mem _ hy)
theorem is_span_eq (L m : Int) (s : Sp4) : m_is_span (L, m, s) = .ok (decide (GoodS L m s)) := by
  obtain ⟨a, b, c, d⟩ := s
  unfold m_is_span m_is_window
  dsimp only
  rw [show (!decide ((4 : Int) = 4)) = false from by decide, cond_false, bind_ok]
  simp only [Bool.cond_eq_ite]
  split
  · rename_i h
    simp at h
    congr 1
    symm
    rw [decide_eq_false_iff_not]
    unfold GoodS
    dsimp only
    omega
  · rename_i h
    simp at h
    split
    · rename_i h2
      simp at h2
      rw [noexc_ok, bind_ok]
      congr 1
      rw [decide_eq_decide]
      unfold GoodS
      dsimp only
      omega
    · rename_i h2
      simp at h2
      rw [noexc_ok, bind_ok]
      congr 1
      symm
      rw [decide_eq_false_iff_not]
      unfold GoodS
      dsimp only
      omega
theorem fault_eq {L m : Int} {ss : List Sp4} (h : ss.length ≤ 1000000) : m_law_fault (L, m, ss) = .ok (fault L m ss) := by
  unfold m_law_fault fault
  dsimp only
  by_cases h1 : L < 2 ∨ 60 < L
  · rw [if_pos h1, show (decide (L < 2) || decide (60 < L)) = true from by simp; omega, cond_true]
  rw [if_neg h1, show (decide (L < 2) || decide (60 < L)) = false from by simp; omega, cond_false]
  by_cases h2 : m < 0 ∨ 12 < m
  · rw [if_pos h2, show (decide (m < 0) || decide (12 < m)) = true from by simp; omega, cond_true]
  rw [if_neg h2, show (decide (m < 0) || decide (12 < m)) = false from by simp; omega, cond_false]
  by_cases h3 : 24 < (ss.length : Int)
  · rw [if_pos h3, decide_eq_true h3, cond_true]
  rw [if_neg h3, decide_eq_false h3, cond_false, rngM_of (by omega), bind_ok]
  rw [forM_first (g := fun i s => (spanG L m i s).map some) ?hf, firstG_map]
  · cases firstG (spanG L m) 0 ss <;> rfl
  case hf =>
    intro i s e
    obtain ⟨a, b, c, d⟩ := s
    rw [idxM_nat e, bind_ok, bind_ok]
    unfold spanG
    simp only [Bool.cond_eq_ite]
    split
    · rename_i g
      simp only [Bool.or_eq_true, decide_eq_true_eq] at g
      rw [if_neg]
      · rfl
      · unfold GoodS
        dsimp only
        omega
    · rename_i g
      simp only [Bool.or_eq_true, decide_eq_true_eq] at g
      split
      · rename_i g2
        simp only [Bool.or_eq_true, decide_eq_true_eq] at g2
        rw [if_neg]
        · rfl
        · unfold GoodS
          dsimp only
          omega
      · rename_i g2
        simp only [Bool.or_eq_true, decide_eq_true_eq] at g2
        rw [if_pos]
        · rfl
        · unfold GoodS
          dsimp only
          omega
def badNet (q : Str × Int) : Exc := ⟨"BadNet", fldD [D.str q.1, D.int q.2] fl_BadNet []⟩
theorem badnet_text {p : String} {i : Int} (h : i.natAbs < 10 ^ 12) (hp : p ∈ ["round", "events", "spans", "span"]) : fmtB [D.str (Str.ofString p), D.int i] parts_BadNet Str.empty = true := by
  refine fmtB_of ?_ ?_
  · simp only [fmtS, parts_BadNet, List.getElem?_cons_zero, List.getElem?_cons_succ, Bool.and_eq_true, decide_eq_true_eq, Bool.and_true]
    refine ⟨by decide +kernel, ?_, by decide +kernel, Nat.lt_of_lt_of_le h (Nat.pow_le_pow_right (by decide) (by decide))⟩
    simp only [List.mem_cons, List.not_mem_nil, or_false] at hp
    rcases hp with rfl | rfl | rfl | rfl <;> decide +kernel
  · decide +kernel
theorem net_eq {L m : Int} {ss : List Sp4} (h : ss.length ≤ 1000000) : m_Net_Net (L, m, ss) = match fault L m ss with | none => .ok ⟨L, m, ss⟩ | some q => .exc (badNet q) := by
  unfold m_Net_Net fault
  dsimp only
  by_cases h1 : L < 2 ∨ 60 < L
  · rw [if_pos h1, show (!((decide ((2 : Int) ≤ L) && decide (L ≤ (60 : Int))))) = true from by simp; omega, cond_true, chk_of (badnet_text (by decide) (by decide))]
    rfl
  rw [if_neg h1, show (!((decide ((2 : Int) ≤ L) && decide (L ≤ (60 : Int))))) = false from by simp; omega, cond_false]
  by_cases h2 : m < 0 ∨ 12 < m
  · rw [if_pos h2, show (!((decide ((0 : Int) ≤ m) && decide (m ≤ (12 : Int))))) = true from by simp; omega, cond_true, chk_of (badnet_text (by decide) (by decide))]
    rfl
  rw [if_neg h2, show (!((decide ((0 : Int) ≤ m) && decide (m ≤ (12 : Int))))) = false from by simp; omega, cond_false]
  by_cases h3 : 24 < (ss.length : Int)
  · rw [if_pos h3, decide_eq_true h3, cond_true, chk_of (badnet_text (by decide) (by decide))]
    rfl
  rw [if_neg h3, decide_eq_false h3, cond_false]
  rw [fold_first (g := fun i s => (spanG L m i s).map badNet) ?hf, firstG_map]
  · cases firstG (spanG L m) 0 ss with
    | none =>
      simp only [Option.map_none]
      rw [bind_ok, mapM_eq (g := fun x => x) (fun x _ => rfl), bind_ok, List.map_id']
    | some q =>
      rfl
  case hf =>
    intro i s e
    have hi : i < ss.length := (List.getElem?_eq_some_iff.mp e).1
    rw [is_span_eq, noexc_ok, bind_ok]
    unfold spanG
    by_cases g : GoodS L m s
    · rw [if_pos g, decide_eq_true g]
      rfl
    · rw [if_neg g, decide_eq_false g, Bool.not_false, cond_true, chk_of (badnet_text (by omega) (by decide))]
      rfl
theorem fault_good {L m : Int} {ss : List Sp4} (hL : 2 ≤ L ∧ L ≤ 60) (hm : 0 ≤ m ∧ m ≤ 12) (h : ss.length ≤ 24) (hs : ∀ s ∈ ss, GoodS L m s) : fault L m ss = none := by
  unfold fault
  rw [if_neg (by omega), if_neg (by omega), if_neg (by omega)]
  exact firstG_none fun s h i => by unfold spanG; rw [if_pos (hs s h)]
end KK
set_option synthInstance.maxSize 2000
/-! D4: nets shown, compared, judged. -/
namespace KK
open PySem PySem.Spec PyProof.Rows L2 Y
abbrev eSp : List Sp4 → D := dL (dT4 D.int D.int D.int D.int)
theorem e4 : EqE (dT4 D.int D.int D.int D.int) (fun _ : Sp4 => True ∧ True ∧ True ∧ True) 1 := eqE_4 eqE_int eqE_int eqE_int eqE_int
theorem sps_ok (ss : List Sp4) : ∀ x ∈ ss, (fun x : Sp4 => True ∧ True ∧ True ∧ True) x := fun _ _ => ⟨trivial, trivial, trivial, trivial⟩
theorem shows_self {L m : Int} {ss : List Sp4} (h : ss.length ≤ 1000000) : m_law_shows (⟨L, m, ss⟩, L, m, ss) = .ok true := by
  refine Ok.get ?_
  unfold m_law_shows
  dsimp only
  refine Ok.bind (Φ := (· = false)) ?_ ?_
  · refine .bsameF ?_
    rw [decide_eq_true rfl]
    refine .cF rfl (.bsameF ?_)
    rw [decide_eq_true rfl]
    exact .of rfl
  · rintro b rfl
    refine .cF rfl (.bsame ?_ (okS_uF (okLen_small h)) (okS_uF (okLen_small h)))
    exact .of (decide_eq_true rfl)
theorem neteq_eq (a b : Net) : m_Net___eq (a, b) = .ok (decide ((a.round_length, a.events, a.spans) = (b.round_length, b.events, b.spans))) := by
  obtain ⟨L, m, ss⟩ := a
  obtain ⟨L', m', ss'⟩ := b
  unfold m_Net___eq
  dsimp only
  rw [cond_true]
  by_cases h1 : L = L'
  · rw [decide_eq_true h1, cond_true]
    by_cases h2 : m = m'
    · rw [decide_eq_true h2, cond_true, eqD_of (eqE_U e4) (by decide) (sps_ok ss) (sps_ok ss'), bind_ok]
      subst h1 h2
      congr 1
      simp
    · rw [decide_eq_false h2, cond_false]
      congr 1
      symm
      simp [h2]
  · rw [decide_eq_false h1, cond_false]
    congr 1
    symm
    simp [h1]
theorem known_badnet : known_ "BadNet" = true := by decide +kernel
theorem named_badnet : named_BadNet "BadNet" = true := by decide +kernel
theorem catch_exc {α : Type} {e : Exc} {known named : String → Bool} {h : Exc → M α} (h1 : known e.cls = true) (h2 : named e.cls = true) : catchM (.exc e) known named h = h e := by
  unfold catchM
  dsimp only
  rw [h1, h2, chk_true, cond_true]
theorem catch_ok {α : Type} {a : α} {known named : String → Bool} {h : Exc → M α} : catchM (.ok a) known named h = .ok a := rfl
theorem part_of (q : Str × Int) : getS (badNet q) "part" = .ok q.1 := rfl
theorem place_of (q : Str × Int) : getI (badNet q) "place" = .ok q.2 := rfl
theorem bind_exc {α β : Type} {e : Exc} {k : α → M β} : M.bind (.exc e) k = .exc e := rfl
theorem judged_ok {A B L m : Int} {S ss : List Sp4} (h : ss.length ≤ 1000000) : m_law_judged (⟨A, B, S⟩, (A, B, S), (L, m, ss)) = .ok true := by
  refine Ok.get ?_
  unfold m_law_judged
  dsimp only
  refine .bnq (fault_eq h) (.b1 (.b1 (.b1 (.b1 ?_))))
  rw [net_eq h]
  cases e : fault L m ss with
  | some q =>
    dsimp only
    rw [bind_exc, catch_exc known_badnet named_badnet]
    refine Ok.bind (Φ := (· = (some (q.1, q.2, true, true, false), none))) ?_ ?_
    · refine .b1 (.cF rfl (.b1 ?_))
      rw [part_of, place_of]
      exact .b1 (.b1 (.b1 (.of rfl)))
    · rintro _ rfl
      refine .bsame ?_ (okS_lF (okLen_small h)) (okS_lF (okLen_small h))
      rw [decide_eq_true rfl]
      refine .cF rfl (.cT rfl (.opt (.cT rfl (.b1 ?_))))
      have z : M.noexc (mSame 2 ((dO (dT5 D.str D.int D.bl D.bl D.bl)) (some (q.1, q.2, true, true, false)), (dT5 D.str D.int D.bl D.bl D.bl) (q.1, q.2, true, true, false))) = .ok true := by
        rw [show (dO (dT5 D.str D.int D.bl D.bl D.bl)) (some (q.1, q.2, true, true, false)) = (dT5 D.str D.int D.bl D.bl D.bl) (q.1, q.2, true, true, false) from rfl, same_flat, decide_eq_true rfl]
      exact .bq z (.of rfl)
  | none =>
    dsimp only
    rw [bind_ok, bind_ok, catch_ok]
    refine .b1 (.bsame ?_ (okS_lF (okLen_small h)) (okS_lF (okLen_small h)))
    rw [decide_eq_true rfl]
    refine .cF rfl (.cF rfl ?_)
    refine Ok.bind (Φ := (· = false)) (.cF rfl (.cF rfl (.bnq (shows_self h) (.of rfl)))) ?_
    rintro _ rfl
    refine .cF rfl (.bnq (neteq_eq _ _) (.beqd (eqE_3 eqE_int eqE_int (eqE_L e4)) ?_ ⟨trivial, trivial, sps_ok S⟩ ⟨trivial, trivial, sps_ok ss⟩))
    refine .bsameF ?_
    rw [decide_eq_true rfl]
    refine .cT rfl (.bnq (neteq_eq _ _) (.beqd (eqE_3 eqE_int eqE_int (eqE_L e4)) ?_ ⟨trivial, trivial, sps_ok S⟩ ⟨trivial, trivial, sps_ok ss⟩))
    refine .bsameF (.of ?_)
    dsimp only
    rw [decide_eq_true_iff, decide_eq_decide]
    exact eq_comm
end KK
set_option synthInstance.maxSize 2000
/-! D5: the drawn spans and nets near the good ones. -/
namespace KK
open PySem PySem.Spec PyProof.Rows L2 Y
theorem ok_near {p : List Int} {L m : Int} (hp : PoolOk p) (hL : 2 ≤ L ∧ L ≤ 60) (hm : 0 ≤ m ∧ m ≤ 12) : Ok (m_law_near_span (p, L, m)) fun r => PoolOk r.2 := by
  unfold m_law_near_span
  dsimp only
  have hr : 2 ≤ max m 2 ∧ max m 2 ≤ 12 := by omega
  generalize max m 2 = room at hr ⊢
  refine .b1 ((ok_takeN hp (by omega) (by omega)).bind fun r1 ⟨a1, q1⟩ => .b1 ?_)
  refine (ok_takeN q1 (by omega) (by omega)).bind fun r2 ⟨a2, q2⟩ => .bmod (.b1 ?_)
  refine (ok_takeN q2 (by omega) (by omega)).bind fun r3 ⟨a3, q3⟩ => .b1 (.bpow ?_)
  refine (ok_takeN q3 (by omega) (by omega)).bind fun r4 ⟨a4, q4⟩ => .bidx ?_ a4.1 a4.2
  intro far _
  refine .b1 ?_
  iterate 5 refine .b1 (.bcat ?_)
  refine .b1 ?_
  refine (ok_takeN q4 (by omega) (by omega)).bind fun r5 ⟨a5, q5⟩ => .b1 ?_
  refine Ok.bind (Φ := fun b => PoolOk b.2) ?_ fun b hb => ?_
  · refine Ok.ite (fun _ => ?_) (fun _ => .of q5)
    exact (ok_takeN q5 (by omega) (by omega)).bind fun r6 ⟨a6, q6⟩ => .of q6
  refine Ok.ite (fun _ => ?_) (fun _ => ?_)
  · refine .brng (.chk (okLen_small (by rw [rng_length]; omega)) ?_)
    refine (Ok.mapS (f := fun (it_1 : Int) (s_1 : (List (Int))) =>
      M.bind (powM ((10 : Int)) ((9 : Int))) fun n_3 =>
      M.bind (mulM ((2 : Int)) n_3) fun n_4 =>
      M.bind (M.noexc (m_law_take ((s_1, (n_4 + (1 : Int)))))) fun r_7 =>
      M.bind (powM ((10 : Int)) ((9 : Int))) fun n_5 =>
      .ok ((r_7.1 - n_5), r_7.2)) PoolOk (fun _ => True) hb ?_).bind fun z ⟨⟨ez, _⟩, hz⟩ => ?_
    · intro x _ s hs
      refine .bpow (.bmull ?_)
      refine (ok_takeN hs (by decide) (by decide)).bind fun r7 ⟨_, q7⟩ => .bpow (.of ⟨trivial, q7⟩)
    · rw [rng_length] at ez
      exact .bidx (fun _ _ => .bidx (fun _ _ => .bidx (fun _ _ => .bidx (fun _ _ => .of hz))))
  · exact .bidx (fun _ _ => .of hb) a5.1 (by simp; omega)
theorem ok_nets_near {p : List Int} {L m : Int} {ss : List Sp4} (hp : PoolOk p) (hL : 2 ≤ L ∧ L ≤ 60) (hm : 0 ≤ m ∧ m ≤ 12) (hs : ss.length ≤ 24) : Ok (m_law_nets_near (p, L, m, ss)) fun r => (∀ row ∈ r.1, row.2.2.length ≤ 1000) ∧ PoolOk r.2 := by
  unfold m_law_nets_near
  dsimp only
  refine (ok_takeN hp (by omega) (by omega)).bind fun r1 ⟨a1, q1⟩ => .b1 ?_
  refine (ok_near q1 hL hm).noexc.bind fun r2 q2 => ?_
  rw [cut_hi a1.1, cut_lo a1.1]
  refine .bcat ?_
  refine .bcat (.b1 ?_)
  obtain ⟨near, hn⟩ : ∃ near, near = ss.take r1.1.toNat ++ [r2.1] ++ ss.drop r1.1.toNat := ⟨_, rfl⟩
  rw [← hn]
  have ln : near.length = ss.length + 1 := by
    rw [hn]
    simp
    omega
  refine (ok_takeN q2 (by omega) (by omega)).bind fun r3 ⟨a3, q3⟩ => ?_
  refine Ok.bind (Φ := fun s => s.2.1.length ≤ 100 ∧ PoolOk s.2.2) ?_ fun s ⟨h1, h2⟩ => ?_
  · refine Ok.ite (fun _ => ?_) (fun _ => .of ⟨by dsimp only; omega, q3⟩)
    refine (ok_takeN q3 (by omega) (by omega)).bind fun r4 ⟨a4, q4⟩ => .b1 ?_
    refine (ok_near q4 hL hm).noexc.bind fun r5 q5 => ?_
    rw [cut_hi (by omega), cut_lo (by omega)]
    refine .bcat ?_
    exact .bcat (.b1 (.of ⟨by simp; omega, q5⟩))
  refine (ok_takeN h2 (by omega) (by omega)).bind fun r6 ⟨a6, q6⟩ => .bpow (.bpow (.b1 ?_))
  refine (ok_takeN q6 (by omega) (by omega)).bind fun r7 ⟨a7, q7⟩ => .bidx (fun ln _ => .b1 ?_) a7.1 a7.2
  refine (ok_takeN q7 (by omega) (by omega)).bind fun r8 ⟨a8, q8⟩ => .bpow (.bpow (.b1 ?_))
  refine (ok_takeN q8 (by omega) (by omega)).bind fun r9 ⟨a9, q9⟩ => .bidx (fun mn _ => .b1 (.b1 ?_)) a9.1 a9.2
  have e24 : (24 : Int) - (ss.length : Int) = ((24 - ss.length : Nat) : Int) := by omega
  rw [e24]
  refine .brep ?_
  refine .bcat (.b1 (.b1 ?_))
  refine .bcat ?_
  refine .bcat (.b1 ?_)
  refine .bcat ?_
  refine .bcat (.of ⟨?_, q9⟩)
  intro row h
  have c3 : (cutL ss (some 1) none).length ≤ ss.length := by rw [cut_lo (by omega)]; simp
  simp only [List.mem_append, List.mem_cons, List.not_mem_nil, or_false] at h
  rcases h with (h | h) | h
  · rcases h with rfl | rfl | rfl | rfl <;> dsimp only <;> omega
  · rcases h with rfl | rfl | rfl <;> dsimp only <;> simp <;> omega
  · rcases h with rfl | rfl | rfl <;> dsimp only <;> simp <;> omega
end KK
set_option synthInstance.maxSize 2000
/-! D6: spans added. -/
namespace KK
open PySem PySem.Spec PyProof.Rows L2 Y
def netOr (L m : Int) (ss : List Sp4) : M Net := match fault L m ss with | none => .ok ⟨L, m, ss⟩ | some q => .exc (badNet q)
theorem bind_same {α : Type} (m : M α) : (M.bind m fun a => .ok a) = m := by cases m <;> rfl
theorem plus_eq {L m : Int} {ss ad : List Sp4} (h : ss.length + ad.length ≤ 1000000) : m_Net_plus (⟨L, m, ss⟩, ad) = netOr L m (ss ++ ad) := by
  unfold m_Net_plus lenM
  dsimp only
  rw [List.append_nil, chk_of (okLen_small (by simp; omega)), bind_ok, bind_same, net_eq (by simp; omega)]
  rfl
theorem law_plus_eq {L m : Int} {ss ad : List Sp4} (h : ss.length ≤ 1000) (ha : ad.length ≤ 2 ∨ ad.length = 6) : m_law_plus (⟨L, m, ss⟩, ad) = netOr L m (ss ++ ad) := by
  unfold m_law_plus
  dsimp only
  match ad, ha with
  | [], _ =>
    rw [decide_eq_true (by rfl), cond_true, bind_same, plus_eq (by simp; omega)]
  | [a], _ =>
    rw [decide_eq_false (by simp), cond_false, decide_eq_true (by rfl), cond_true, show idxM [a] 0 = .ok a from rfl, bind_ok, bind_same, plus_eq (by simp; omega)]
  | [a, b], _ =>
    rw [decide_eq_false (by simp), cond_false, decide_eq_false (by simp), cond_false, decide_eq_true (by rfl), cond_true, show idxM [a, b] 0 = .ok a from rfl, bind_ok, show idxM [a, b] 1 = .ok b from rfl, bind_ok, bind_same, plus_eq (by simp; omega)]
  | [a, b, c, d, e, f], _ =>
    rw [decide_eq_false (by simp), cond_false, decide_eq_false (by simp), cond_false, decide_eq_false (by simp), cond_false, show idxM [a, b, c, d, e, f] 0 = .ok a from rfl, bind_ok, show idxM [a, b, c, d, e, f] 1 = .ok b from rfl, bind_ok, show idxM [a, b, c, d, e, f] 2 = .ok c from rfl, bind_ok, show idxM [a, b, c, d, e, f] 3 = .ok d from rfl, bind_ok, show idxM [a, b, c, d, e, f] 4 = .ok e from rfl, bind_ok, show idxM [a, b, c, d, e, f] 5 = .ok f from rfl, bind_ok, bind_same, plus_eq (by simp; omega)]
  | [_, _, _], h | [_, _, _, _], h | [_, _, _, _, _], h | _ :: _ :: _ :: _ :: _ :: _ :: _ :: _, h => simp at h
theorem sps_in (ss : List Sp4) : (∀ x ∈ ss, (fun x : Sp4 => True ∧ True ∧ True ∧ True) x) := sps_ok ss
theorem plus_good {L m : Int} {ss ad : List Sp4} (h : ss.length ≤ 1000) (ha : ad.length ≤ 2 ∨ ad.length = 6) : m_law_plus_good (⟨L, m, ss⟩, (L, m, ss), ad) = .ok true := by
  refine Ok.get ?_
  have la : (ss ++ ad).length ≤ 1000000 := by simp; omega
  unfold m_law_plus_good
  dsimp only
  refine .bcat (.bnq (fault_eq la) (.b1 (.b1 (.b1 ?_))))
  rw [law_plus_eq h ha]
  unfold netOr
  cases e : fault L m (ss ++ ad) with
  | some q =>
    dsimp only
    rw [bind_exc, catch_exc known_badnet named_badnet, part_of, place_of]
    refine .b1 (.cT rfl (.opt (.cT rfl ?_)))
    have z : M.noexc (mSame 2 ((dO (dT2 D.str D.int)) (some (q.1, q.2)), (dT2 D.str D.int) q)) = .ok true := by
      rw [show (dO (dT2 D.str D.int)) (some (q.1, q.2)) = (dT2 D.str D.int) q from rfl, same_flat, decide_eq_true rfl]
    exact .bq z (.of rfl)
  | none =>
    dsimp only
    rw [bind_ok, bind_ok, catch_ok]
    refine .b1 (.cF rfl ?_)
    refine Ok.bind (Φ := (· = false)) (.cF rfl (.cF rfl (.bcat (.bnq (shows_self la) (.of rfl))))) ?_
    rintro _ rfl
    refine .cF rfl (.bnq (neteq_eq _ _) (.beqd (eqE_L e4) (.bsameF (.of ?_)) (sps_ok _) (sps_ok _)))
    dsimp only
    rw [decide_eq_true_iff, decide_eq_decide]
    simp
end KK
set_option synthInstance.maxSize 2000
/-! D7: spans taken out. -/
namespace KK
open PySem PySem.Spec PyProof.Rows L2 Y
def odd (n : Nat) (k : Int) : Bool := decide (k < 0) || decide ((n : Int) ≤ k)
def kept (ks : List Int) (ss : List Sp4) : List Sp4 := (enumL ss).filterMap fun q => if q.1 ∈ ks then none else some q.2
def unSpan (k : Int) : Exc := ⟨"UnknownSpan", fldD [D.int k] fl_UnknownSpan []⟩
theorem unspan_text {i : Int} (h : i.natAbs < 10 ^ 12) : fmtB [D.int i] parts_UnknownSpan Str.empty = true := by
  refine fmtB_of ?_ ?_
  · simp only [fmtS, parts_UnknownSpan, List.getElem?_cons_zero, Bool.and_eq_true, decide_eq_true_eq, Bool.and_true]
    exact ⟨by decide +kernel, Nat.lt_of_lt_of_le h (Nat.pow_le_pow_right (by decide) (by decide))⟩
  · decide +kernel
theorem kept_len (ks : List Int) (ss : List Sp4) : (kept ks ss).length ≤ ss.length := by
  unfold kept
  refine Nat.le_trans (List.length_filterMap_le _ _) ?_
  rw [enumL_length]
  exact Nat.le_refl _
def withoutOr (L m : Int) (ss : List Sp4) (ks : List Int) : M Net := match ks.find? (odd ss.length) with | some k => .exc (unSpan k) | none => netOr L m (kept ks ss)
theorem findSome_find {α ρ : Type} (p : α → Bool) (f : α → ρ) : ∀ xs : List α, xs.findSome? (fun x => if p x then some (f x) else none) = (xs.find? p).map f
  | [] => rfl
  | x :: xs => by
    rw [List.findSome?_cons, List.find?_cons]
    cases h : p x with
    | true => rfl
    | false => exact findSome_find p f xs
theorem without_eq {L m : Int} {ss : List Sp4} {ks : List Int} (h : ss.length ≤ 1000000) (hk : ∀ k ∈ ks, k.natAbs < 10 ^ 12) : m_Net_without (⟨L, m, ss⟩, ks) = withoutOr L m ss ks := by
  unfold m_Net_without withoutOr
  dsimp only
  rw [fold_firstU (g := fun k => if odd ss.length k then some (unSpan k) else none) ?hf, findSome_find]
  case hf =>
    intro k hm
    unfold odd
    by_cases q : k < 0 ∨ (ss.length : Int) ≤ k
    · have e1 : (!((decide ((0 : Int) ≤ k) && decide (k < ((ss.length : Nat) : Int))))) = true := by simp; omega
      have e2 : (decide (k < 0) || decide ((ss.length : Int) ≤ k)) = true := by simp; omega
      rw [e1, e2, cond_true, chk_of (unspan_text (hk k hm))]
      rfl
    · have e1 : (!((decide ((0 : Int) ≤ k) && decide (k < ((ss.length : Nat) : Int))))) = false := by simp; omega
      have e2 : (decide (k < 0) || decide ((ss.length : Int) ≤ k)) = false := by simp; omega
      rw [e1, e2]
      rfl
  cases ks.find? (odd ss.length) with
  | some k => rfl
  | none =>
    simp only [Option.map_none]
    rw [bind_ok, filM_eq (g := fun q => if q.1 ∈ ks then none else some q.2) ?hg, bind_ok, bind_same]
    · show m_Net_Net (L, m, kept ks ss) = _
      rw [net_eq (Nat.le_trans (kept_len _ _) h)]
      rfl
    case hg =>
      intro q _
      by_cases g : q.1 ∈ ks
      · rw [if_pos g, decide_eq_true g]; rfl
      · rw [if_neg g, decide_eq_false g]; rfl
theorem law_without_eq {L m : Int} {ss : List Sp4} {ks : List Int} (h : ss.length ≤ 1000000) (hk : ∀ k ∈ ks, k.natAbs < 10 ^ 12) (ha : ks.length ≤ 3 ∨ ks.length = 6) : m_law_without (⟨L, m, ss⟩, ks) = withoutOr L m ss ks := by
  unfold m_law_without
  dsimp only
  match ks, ha with
  | [], _ =>
    rw [decide_eq_true (by rfl), cond_true, bind_same, without_eq h hk]
  | [a], _ =>
    rw [decide_eq_false (by simp), cond_false, decide_eq_true (by rfl), cond_true, show idxM [a] 0 = .ok a from rfl, bind_ok, bind_same, without_eq h hk]
  | [a, b], _ =>
    rw [decide_eq_false (by simp), cond_false, decide_eq_false (by simp), cond_false, decide_eq_true (by rfl), cond_true, show idxM [a, b] 0 = .ok a from rfl, bind_ok, show idxM [a, b] 1 = .ok b from rfl, bind_ok, bind_same, without_eq h hk]
  | [a, b, c], _ =>
    rw [decide_eq_false (by simp), cond_false, decide_eq_false (by simp), cond_false, decide_eq_false (by simp), cond_false, decide_eq_true (by rfl), cond_true, show idxM [a, b, c] 0 = .ok a from rfl, bind_ok, show idxM [a, b, c] 1 = .ok b from rfl, bind_ok, show idxM [a, b, c] 2 = .ok c from rfl, bind_ok, bind_same, without_eq h hk]
  | [a, b, c, d, e, f], _ =>
    rw [decide_eq_false (by simp), cond_false, decide_eq_false (by simp), cond_false, decide_eq_false (by simp), cond_false, decide_eq_false (by simp), cond_false, show idxM [a, b, c, d, e, f] 0 = .ok a from rfl, bind_ok, show idxM [a, b, c, d, e, f] 1 = .ok b from rfl, bind_ok, show idxM [a, b, c, d, e, f] 2 = .ok c from rfl, bind_ok, show idxM [a, b, c, d, e, f] 3 = .ok d from rfl, bind_ok, show idxM [a, b, c, d, e, f] 4 = .ok e from rfl, bind_ok, show idxM [a, b, c, d, e, f] 5 = .ok f from rfl, bind_ok, bind_same, without_eq h hk]
  | [_, _, _, _], h | [_, _, _, _, _], h | _ :: _ :: _ :: _ :: _ :: _ :: _ :: _, h => simp at h
theorem known_us : known_ "UnknownSpan" = true := by decide +kernel
theorem named_us : named_UnknownSpan "UnknownSpan" = true := by decide +kernel
theorem number_of (k : Int) : getI (unSpan k) "number" = .ok k := rfl
theorem enumL_map {α : Type} (xs : List α) (d : α) : enumL xs = (List.range xs.length).map fun (i : Nat) => ((i : Int), xs.getD i d) := by
  apply List.ext_getElem?
  intro i
  rw [List.getElem?_map]
  by_cases h : i < xs.length
  · rw [enumL_get (List.getElem?_eq_getElem h), List.getElem?_range h, Option.map_some, List.getD_eq_getElem?_getD, List.getElem?_eq_getElem h]
    rfl
  · rw [List.getElem?_eq_none (by rw [enumL_length]; omega), List.getElem?_eq_none (by simp; omega)]
    rfl
theorem fm_congr {α β : Type} {f g : α → Option β} : ∀ {xs : List α}, (∀ x ∈ xs, f x = g x) → xs.filterMap f = xs.filterMap g
  | [], _ => rfl
  | x :: xs, h => by rw [List.filterMap_cons, List.filterMap_cons, h x List.mem_cons_self, fm_congr fun y hy => h y (List.mem_cons_of_mem _ hy)]
/-- nothing is taken out where no number is named -/
theorem kept_nil (ss : List Sp4) : kept [] ss = ss := by
  unfold kept
  have : ∀ q : Int × Sp4, (if q.1 ∈ ([] : List Int) then none else some q.2) = some q.2 := fun q => by simp
  rw [funext this]
  apply List.ext_getElem?
  intro i
  rw [show (fun q : Int × Sp4 => some q.2) = some ∘ Prod.snd from rfl, List.filterMap_eq_map, List.getElem?_map]
  cases e : ss[i]? with
  | none => rw [List.getElem?_eq_none (by rw [enumL_length]; simpa using e)]; rfl
  | some x => rw [enumL_get e]; rfl
theorem kept_lt {ks : List Int} {ss : List Sp4} {k : Int} (hk : k ∈ ks) (h0 : 0 ≤ k) (h1 : k < ss.length) : kept ks ss ≠ ss := fun e => by
  have d : ss ≠ [] := fun q => by subst q; simp at h1; omega
  obtain ⟨x0, _⟩ := List.exists_mem_of_ne_nil ss d
  have e2 := congrArg List.length e
  unfold kept at e2
  rw [enumL_map ss x0, List.filterMap_map, List.length_filterMap_eq_countP] at e2
  have c := List.countP_eq_length (p := fun i => ((((fun q : Int × Sp4 => if q.1 ∈ ks then none else some q.2) ∘ fun (i : Nat) => ((i : Int), ss.getD i x0)) i).isSome)) (l := List.range ss.length)
  have c := c.mp (by rw [e2]; simp) k.toNat (by simp; omega)
  have e3 : ((k.toNat : Nat) : Int) = k := by omega
  simp [e3, hk] at c
theorem without_good {L m : Int} {ss : List Sp4} {ks : List Int} (hg : ∀ ks, fault L m (kept ks ss) = none) (h : ss.length ≤ 1000) (hk : ∀ k ∈ ks, k.natAbs < 10 ^ 12) (ha : ks.length ≤ 3 ∨ ks.length = 6) : m_law_without_good (⟨L, m, ss⟩, (L, m, ss), ks) = .ok true := by
  refine Ok.get ?_
  unfold m_law_without_good
  dsimp only
  refine .b1 (.bq (filM_eq (g := fun k => if odd ss.length k then some k else none) ?_) (.brng (.chk (okLen_small (by rw [rng_length]; omega)) (.bq (filM_eq (g := fun k => if k ∈ ks then none else ss[k.toNat]?) ?_) (.b1 (.b1 ?_))))))
  · intro k _
    unfold odd
    cases (decide (k < 0) || decide ((ss.length : Int) ≤ k)) <;> rfl
  · intro k hm
    obtain ⟨i, hi⟩ := List.mem_iff_getElem?.mp hm
    obtain ⟨e1, e2, e3⟩ := rng_get hi
    by_cases g : k ∈ ks
    · rw [decide_eq_true g, if_pos g]; rfl
    · obtain ⟨x, ex, ei⟩ := idxM_lt (xs := ss) (i := k) (by omega) (by omega)
      rw [decide_eq_false g, if_neg g, ei, ex]
      rfl
  have ekept : (rng 0 (ss.length : Int)).filterMap (fun k => if k ∈ ks then none else ss[k.toNat]?) = kept ks ss := by
    unfold kept
    cases ss with
    | nil => rfl
    | cons x0 r =>
      rw [enumL_map (x0 :: r) x0, rng_nat, List.filterMap_map, List.filterMap_map]
      refine fm_congr fun i hi => ?_
      have li : i < (x0 :: r).length := by simpa using hi
      simp only [Function.comp_def, Int.toNat_natCast, List.getD_eq_getElem?_getD, List.getElem?_eq_getElem li, Option.getD_some]
  rw [ekept, law_without_eq (by omega) hk ha]
  unfold withoutOr netOr
  rw [hg ks]
  cases e : ks.find? (odd ss.length) with
  | some k =>
    dsimp only
    rw [bind_exc, catch_exc known_us named_us, number_of]
    have mk := List.mem_of_find?_eq_some e
    have pk := List.find?_some e
    have es : ∃ t, ks.filterMap (fun k => if odd ss.length k then some k else none) = k :: t := by
      rw [show (fun k => if odd ss.length k = true then some k else none) = Option.guard (odd ss.length) from rfl, List.filterMap_eq_filter]
      obtain ⟨_, as, bs, rfl, hab⟩ := List.find?_eq_some_iff_append.mp e
      refine ⟨bs.filter (odd ss.length), ?_⟩
      rw [List.filter_append, List.filter_eq_nil_iff.mpr (fun a h => by simpa using hab a h), List.nil_append, List.filter_cons, if_pos pk]
    obtain ⟨t, es⟩ := es
    rw [es]
    refine .b1 (.beqd (eqE_L eqE_int) ?_ (fun _ _ => trivial) (fun _ _ => trivial))
    rw [decide_eq_false (by simp)]
    refine .cT rfl (.cT rfl (.bq (show idxM (k :: t) 0 = .ok k from idxM_nat (j := 0) rfl) ?_))
    have z : M.noexc (mSame 2 ((dO (dT4 D.int D.bl D.bl D.bl)) (some (k, true, true, false)), (dT4 D.int D.bl D.bl D.bl) (k, true, true, false))) = .ok true := by
      rw [show (dO (dT4 D.int D.bl D.bl D.bl)) (some (k, true, true, false)) = (dT4 D.int D.bl D.bl D.bl) (k, true, true, false) from rfl, same_flat, decide_eq_true rfl]
    exact .bq z (.of rfl)
  | none =>
    dsimp only
    rw [bind_ok, bind_ok, catch_ok]
    have en : ∀ k ∈ ks, odd ss.length k = false := fun k hm => by simpa using List.find?_eq_none.mp e k hm
    have es : ks.filterMap (fun k => if odd ss.length k then some k else none) = [] := by
      rw [List.filterMap_eq_nil_iff]
      intro k hm
      rw [en k hm]
      rfl
    rw [es]
    refine .b1 (.beqd (eqE_L eqE_int) ?_ (fun _ _ => trivial) (fun _ _ => trivial))
    rw [decide_eq_true rfl]
    refine .cF rfl ?_
    have lk := kept_len ks ss
    refine Ok.bind (Φ := (· = false)) (.cF rfl (.cF rfl (.bnq (shows_self (by omega)) (.of rfl)))) ?_
    rintro _ rfl
    refine .cF rfl (.bnq (neteq_eq _ _) (.beqd (eqE_L eqE_int) (.bsameF (.of ?_)) (fun _ _ => trivial) (fun _ _ => trivial)))
    dsimp only
    rw [decide_eq_true_iff, decide_eq_decide]
    constructor
    · intro q
      cases ks with
      | nil => rfl
      | cons k r =>
        have hm : k ∈ k :: r := List.mem_cons_self
        have := en k hm
        unfold odd at this
        simp at this
        exact absurd (congrArg (fun t => t.2.2) q).symm (kept_lt hm (by omega) (by omega))
    · rintro rfl
      rw [kept_nil]
end KK
set_option synthInstance.maxSize 2000
/-! D8: the law. -/
namespace KK
open PySem PySem.Spec PyProof.Rows L2 Y
theorem ok_number {p : List Int} {count chance : Int} {ns : List Int} (hp : PoolOk p) (hc : 0 ≤ count ∧ count ≤ 24) (hh : 0 < chance ∧ chance ≤ 100) : Ok (m_law_number (p, count, ns, chance)) fun r => r.1.natAbs < 10 ^ 12 ∧ PoolOk r.2 := by
  unfold m_law_number
  dsimp only
  refine .brng (.chk (okLen_small (by rw [rng_length]; omega)) (.bq (filM_eq (g := fun k => if k ∈ ns then none else some k) ?_) (.bpow ?_)))
  · intro k _
    by_cases g : k ∈ ns
    · rw [decide_eq_true g, if_pos g]; rfl
    · rw [decide_eq_false g, if_neg g]; rfl
  obtain ⟨left, hleft⟩ : ∃ left, left = (rng 0 count).filterMap (fun k => if k ∈ ns then none else some k) := ⟨_, rfl⟩
  rw [← hleft]
  have hl : ∀ k ∈ left, 0 ≤ k ∧ k < 24 := fun k hk => by
    rw [hleft] at hk
    obtain ⟨j, hj, e⟩ := List.mem_filterMap.mp hk
    obtain ⟨i, hi⟩ := List.mem_iff_getElem?.mp hj
    obtain ⟨e1, e2, e3⟩ := rng_get hi
    split at e
    · cases e
    · cases e
      omega
  have ll : left.length ≤ 24 := by
    rw [hleft]
    refine Nat.le_trans (List.length_filterMap_le _ _) ?_
    rw [rng_length]
    omega
  refine (ok_takeN hp (by omega) (by omega)).bind fun r1 ⟨a1, q1⟩ => .bidx (fun far hf => .b1 ?_) a1.1 a1.2
  have hfar : 0 ≤ far ∧ far ≤ 10 ^ 8 := by
    have hf := List.mem_of_getElem? hf
    simp only [List.mem_cons, List.not_mem_nil, or_false] at hf
    rcases hf with rfl | rfl | rfl | rfl | rfl <;> decide
  refine Ok.bind (Φ := fun b => (b.1 = false → left ≠ []) ∧ PoolOk b.2) ?_ fun b ⟨hb, hb2⟩ => ?_
  · refine .beqd (eqE_L eqE_int) (Ok.ite (fun _ => .of ⟨fun h => (nomatch h), q1⟩) fun h => ?_) (fun _ _ => trivial) (fun _ _ => trivial)
    exact (ok_takeN q1 (by omega) (by omega)).bind fun r2 ⟨_, q2⟩ => .of ⟨fun _ => of_decide_eq_false h, q2⟩
  refine Ok.ite (fun _ => ?_) (fun h => ?_)
  · refine (ok_takeN hb2 (by omega) (by omega)).bind fun r3 ⟨a3, q3⟩ => .bidx (fun v hv => .of ⟨?_, q3⟩) a3.1 a3.2
    have hv := List.mem_of_getElem? hv
    simp only [List.mem_cons, List.not_mem_nil, or_false] at hv
    rcases hv with rfl | rfl <;> dsimp only <;> omega
  · have : 0 < left.length := List.length_pos_iff.mpr (hb h)
    refine (ok_takeN hb2 (by omega) (by omega)).bind fun r3 ⟨a3, q3⟩ => .bidx (fun v hv => .of ⟨?_, q3⟩) a3.1 a3.2
    have := hl v (List.mem_of_getElem? hv)
    dsimp only
    omega
theorem ok_numbers {p : List Int} {count : Int} (hp : PoolOk p) (hc : 0 ≤ count ∧ count ≤ 24) : Ok (m_law_numbers (p, count)) fun r => ((r.1.length ≤ 3 ∨ r.1.length = 6) ∧ ∀ k ∈ r.1, k.natAbs < 10 ^ 12) ∧ PoolOk r.2 := by
  unfold m_law_numbers
  dsimp only
  refine (ok_takeN hp (by omega) (by omega)).bind fun r1 ⟨a1, q1⟩ => .brng ?_
  have step : ∀ (xs : List Int) (s : List Int × List Int) (ch : Int), 0 < ch ∧ ch ≤ 100 → xs.length ≤ 6 → s.2.length ≤ 6 → PoolOk s.1 → (∀ k ∈ s.2, k.natAbs < 10 ^ 12) → Ok (foldM xs s fun (it_1 : Int) (s_1 : (List (Int)) × (List (Int))) =>
      M.bind (M.noexc (m_law_number ((s_1.1, count, s_1.2, ch)))) fun r_2 =>
      M.bind (appM s_1.2 r_2.1) fun numbers_1 =>
      .ok ((r_2.2, numbers_1))) fun z => (z.2.length = s.2.length + xs.length ∧ ∀ k ∈ z.2, k.natAbs < 10 ^ 12) ∧ PoolOk z.1 := by
    intro xs s ch h1 h2 h3 h4 h5
    refine (Ok.fold (fun i z => (z.2.length = s.2.length + i ∧ ∀ k ∈ z.2, k.natAbs < 10 ^ 12) ∧ PoolOk z.1) (xs := xs) (s := s) 0 ⟨⟨rfl, h5⟩, h4⟩ ?_).imp fun z h => by rw [Nat.zero_add] at h; exact h
    rintro i x z e ⟨⟨e1, e2⟩, e3⟩
    have li : i < xs.length := (List.getElem?_eq_some_iff.mp e).1
    refine (ok_number e3 hc h1).noexc.bind fun r ⟨b1, b2⟩ => .bapp (.of ⟨⟨by simp [e1]; omega, fun k hk => ?_⟩, b2⟩)
    rcases List.mem_append.mp hk with h | h
    · exact e2 k h
    · rw [List.mem_singleton.mp h]; exact b1
  refine (step _ _ 3 (by decide) (by rw [rng_length]; omega) (by simp) q1 (fun _ h => absurd h List.not_mem_nil)).bind fun s ⟨⟨e1, e2⟩, e3⟩ => ?_
  rw [rng_length] at e1
  simp only [List.length_nil] at e1
  refine (ok_takeN e3 (by omega) (by omega)).bind fun r3 ⟨a3, q3⟩ => ?_
  refine Ok.bind (Φ := fun z => ((z.2.length ≤ 3 ∨ z.2.length = 6) ∧ ∀ k ∈ z.2, k.natAbs < 10 ^ 12) ∧ PoolOk z.1) ?_ fun z h => .of h
  refine Ok.ite (fun _ => ?_) (fun _ => .of ⟨⟨.inl (by dsimp only; omega), e2⟩, q3⟩)
  refine .brng ?_
  refine (step (rng 0 (6 - (s.2.length : Int))) (r3.2, s.2) 20 (by decide) (by rw [rng_length]; omega) (by dsimp only; omega) q3 e2).bind fun z ⟨⟨f1, f2⟩, f3⟩ => .of ⟨⟨.inr ?_, f2⟩, f3⟩
  rw [rng_length] at f1
  dsimp only at f1 ⊢
  omega
theorem kept_sub {ks : List Int} {ss : List Sp4} {x : Sp4} (h : x ∈ kept ks ss) : x ∈ ss := by
  unfold kept at h
  obtain ⟨q, hq, e⟩ := List.mem_filterMap.mp h
  split at e
  · cases e
  · cases e
    obtain ⟨i, hi⟩ := List.mem_iff_getElem?.mp hq
    have l : i < ss.length := by
      have := (List.getElem?_eq_some_iff.mp hi).1
      rwa [enumL_length] at this
    rw [enumL_get (List.getElem?_eq_getElem l)] at hi
    cases hi
    exact List.getElem_mem l
theorem aft_nx {σ ρ τ : Type} {s : σ} {k : σ → M τ} {r : ρ → M τ} : aft (.nx s : Stp σ ρ) k r = k s := rfl
theorem law_true : ∀ ns : List Int, ns.length ≤ 63 → m_law ns = .ok true := by
  intro ns hl
  refine Ok.get ?_
  unfold m_law
  refine (ok_pool ns 0 (by decide) (by decide)).noexc.bind fun r1 q1 => ?_
  refine (ok_length q1).noexc.bind fun r2 ⟨hL, q2⟩ => .b1 ?_
  refine (ok_many q2).noexc.bind fun r3 ⟨hm, q3⟩ => .b1 ?_
  refine (ok_count (m := r3.1) q3).noexc.bind fun r4 ⟨hc, q4⟩ => ?_
  refine (ok_any q4 hL hm hc).noexc.bind fun r5 ⟨⟨hn, hs⟩, q5⟩ => .b1 (.b1 ?_)
  obtain ⟨ss, p5⟩ := r5
  obtain ⟨L, p2⟩ := r2
  obtain ⟨m, p3⟩ := r3
  dsimp only at hL hm hn hs q5 hc ⊢
  have ls : ss.length ≤ 24 := by omega
  have hf := fault_good hL hm ls hs
  have hnet : m_Net_Net (L, m, ss) = .ok ⟨L, m, ss⟩ := by rw [net_eq (by omega), hf]
  rw [hnet]
  refine .bq (a := (⟨L, m, ss⟩ : Net)) rfl (.b1 (.bsame ?_ (okS_lF (okLen_small (by omega))) (okS_lF (okLen_small (by omega)))))
  rw [decide_eq_true rfl]
  refine .cF rfl (.bapp (.bset (.bnq (shows_self (by omega)) (.cF rfl ?_)) (by omega)))
  refine (ok_pool ns 1 (by decide) (by decide)).noexc.bind fun r8 q8 => ?_
  refine (ok_nets_near q8 hL hm ls).noexc.bind fun r9 ⟨h9, q9⟩ => ?_
  refine (forM_nx (ρ := Bool) (f := fun (it_1 : (Int) × (Int) × (List ((Int) × (Int) × (Int) × (Int)))) (s_1 : (List (Int))) =>
    M.bind (M.noexc (m_law_judged (((⟨L, m, ss⟩ : Net), (L, m, ss), it_1)))) fun r_10 =>
    (bif !r_10 then
    .ok (.rt false)
    else
    .ok (.nx s_1))) (fun _ _ => True) (xs := r9.1) (s := r9.2) 0 trivial ?_).bind fun st ⟨s', e, _⟩ => ?_
  · rintro i ⟨A, B, S⟩ s e _
    refine .bnq (judged_ok ?_) (.cF rfl (.of ⟨s, rfl, trivial⟩))
    have := h9 _ (List.mem_of_getElem? e)
    dsimp only at this
    omega
  subst e
  rw [aft_nx]
  refine (ok_pool ns 2 (by decide) (by decide)).noexc.bind fun r11 q11 => ?_
  refine (ok_takeN q11 (by omega) (by omega)).bind fun r12 ⟨a12, q12⟩ => .brng (.chk (okLen_small (by rw [rng_length]; omega)) ?_)
  refine (Ok.mapS (f := fun (it_2 : Int) (s_3 : (List (Int))) =>
    M.bind (M.noexc (m_law_near_span ((s_3, L, m)))) fun r_13 =>
    .ok (r_13.1, r_13.2)) PoolOk (fun _ => True) q12 (fun x _ s hs => (ok_near hs hL hm).noexc.bind fun r q => .of ⟨trivial, q⟩)).bind fun z ⟨⟨lz, _⟩, qz⟩ => ?_
  rw [rng_length] at lz
  refine Ok.bind (Φ := fun b => (b.1 = true → 1 < m) ∧ PoolOk b.2) ?_ fun b ⟨hb, qb⟩ => ?_
  · refine Ok.ite (fun h => ?_) (fun _ => .of ⟨fun h => (nomatch h), qz⟩)
    exact (ok_takeN qz (by omega) (by omega)).bind fun r14 ⟨_, q14⟩ => .of ⟨fun _ => of_decide_eq_true h, q14⟩
  refine Ok.bind (Φ := fun s => s.1.length ≤ 2 ∨ s.1.length = 6) ?_ fun s hs5 => ?_
  · refine Ok.ite (fun h => ?_) (fun _ => .of (.inl (by dsimp only; omega)))
    have := hb h
    refine (ok_any qb hL hm (c := 6) (by omega)).noexc.bind fun r15 ⟨⟨l15, _⟩, q15⟩ => .bcat (.b1 (.of (.inr ?_)))
    have l15 : r15.1.length = 6 := l15
    unfold cutL
    have e1 : HT.sIx (z.1 ++ r15.1).length (z.1 ++ r15.1).length (some 6) = 6 := by unfold HT.sIx; simp; omega
    have e2 : HT.sIx (z.1 ++ r15.1).length 0 none = 0 := rfl
    rw [e1, e2]
    simp
    omega
  refine .bnq (plus_good (by omega) hs5) (.cF rfl ?_)
  refine (ok_pool ns 3 (by decide) (by decide)).noexc.bind fun r17 q17 => ?_
  refine (ok_numbers q17 (by omega)).noexc.bind fun r18 ⟨⟨l18, h18⟩, q18⟩ => ?_
  have hk : ∀ ks, fault L m (kept ks ss) = none := fun ks => fault_good hL hm (Nat.le_trans (kept_len _ _) ls) fun s h => hs s (kept_sub h)
  refine .bq (without_good hk (by omega) h18 l18) (.cF rfl ?_)
  refine Ok.bind (Φ := (· = false)) ?_ ?_
  · refine .beqd (eqE_L e4) (Ok.ite (fun h => ?_) (fun _ => .of rfl)) (sps_ok _) (sps_ok _)
    refine .bdiv (.bq (without_good hk (by omega) ?_ (.inl (by simp))) (.of rfl))
    intro k hk
    simp only [List.mem_cons, List.not_mem_nil, or_false] at hk
    rcases hk with rfl | rfl | rfl <;> omega
  rintro _ rfl
  refine .cF rfl (.bnq (shows_self (by omega)) (.cT rfl (.b1 (.bnq (neteq_eq _ _) ?_))))
  rw [decide_eq_true rfl]
  exact .bsameF (.of rfl)
end KK
theorem PySem.Challenge.cw_depotyear_k06_net_parts_and_refusals_holds : PySem.Challenge.rw_depotyear_k06_net_parts_and_refusals.Holds :=
  KK.holds_of KK.law_true
