import PyProof.Rows.All
import HandS.ForMost
import HandS.ForExc
import HandS.Flow
import HandS.More
import HandS.CallSlots
import HandS.HeadHook1
import PyProof.ReprRoads
import HandS.TupAny
import HandS.Star
import HandS.Defaults
import HandS.Style
import KE.KDictPairs
import KE.GoesMore
import HandS.Small
import HandS.TryOnly
import HandS.Lambda
import KE.KEqNest
import KE.DataEq
import HandS.Steps
import HandS.Nested
import HandS.ExcInit
import KE.KExcSuper
import HandS.Codes
import HandS.ExcField
import HandS.HotCalls
import KE.KExcIs
import HandS.Ends
import HandS.HeadEnd
import KE.KStateDown
import HandS.Head0
import HandS.Head1
import HandS.Head2
import HandS.HeadHook2
import PySem.Challenge.RW_caughtup_k00_errors_are_apart
set_option Elab.async false
set_option linter.all false
set_option maxRecDepth 100000
set_option autoImplicit false
set_option maxHeartbeats 4000000
namespace Mi
open PySem PySem.Spec PyProof.Rows L2

abbrev St := L2.St
/-! ### values, cells, results -/
inductive DV where
  | non | bl (b : Bool) | int (i : Int) | str (s : Str) | ref (n : Nat)
  | tup (xs : List DV) | lst (xs : List DV) | dct (kvs : List (Key × DV)) | scr (xs : List DV)
  /-- an exception of the class named c, with its `at` -/
  | exn (c : Str) (d : DV)
inductive Cell where
  | lst (xs : List DV) | dct (kvs : List (Key × DV)) | ins (c : Str) (fs : List (Str × DV)) | dead
abbrev Store := List Cell
abbrev Ev := List (Option DV)
inductive Res (α : Type) where
  | ok (a : α) | exc (c : Str) (v : DV) (ρ : Ev) (st : Store) | bad
abbrev EM := Ev → Store → Res (DV × Store)

/-! ### what a value of the mirror stands for -/
structure Gm where
  mu : Nat → Addr
  n : Nat
  F : Hp
  /-- objects that stand as they are until they are let go -/
  B : Hp
structure Gm.le (G G' : Gm) : Prop where
  n : G.n ≤ G'.n
  mu : ∀ i, i < G.n → G'.mu i = G.mu i
  F : Same G.F G'.F
  B : G'.B = G.B
theorem Gm.le.refl (G : Gm) : G.le G := ⟨Nat.le_refl _, fun _ _ => rfl, Same.refl _, rfl⟩
theorem Gm.le.trans {G G' G'' : Gm} (a : G.le G') (b : G'.le G'') : G.le G'' :=
  ⟨Nat.le_trans a.n b.n, fun i h => (b.mu i (Nat.lt_of_lt_of_le h a.n)).trans (a.mu i h), a.F.trans b.F, b.B.trans a.B⟩
theorem seqT_mono {K : PySem.W.Frag} {H H' : Hp} {a : Addr} {xs : List V} (e : Same H H') (h : SqT K H a xs) : SqT K H' a xs := by
  rcases h with (h | ⟨o, h⟩) | h
  · exact .inl (.inl (e _ _ h))
  · exact .inl (.inr ⟨o, e _ _ h⟩)
  · exact .inr h
/-- what stands at a is an exception of the class at C with a dict at dx -/
def ExLike (o : HO) (a C dx : Addr) : Prop := ∀ (P : Program) (w : World) (H : Hp) (h : Heap), ObjOk P w H h a o → ∃ oe : Obj, h.get? a = some oe ∧ oe.cls = .ref C ∧ oe.dict = some dx ∧ ∃ vs, oe.data = .fields vs
/-- .. and its dict holds at alone -/
def DxLike (o : HO) (dx : Addr) (x : V) : Prop := ∀ (P : Program) (w : World) (H : Hp) (h : Heap), ObjOk P w H h dx o → ∃ mA, h.Ns1 dx mA ∧ ∀ f, RelO (([("at", x)] : List (Str × V)).lookup f) (mA f)
section
variable (K : PySem.W.Frag)
mutual
inductive RepV (G : Gm) : V → DV → Prop
  | non : RepV G .non .non
  | bl (b : Bool) : RepV G (.bl b) (.bl b)
  | int (i : Int) : RepV G (.int i) (.int i)
  | str (s : Str) : RepV G (.str s) (.str s)
  | ref {n : Nat} : n < G.n → RepV G (.ref (G.mu n)) (.ref n)
  | tup {a : Addr} {vs : List V} {ds : List DV} : SqT K G.F a vs → RepVs G vs ds → RepV G (.ref a) (.tup ds)
  | lst {a : Addr} {vs : List V} {ds : List DV} : G.F a = some (.lst vs) → RepVs G vs ds → RepV G (.ref a) (.lst ds)
  | dct {a : Addr} {kvs : List (Key × V)} {ds : List (Key × DV)} : G.F a = some (.dK kvs) → RepKs G kvs ds → RepV G (.ref a) (.dct ds)
  | scr {a : Addr} {vs : List V} {ds : List DV} : SqL K G.F a vs → RepVs G vs ds → RepV G (.ref a) (.scr ds)
  | exn {a dx : Addr} {c : Str} {o o' : HO} {x : V} {d : DV} : G.F a = some o → ExLike o a (He.ga K c) dx → G.F dx = some o' → DxLike o' dx x → RepV G x d → RepV G (.ref a) (.exn c d)
inductive RepVs (G : Gm) : List V → List DV → Prop
  | nil : RepVs G [] []
  | cons {v : V} {d : DV} {vs : List V} {ds : List DV} : RepV G v d → RepVs G vs ds → RepVs G (v :: vs) (d :: ds)
inductive RepKs (G : Gm) : List (Key × V) → List (Key × DV) → Prop
  | nil : RepKs G [] []
  | cons {k : Key} {v : V} {d : DV} {vs : List (Key × V)} {ds : List (Key × DV)} : RepV G v d → RepKs G vs ds → RepKs G ((k, v) :: vs) ((k, d) :: ds)
end
inductive RepFs (G : Gm) : List (Str × V) → List (Str × DV) → Prop
  | nil : RepFs G [] []
  | cons {k : Str} {v : V} {d : DV} {vs : List (Str × V)} {ds : List (Str × DV)} : RepV K G v d → RepFs G vs ds → RepFs G ((k, v) :: vs) ((k, d) :: ds)
end
section
variable {K : PySem.W.Frag} {G G' : Gm}
mutual
theorem RepV.mono (le : G.le G') : ∀ {v : V} {d : DV}, RepV K G v d → RepV K G' v d
  | _, _, .non => .non
  | _, _, .bl b => .bl b
  | _, _, .int i => .int i
  | _, _, .str s => .str s
  | _, _, .ref (n := n) h => by
    rw [← le.mu n h]
    exact .ref (Nat.lt_of_lt_of_le h le.n)
  | _, _, .tup h hs => .tup (seqT_mono le.F h) (RepVs.mono le hs)
  | _, _, .lst h hs => .lst (le.F _ _ h) (RepVs.mono le hs)
  | _, _, .dct h hs => .dct (le.F _ _ h) (RepKs.mono le hs)
  | _, _, .scr h hs => .scr (le.F.seq h) (RepVs.mono le hs)
  | _, _, .exn h1 h2 h3 h4 h => .exn (le.F _ _ h1) h2 (le.F _ _ h3) h4 (RepV.mono le h)
theorem RepVs.mono (le : G.le G') : ∀ {vs : List V} {ds : List DV}, RepVs K G vs ds → RepVs K G' vs ds
  | _, _, .nil => .nil
  | _, _, .cons h hs => .cons (RepV.mono le h) (RepVs.mono le hs)
theorem RepKs.mono (le : G.le G') : ∀ {vs : List (Key × V)} {ds : List (Key × DV)}, RepKs K G vs ds → RepKs K G' vs ds
  | _, _, .nil => .nil
  | _, _, .cons h hs => .cons (RepV.mono le h) (RepKs.mono le hs)
end
theorem RepFs.mono (le : G.le G') : ∀ {vs : List (Str × V)} {ds : List (Str × DV)}, RepFs K G vs ds → RepFs K G' vs ds
  | _, _, .nil => .nil
  | _, _, .cons h hs => .cons (RepV.mono le h) (RepFs.mono le hs)
mutual
theorem RepV.reB {B' : Hp} : ∀ {v : V} {d : DV}, RepV K G v d → RepV K { G with B := B' } v d
  | _, _, .non => .non
  | _, _, .bl b => .bl b
  | _, _, .int i => .int i
  | _, _, .str s => .str s
  | _, _, .ref (n := n) h => .ref (G := { G with B := B' }) h
  | _, _, .tup h hs => .tup h (RepVs.reB hs)
  | _, _, .lst h hs => .lst h (RepVs.reB hs)
  | _, _, .dct h hs => .dct h (RepKs.reB hs)
  | _, _, .scr h hs => .scr h (RepVs.reB hs)
  | _, _, .exn h1 h2 h3 h4 h => .exn h1 h2 h3 h4 (RepV.reB h)
theorem RepVs.reB {B' : Hp} : ∀ {vs : List V} {ds : List DV}, RepVs K G vs ds → RepVs K { G with B := B' } vs ds
  | _, _, .nil => .nil
  | _, _, .cons h hs => .cons (RepV.reB h) (RepVs.reB hs)
theorem RepKs.reB {B' : Hp} : ∀ {vs : List (Key × V)} {ds : List (Key × DV)}, RepKs K G vs ds → RepKs K { G with B := B' } vs ds
  | _, _, .nil => .nil
  | _, _, .cons h hs => .cons (RepV.reB h) (RepKs.reB hs)
end
theorem RepFs.reB {B' : Hp} : ∀ {vs : List (Str × V)} {ds : List (Str × DV)}, RepFs K G vs ds → RepFs K { G with B := B' } vs ds
  | _, _, .nil => .nil
  | _, _, .cons h hs => .cons (RepV.reB h) (RepFs.reB hs)
theorem RepVs.len : ∀ {vs : List V} {ds : List DV}, RepVs K G vs ds → vs.length = ds.length
  | _, _, .nil => rfl
  | _, _, .cons _ hs => congrArg Nat.succ (RepVs.len hs)
theorem RepVs.append : ∀ {vs ws : List V} {ds es : List DV}, RepVs K G vs ds → RepVs K G ws es → RepVs K G (vs ++ ws) (ds ++ es)
  | _, _, _, _, .nil, h => h
  | _, _, _, _, .cons a b, h => .cons a (RepVs.append b h)
theorem RepVs.get : ∀ {vs : List V} {ds : List DV} {i : Nat} {d : DV}, RepVs K G vs ds → ds[i]? = some d → ∃ v, vs[i]? = some v ∧ RepV K G v d
  | _, _, _, _, .nil, h => by simp at h
  | _, _, 0, _, .cons a _, h => by
    simp at h
    subst h
    exact ⟨_, rfl, a⟩
  | _, _, i + 1, d, .cons _ b, h => by
    obtain ⟨v, h1, h2⟩ := RepVs.get (i := i) (d := d) b (by simpa using h)
    exact ⟨v, by simpa using h1, h2⟩
theorem RepVs.take (n : Nat) : ∀ {vs : List V} {ds : List DV}, RepVs K G vs ds → RepVs K G (vs.take n) (ds.take n) := by
  induction n with
  | zero => intro vs ds h; simp; exact .nil
  | succ n ih =>
    intro vs ds h
    cases h with
    | nil => exact .nil
    | cons a b => exact .cons a (ih b)
theorem RepVs.drop (n : Nat) : ∀ {vs : List V} {ds : List DV}, RepVs K G vs ds → RepVs K G (vs.drop n) (ds.drop n) := by
  induction n with
  | zero => intro vs ds h; simpa using h
  | succ n ih =>
    intro vs ds h
    cases h with
    | nil => exact .nil
    | cons a b => exact ih b
theorem RepVs.set {v : V} {d : DV} (r : RepV K G v d) : ∀ {vs : List V} {ds : List DV} (i : Nat), RepVs K G vs ds → RepVs K G (vs.set i v) (ds.set i d)
  | _, _, _, .nil => .nil
  | _, _, 0, .cons _ b => .cons r b
  | _, _, i + 1, .cons a b => .cons a (RepVs.set r i b)
theorem RepVs.reverse : ∀ {vs : List V} {ds : List DV}, RepVs K G vs ds → RepVs K G vs.reverse ds.reverse
  | _, _, .nil => .nil
  | _, _, .cons a b => by
    rw [List.reverse_cons, List.reverse_cons]
    exact (RepVs.reverse b).append (.cons a .nil)
theorem RepVs.ints : ∀ {ns : List Int}, RepVs K G (ns.map V.int) (ns.map DV.int)
  | [] => .nil
  | n :: r => .cons (.int n) (RepVs.ints (ns := r))
end

/-! ### the store -/
def RepC (K : PySem.W.Frag) (ca : Str → Addr) (G : Gm) (H : Hp) (a : Addr) : Cell → Prop
  | .lst ds => ∃ vs, H a = some (.lst vs) ∧ RepVs K G vs ds
  | .dct ds => ∃ kvs, H a = some (.dK kvs) ∧ RepKs K G kvs ds
  | .ins c fs => ∃ dx fv, H a = some (.ins (ca c) dx fv) ∧ RepFs K G fv fs
  | .dead => True
def Cell.live : Cell → Prop
  | .dead => False
  | _ => True
theorem RepC.at {K : PySem.W.Frag} {ca : Str → Addr} {G : Gm} {H : Hp} {a : Addr} {c : Cell} (h : RepC K ca G H a c) (l : c.live) : ∃ o, H a = some o := by
  cases c with
  | lst ds => obtain ⟨_, e, _⟩ := h; exact ⟨_, e⟩
  | dct ds => obtain ⟨_, e, _⟩ := h; exact ⟨_, e⟩
  | ins c fs => obtain ⟨_, _, e, _⟩ := h; exact ⟨_, e⟩
  | dead => exact l.elim
theorem RepC.mono {K : PySem.W.Frag} {ca : Str → Addr} {G G' : Gm} {H H' : Hp} {a : Addr} {c : Cell} (le : G.le G') (k : ∀ o, H a = some o → H' a = some o) (h : RepC K ca G H a c) : RepC K ca G' H' a c := by
  cases c with
  | lst ds => obtain ⟨vs, e, r⟩ := h; exact ⟨vs, k _ e, r.mono le⟩
  | dct ds => obtain ⟨vs, e, r⟩ := h; exact ⟨vs, k _ e, r.mono le⟩
  | ins c fs => obtain ⟨dx, fv, e, r⟩ := h; exact ⟨dx, fv, k _ e, r.mono le⟩
  | dead => trivial
structure RelS (K : PySem.W.Frag) (ca : Str → Addr) (G : Gm) (σ : St) (ρ : Ev) (st : Store) (H : Hp) : Prop where
  n : G.n = st.length
  sub : Same G.F H
  cells : ∀ (i : Nat) (c : Cell), st[i]? = some c → RepC K ca G H (G.mu i) c
  inj : ∀ (i j : Nat) (c d : Cell), st[i]? = some c → st[j]? = some d → c.live → d.live → G.mu i = G.mu j → i = j
  out : ∀ (i : Nat) (c : Cell), st[i]? = some c → c.live → G.F (G.mu i) = none
  gh : Same G.B H
  outB : ∀ (i : Nat) (c : Cell), st[i]? = some c → c.live → G.B (G.mu i) = none
  apart : ∀ (a : Addr) (o : HO), G.B a = some o → G.F a = none
  len : σ.length = ρ.length
  env : ∀ (i : Nat) (d : DV), ρ[i]? = some (some d) → ∃ v, σ[i]? = some (some v) ∧ RepV K G v d
section
variable {K : PySem.W.Frag} {ca : Str → Addr} {G G' : Gm} {σ σ' : St} {ρ ρ' : Ev} {st st' : Store} {H H' : Hp}
theorem RelS.same (R : RelS K ca G σ ρ st H) (s : Same H H') : RelS K ca G σ ρ st H' :=
  ⟨R.n, R.sub.trans s, fun i c e => (R.cells i c e).mono (Gm.le.refl _) (fun o q => s _ o q), R.inj, R.out, R.gh.trans s, R.outB, R.apart, R.len, R.env⟩
theorem RelS.envs (R : RelS K ca G σ ρ st H) (l : σ'.length = ρ'.length) (e : ∀ (i : Nat) (d : DV), ρ'[i]? = some (some d) → ∃ v, σ'[i]? = some (some v) ∧ RepV K G v d) : RelS K ca G σ' ρ' st H :=
  ⟨R.n, R.sub, R.cells, R.inj, R.out, R.gh, R.outB, R.apart, l, e⟩
theorem RelS.set (R : RelS K ca G σ ρ st H) {v : V} {d : DV} (r : RepV K G v d) (i : Nat) : RelS K ca G (σ.set i (some v)) (ρ.set i (some d)) st H := by
  refine R.envs (by rw [List.length_set, List.length_set, R.len]) fun j e h => ?_
  by_cases hj : i = j
  · subst hj
    rw [List.getElem?_set] at h ⊢
    simp only [if_true] at h ⊢
    split at h
    · rename_i hl
      simp at h
      subst h
      exact ⟨v, by rw [if_pos (by rw [R.len]; exact hl)], r⟩
    · cases h
  · rw [List.getElem?_set_ne hj] at h
    obtain ⟨v', h1, h2⟩ := R.env j e h
    exact ⟨v', by rw [List.getElem?_set_ne hj]; exact h1, h2⟩
theorem upd_sameF {H : Hp} {p : Addr} {o : HO} (h : H p = none) : Same H (upd H p o) := fun b x e => by
  rw [upd_ne (ne_of_none e h)]
  exact e
/-- a new object that is frozen at once -/
theorem RelS.froz (R : RelS K ca G σ ρ st H) {p : Addr} (o : HO) (hp : H p = none) : G.le { G with F := upd G.F p o } ∧ RelS K ca { G with F := upd G.F p o } σ ρ st (upd H p o) := by
  have fp : G.F p = none := R.sub.free hp
  have le : G.le { G with F := upd G.F p o } := ⟨Nat.le_refl _, fun _ _ => rfl, upd_sameF fp, rfl⟩
  refine ⟨le, R.n, fun b u e => ?_, fun i c e => (R.cells i c e).mono le fun u q => upd_sameF hp _ _ q, R.inj, fun i c e l => ?_, R.gh.trans (upd_sameF hp), R.outB, fun a u e => ?_, R.len, fun i d e => ?_⟩
  · by_cases hb : b = p
    · subst hb
      have e' : upd G.F b o b = some u := e
      rw [upd_same] at e'
      rw [upd_same, e']
    · have e' : upd G.F p o b = some u := e
      rw [upd_ne hb] at e'
      rw [upd_ne hb]
      exact R.sub _ _ e'
  · obtain ⟨u, hu⟩ := (R.cells i c e).at l
    show upd G.F p o (G.mu i) = none
    rw [upd_ne (ne_of_none hu hp)]
    exact R.out i c e l
  · show upd G.F p o a = none
    rw [upd_ne (ne_of_none (R.gh _ _ e) hp)]
    exact R.apart a u e
  · obtain ⟨v, h1, h2⟩ := R.env i d e
    exact ⟨v, h1, h2.mono le⟩
/-- a new cell -/
theorem RelS.cell (R : RelS K ca G σ ρ st H) {p : Addr} (o : HO) (c : Cell) (hp : H p = none)
    (hc : ∀ G', G.le G' → RepC K ca G' (upd H p o) p c) :
    let G' : Gm := { mu := fun i => if i = G.n then p else G.mu i, n := G.n + 1, F := G.F, B := G.B }
    G.le G' ∧ RelS K ca G' σ ρ (st ++ [c]) (upd H p o) ∧ RepV K G' (.ref p) (.ref st.length) := by
  intro G'
  have le : G.le G' := ⟨Nat.le_succ _, fun i h => if_neg (Nat.ne_of_lt h), Same.refl _, rfl⟩
  have old : ∀ (i : Nat) (d : Cell), st[i]? = some d → i < G.n ∧ G'.mu i = G.mu i := fun i d e => by
    have h1 : i < st.length := (List.getElem?_eq_some_iff.mp e).1
    rw [← R.n] at h1
    exact ⟨h1, if_neg (Nat.ne_of_lt h1)⟩
  have cases_ : ∀ (i : Nat) (d : Cell), (st ++ [c])[i]? = some d → st[i]? = some d ∨ (i = G.n ∧ d = c) := fun i d e => by
    rw [List.getElem?_append] at e
    split at e
    · exact .inl e
    · rename_i hl
      have h0 : i - st.length = 0 := by
        cases hh : i - st.length with
        | zero => rfl
        | succ m => rw [hh] at e; simp at e
      rw [h0] at e
      simp at e
      exact .inr ⟨by rw [R.n]; omega, e.symm⟩
  have mun : G'.mu G.n = p := if_pos rfl
  refine ⟨le, ⟨?_, fun b u e => upd_sameF hp _ _ (R.sub _ _ e), fun i d e => ?_, fun i j d d' e e' l l' z => ?_, fun i d e l => ?_, R.gh.trans (upd_sameF hp), fun i d e l => ?_, R.apart, R.len, fun i d e => ?_⟩, ?_⟩
  · show G.n + 1 = (st ++ [c]).length
    rw [List.length_append, R.n]
    rfl
  · rcases cases_ i d e with h | ⟨h, h'⟩
    · rw [(old i d h).2]
      exact (R.cells i d h).mono le fun u q => upd_sameF hp _ _ q
    · subst h'
      rw [h, mun]
      exact hc G' le
  · rcases cases_ i d e with h | ⟨h, h'⟩
    · rcases cases_ j d' e' with k | ⟨k, k'⟩
      · rw [(old i d h).2, (old j d' k).2] at z
        exact R.inj i j d d' h k l l' z
      · rw [(old i d h).2, k, mun] at z
        obtain ⟨u, hu⟩ := (R.cells i d h).at l
        rw [z, hp] at hu
        cases hu
    · rcases cases_ j d' e' with k | ⟨k, k'⟩
      · rw [(old j d' k).2, h, mun] at z
        obtain ⟨u, hu⟩ := (R.cells j d' k).at l'
        rw [← z, hp] at hu
        cases hu
      · rw [h, k]
  · rcases cases_ i d e with h | ⟨h, h'⟩
    · rw [(old i d h).2]
      exact R.out i d h l
    · rw [h, mun]
      exact R.sub.free hp
  · rcases cases_ i d e with h | ⟨h, h'⟩
    · rw [(old i d h).2]
      exact R.outB i d h l
    · rw [h, mun]
      exact R.gh.free hp
  · obtain ⟨v, h1, h2⟩ := R.env i d e
    exact ⟨v, h1, h2.mono le⟩
  · rw [← R.n, ← mun]
    exact .ref (Nat.lt_succ_self _)
/-- a cell is written -/
theorem RelS.write (R : RelS K ca G σ ρ st H) {i : Nat} {c c' : Cell} {o : HO} (e : st[i]? = some c) (l : c.live) (hc : RepC K ca G (upd H (G.mu i) o) (G.mu i) c') (l' : c'.live) : RelS K ca G σ ρ (st.set i c') (upd H (G.mu i) o) := by
  have hi : i < st.length := (List.getElem?_eq_some_iff.mp e).1
  have cases_ : ∀ (j : Nat) (d : Cell), (st.set i c')[j]? = some d → (j = i ∧ d = c') ∨ (j ≠ i ∧ st[j]? = some d) := fun j d h => by
    by_cases hj : i = j
    · subst hj
      rw [List.getElem?_set_self hi] at h
      exact .inl ⟨rfl, (Option.some.inj h).symm⟩
    · rw [List.getElem?_set_ne hj] at h
      exact .inr ⟨Ne.symm hj, h⟩
  refine ⟨by rw [List.length_set]; exact R.n, fun b u h => ?_, fun j d h => ?_, fun j k d d' h h' m m' z => ?_, fun j d h m => ?_, fun b u h => ?_, fun j d h m => ?_, R.apart, R.len, R.env⟩
  · have nb : b ≠ G.mu i := fun z => by
      rw [z, R.out i c e l] at h
      cases h
    rw [upd_ne nb]
    exact R.sub _ _ h
  · rcases cases_ j d h with ⟨h1, h2⟩ | ⟨h1, h2⟩
    · subst h1 h2
      exact hc
    · by_cases m : d.live
      · have ne : G.mu j ≠ G.mu i := fun z => h1 (R.inj j i d c h2 e m l z)
        refine (R.cells j d h2).mono (Gm.le.refl _) fun u q => ?_
        rw [upd_ne ne]
        exact q
      · cases d with
        | dead => trivial
        | _ => exact (m trivial).elim
  · rcases cases_ j d h with ⟨h1, h2⟩ | ⟨h1, h2⟩
    · rcases cases_ k d' h' with ⟨k1, k2⟩ | ⟨k1, k2⟩
      · rw [h1, k1]
      · rw [h1] at z ⊢
        exact R.inj i k c d' e k2 l m' z
    · rcases cases_ k d' h' with ⟨k1, k2⟩ | ⟨k1, k2⟩
      · rw [k1] at z ⊢
        exact R.inj j i d c h2 e m l z
      · exact R.inj j k d d' h2 k2 m m' z
  · rcases cases_ j d h with ⟨h1, h2⟩ | ⟨h1, h2⟩
    · rw [h1]
      exact R.out i c e l
    · exact R.out j d h2 m
  · have nb : b ≠ G.mu i := fun z => by
      rw [z, R.outB i c e l] at h
      cases h
    rw [upd_ne nb]
    exact R.gh _ _ h
  · rcases cases_ j d h with ⟨h1, h2⟩ | ⟨h1, h2⟩
    · rw [h1]
      exact R.outB i c e l
    · exact R.outB j d h2 m
/-- a cell is given up: what it held stays as it is from then on -/
theorem RelS.frz (R : RelS K ca G σ ρ st H) {i : Nat} {c : Cell} {o : HO} (e : st[i]? = some c) (l : c.live) (ho : H (G.mu i) = some o) :
    G.le { G with F := upd G.F (G.mu i) o } ∧ RelS K ca { G with F := upd G.F (G.mu i) o } σ ρ (st.set i .dead) H := by
  have hi : i < st.length := (List.getElem?_eq_some_iff.mp e).1
  have le : G.le { G with F := upd G.F (G.mu i) o } := ⟨Nat.le_refl _, fun _ _ => rfl, upd_sameF (R.out i c e l), rfl⟩
  have cases_ : ∀ (j : Nat) (d : Cell), (st.set i .dead)[j]? = some d → d.live → j ≠ i ∧ st[j]? = some d := fun j d h m => by
    by_cases hj : i = j
    · subst hj
      rw [List.getElem?_set_self hi] at h
      rw [← Option.some.inj h] at m
      exact m.elim
    · rw [List.getElem?_set_ne hj] at h
      exact ⟨Ne.symm hj, h⟩
  refine ⟨le, by rw [List.length_set]; exact R.n, fun b u h => ?_, fun j d h => ?_, fun j k d d' h h' m m' z => ?_, fun j d h m => ?_, R.gh, fun j d h m => ?_, fun a u h => ?_, R.len, fun j d h => ?_⟩
  · by_cases hb : b = G.mu i
    · subst hb
      have h' : upd G.F (G.mu i) o (G.mu i) = some u := h
      rw [upd_same] at h'
      rw [ho, h']
    · have h' : upd G.F (G.mu i) o b = some u := h
      rw [upd_ne hb] at h'
      exact R.sub _ _ h'
  · by_cases m : d.live
    · obtain ⟨h1, h2⟩ := cases_ j d h m
      exact (R.cells j d h2).mono le fun u q => q
    · cases d with
      | dead => trivial
      | _ => exact (m trivial).elim
  · exact R.inj j k d d' (cases_ j d h m).2 (cases_ k d' h' m').2 m m' z
  · obtain ⟨h1, h2⟩ := cases_ j d h m
    show upd G.F (G.mu i) o (G.mu j) = none
    rw [upd_ne fun z => h1 (R.inj j i d c h2 e m l z)]
    exact R.out j d h2 m
  · obtain ⟨h1, h2⟩ := cases_ j d h m
    exact R.outB j d h2 m
  · have h' : G.B a = some u := h
    have na : a ≠ G.mu i := fun z => by
      rw [z, R.outB i c e l] at h'
      cases h'
    show upd G.F (G.mu i) o a = none
    rw [upd_ne na]
    exact R.apart a u h'
  · obtain ⟨v, h1, h2⟩ := R.env j d h
    exact ⟨v, h1, h2.mono le⟩
/-- what stands aside is changed: from B to B' -/
theorem RelS.aside (R : RelS K ca G σ ρ st H) {B' : Hp} (s : Same B' H) (o : ∀ (i : Nat) (c : Cell), st[i]? = some c → c.live → B' (G.mu i) = none) (ap : ∀ (a : Addr) (o : HO), B' a = some o → G.F a = none) : RelS K ca { G with B := B' } σ ρ st H := by
  refine ⟨R.n, R.sub, fun i c e => ?_, R.inj, R.out, s, o, ap, R.len, fun i d e => ?_⟩
  · have h := R.cells i c e
    cases c with
    | lst ds => obtain ⟨vs, e, r⟩ := h; exact ⟨vs, e, r.reB⟩
    | dct ds => obtain ⟨vs, e, r⟩ := h; exact ⟨vs, e, r.reB⟩
    | ins c fs => obtain ⟨dx, fv, e, r⟩ := h; exact ⟨dx, fv, e, r.reB⟩
    | dead => trivial
  · obtain ⟨v, h1, h2⟩ := R.env i d e
    exact ⟨v, h1, h2.reB⟩
/-- a new object is put aside -/
theorem RelS.put (R : RelS K ca G σ ρ st H) {p : Addr} (o : HO) (hp : H p = none) : RelS K ca { G with B := upd G.B p o } σ ρ st (upd H p o) := by
  refine (R.same (upd_sameF hp)).aside (fun b u e => ?_) (fun i c e l => ?_) fun a u e => ?_
  · by_cases hb : b = p
    · subst hb
      rw [upd_same] at e ⊢
      exact e
    · rw [upd_ne hb] at e ⊢
      exact R.gh _ _ e
  · obtain ⟨u, hu⟩ := (R.cells i c e).at l
    rw [upd_ne (ne_of_none hu hp)]
    exact R.outB i c e l
  · by_cases hb : a = p
    · rw [hb]
      exact R.sub.free hp
    · rw [upd_ne hb] at e
      exact R.apart a u e
/-- what stands aside alone is changed -/
theorem RelS.turn {B₀ : Hp} {p : Addr} {o o' : HO} (R : RelS K ca { G with B := upd B₀ p o } σ ρ st H) : RelS K ca { G with B := upd B₀ p o' } σ ρ st (upd H p o') := by
  have hp : H p = some o := R.gh _ _ upd_same
  have nl : ∀ (i : Nat) (c : Cell), st[i]? = some c → c.live → G.mu i ≠ p := fun i c e l z => by
    have h := R.outB i c e l
    have h' : upd B₀ p o (G.mu i) = none := h
    rw [z, upd_same] at h'
    cases h'
  have nF : G.F p = none := R.apart p o upd_same
  refine ⟨R.n, fun b u e => ?_, fun i c e => ?_, R.inj, R.out, fun b u e => ?_, fun i c e l => ?_, fun a u e => ?_, R.len, fun i d e => ?_⟩
  · have nb : b ≠ p := fun z => by
      have e' : G.F b = some u := e
      rw [z, nF] at e'
      cases e'
    rw [upd_ne nb]
    exact R.sub _ _ e
  · have h := R.cells i c e
    cases c with
    | dead => trivial
    | lst ds =>
      obtain ⟨vs, e1, r⟩ := h
      exact ⟨vs, by rw [upd_ne (nl i _ e trivial)]; exact e1, r.reB (B' := upd B₀ p o')⟩
    | dct ds =>
      obtain ⟨vs, e1, r⟩ := h
      exact ⟨vs, by rw [upd_ne (nl i _ e trivial)]; exact e1, r.reB (B' := upd B₀ p o')⟩
    | ins c fs =>
      obtain ⟨dx, fv, e1, r⟩ := h
      exact ⟨dx, fv, by rw [upd_ne (nl i _ e trivial)]; exact e1, r.reB (B' := upd B₀ p o')⟩
  · have e' : upd B₀ p o' b = some u := e
    by_cases hb : b = p
    · subst hb
      rw [upd_same] at e' ⊢
      exact e'
    · rw [upd_ne hb] at e' ⊢
      refine R.gh b u ?_
      show upd B₀ p o b = some u
      rw [upd_ne hb]
      exact e'
  · have h' : upd B₀ p o (G.mu i) = none := R.outB i c e l
    rw [upd_ne (nl i c e l)] at h'
    show upd B₀ p o' (G.mu i) = none
    rw [upd_ne (nl i c e l)]
    exact h'
  · have e' : upd B₀ p o' a = some u := e
    by_cases hb : a = p
    · rw [hb]
      exact nF
    · rw [upd_ne hb] at e'
      refine R.apart a u ?_
      show upd B₀ p o a = some u
      rw [upd_ne hb]
      exact e'
  · obtain ⟨v, h1, h2⟩ := R.env i d e
    exact ⟨v, h1, h2.reB (B' := upd B₀ p o')⟩
/-- what stood aside is frozen, or is a cell from then on -/
theorem RelS.back1 {B₀ : Hp} {p : Addr} {o : HO} (hB : B₀ p = none) (R : RelS K ca { G with B := upd B₀ p o } σ ρ st H) : RelS K ca { G with B := B₀ } σ ρ st H ∧ H p = some o ∧ G.F p = none ∧ ∀ (i : Nat) (c : Cell), st[i]? = some c → c.live → G.mu i ≠ p := by
  have nl : ∀ (i : Nat) (c : Cell), st[i]? = some c → c.live → G.mu i ≠ p := fun i c e l z => by
    have h' : upd B₀ p o (G.mu i) = none := R.outB i c e l
    rw [z, upd_same] at h'
    cases h'
  have up : ∀ a u, B₀ a = some u → upd B₀ p o a = some u := fun a u e => by
    rw [upd_ne fun z => by rw [z, hB] at e; cases e]
    exact e
  refine ⟨R.aside (fun b u e => R.gh b u (up b u e)) (fun i c e l => ?_) fun a u e => R.apart a u (up a u e), R.gh _ _ upd_same, R.apart p o upd_same, nl⟩
  have h' : upd B₀ p o (G.mu i) = none := R.outB i c e l
  rw [upd_ne (nl i c e l)] at h'
  exact h'
/-- an object that nobody knows is frozen -/
theorem RelS.froz1 (R : RelS K ca G σ ρ st H) {p : Addr} {o : HO} (hp : H p = some o) (hF : G.F p = none) (hB : G.B p = none) (nl : ∀ (i : Nat) (c : Cell), st[i]? = some c → c.live → G.mu i ≠ p) :
    G.le { G with F := upd G.F p o } ∧ RelS K ca { G with F := upd G.F p o } σ ρ st H := by
  have le : G.le { G with F := upd G.F p o } := ⟨Nat.le_refl _, fun _ _ => rfl, upd_sameF hF, rfl⟩
  refine ⟨le, R.n, fun b u e => ?_, fun i c e => (R.cells i c e).mono le fun u q => q, R.inj, fun i c e l => ?_, R.gh, R.outB, fun a u e => ?_, R.len, fun i d e => ?_⟩
  · have e' : upd G.F p o b = some u := e
    by_cases hb : b = p
    · subst hb
      rw [upd_same] at e'
      rw [hp, e']
    · rw [upd_ne hb] at e'
      exact R.sub _ _ e'
  · show upd G.F p o (G.mu i) = none
    rw [upd_ne (nl i c e l)]
    exact R.out i c e l
  · have e' : G.B a = some u := e
    show upd G.F p o a = none
    rw [upd_ne fun z => by rw [z, hB] at e'; cases e']
    exact R.apart a u e'
  · obtain ⟨v, h1, h2⟩ := R.env i d e
    exact ⟨v, h1, h2.mono le⟩
/-- .. is a cell from then on -/
theorem RelS.cell1 (R : RelS K ca G σ ρ st H) {p : Addr} {o : HO} (c : Cell) (hp : H p = some o) (hF : G.F p = none) (hB : G.B p = none) (nl : ∀ (i : Nat) (c : Cell), st[i]? = some c → c.live → G.mu i ≠ p)
    (hc : ∀ G', G.le G' → RepC K ca G' H p c) :
    let G' : Gm := { mu := fun i => if i = G.n then p else G.mu i, n := G.n + 1, F := G.F, B := G.B }
    G.le G' ∧ RelS K ca G' σ ρ (st ++ [c]) H ∧ RepV K G' (.ref p) (.ref st.length) := by
  intro G'
  have le : G.le G' := ⟨Nat.le_succ _, fun i h => if_neg (Nat.ne_of_lt h), Same.refl _, rfl⟩
  have old : ∀ (i : Nat) (d : Cell), st[i]? = some d → i < G.n ∧ G'.mu i = G.mu i := fun i d e => by
    have h1 : i < st.length := (List.getElem?_eq_some_iff.mp e).1
    rw [← R.n] at h1
    exact ⟨h1, if_neg (Nat.ne_of_lt h1)⟩
  have cases_ : ∀ (i : Nat) (d : Cell), (st ++ [c])[i]? = some d → st[i]? = some d ∨ (i = G.n ∧ d = c) := fun i d e => by
    rw [List.getElem?_append] at e
    split at e
    · exact .inl e
    · rename_i hl
      have h0 : i - st.length = 0 := by
        cases hh : i - st.length with
        | zero => rfl
        | succ m => rw [hh] at e; simp at e
      rw [h0] at e
      simp at e
      exact .inr ⟨by rw [R.n]; omega, e.symm⟩
  have mun : G'.mu G.n = p := if_pos rfl
  have each : ∀ (i : Nat) (d : Cell), (st ++ [c])[i]? = some d → d.live → G'.mu i = p → i = G.n := fun i d e l z => by
    rcases cases_ i d e with h | ⟨h, h'⟩
    · rw [(old i d h).2] at z
      exact absurd z (nl i d h l)
    · exact h
  refine ⟨le, ⟨?_, R.sub, fun i d e => ?_, fun i j d d' e e' l l' z => ?_, fun i d e l => ?_, R.gh, fun i d e l => ?_, R.apart, R.len, fun i d e => ?_⟩, ?_⟩
  · show G.n + 1 = (st ++ [c]).length
    rw [List.length_append, R.n]
    rfl
  · rcases cases_ i d e with h | ⟨h, h'⟩
    · rw [(old i d h).2]
      exact (R.cells i d h).mono le fun u q => q
    · subst h'
      rw [h, mun]
      exact hc G' le
  · rcases cases_ i d e with h | ⟨h, h'⟩
    · rcases cases_ j d' e' with k | ⟨k, k'⟩
      · rw [(old i d h).2, (old j d' k).2] at z
        exact R.inj i j d d' h k l l' z
      · rw [k, mun] at z
        rw [each i d e l z, k]
    · rw [h, mun] at z
      rw [h, each j d' e' l' z.symm]
  · rcases cases_ i d e with h | ⟨h, h'⟩
    · rw [(old i d h).2]
      exact R.out i d h l
    · rw [h, mun]
      exact hF
  · rcases cases_ i d e with h | ⟨h, h'⟩
    · rw [(old i d h).2]
      exact R.outB i d h l
    · rw [h, mun]
      exact hB
  · obtain ⟨v, h1, h2⟩ := R.env i d e
    exact ⟨v, h1, h2.mono le⟩
  · rw [← R.n, ← mun]
    exact .ref (Nat.lt_succ_self _)
end
end Mi

set_option maxHeartbeats 4000000
namespace Mi
open PySem PySem.Spec PyProof.Rows L2

abbrev XM (β : Type) := Ev → Store → Res (β × Store)
def xBind {β γ : Type} (a : XM β) (f : β → XM γ) : XM γ := fun ρ st => match a ρ st with
  | .ok (d, st1) => f d ρ st1
  | .exc c v r s => .exc c v r s
  | .bad => .bad
def xPure {β : Type} (d : β) : XM β := fun _ st => .ok (d, st)
def xBad {β : Type} : XM β := fun _ _ => .bad
/-- a step on values -/
def xV {β : Type} (m : Store → Option (β × Store)) : XM β := fun _ st => match m st with
  | some r => .ok r
  | none => .bad

section
variable (K : PySem.W.Frag) (ca : Str → Addr)
def ExcOut (W : WX) (G : Gm) (c : Str) (v : DV) (ρ' : Ev) (st' : Store) : Prop :=
  ∀ G' σ' H' dd x, G.le G' → RelS K ca G' σ' ρ' st' H' → G'.B dd = none → H' dd = some (.xd [("at", x)]) → RepV K G' x v → W (.ref (ca c)) (some dd) σ' H'
def Out {α β : Type} (Rp : Gm → α → β → Prop) (W : WX) (G : Gm) (σ : St) (ρ : Ev) (Q : α → Hp → Prop) : Res (β × Store) → Prop
  | .ok a => ∀ G' H' v, G.le G' → RelS K ca G' σ ρ a.2 H' → Rp G' v a.1 → Q v H'
  | .exc c v ρ' st' => ExcOut K ca W G c v ρ' st'
  | .bad => False
def rd {α β : Type} (Rp : Gm → α → β → Prop) (W : WX) (m : XM β) : St → Hp → (α → Hp → Prop) → Prop := fun σ H Q =>
  ∃ G ρ st, RelS K ca G σ ρ st H ∧ Out K ca Rp W G σ ρ Q (m ρ st)
abbrev rdE (W : WX) (m : XM DV) : TE := rd K ca (RepV K) W m
abbrev rdA (W : WX) (m : XM (List DV)) : TA := rd K ca (RepVs K) W m
abbrev EqB : Gm → Bool → Bool → Prop := fun _ a b => a = b
abbrev rdT (W : WX) (m : XM Bool) : TT := rd K ca EqB W m
end
section
variable {K : PySem.W.Frag} {ca : Str → Addr}
theorem ExcOut.le {W : WX} {G G1 : Gm} {c : Str} {v : DV} {ρ' : Ev} {st' : Store} (h : ExcOut K ca W G c v ρ' st') (l : G.le G1) : ExcOut K ca W G1 c v ρ' st' :=
  fun G' σ' H' dd x le R b e r => h G' σ' H' dd x (l.trans le) R b e r
theorem Out.le {α β : Type} {Rp : Gm → α → β → Prop} {W : WX} {G G1 : Gm} {σ : St} {ρ : Ev} {Q : α → Hp → Prop} {r : Res (β × Store)} (h : Out K ca Rp W G σ ρ Q r) (l : G.le G1) : Out K ca Rp W G1 σ ρ Q r := by
  cases r with
  | ok a => exact fun G' H' v le R p => h G' H' v (l.trans le) R p
  | exc c v ρ' st' => exact ExcOut.le h l
  | bad => exact h
theorem out_bind {α β α' β' : Type} {Rp : Gm → α → β → Prop} {Rp' : Gm → α' → β' → Prop} {W : WX} {G : Gm} {σ : St} {ρ : Ev} {st : Store} {Q : α' → Hp → Prop} {Q1 : α → Hp → Prop} {a : XM β} {f : β → XM β'}
    (o : Out K ca Rp' W G σ ρ Q (xBind a f ρ st))
    (k : ∀ G1 H1 v d st1, G.le G1 → RelS K ca G1 σ ρ st1 H1 → Rp G1 v d → Out K ca Rp' W G1 σ ρ Q (f d ρ st1) → Q1 v H1) : Out K ca Rp W G σ ρ Q1 (a ρ st) := by
  unfold xBind at o
  cases h : a ρ st with
  | ok p =>
    obtain ⟨d, st1⟩ := p
    rw [h] at o
    exact fun G1 H1 v le R p => k G1 H1 v d st1 le R p (Out.le o le)
  | exc c v r s =>
    rw [h] at o
    exact o
  | bad =>
    rw [h] at o
    exact o
/-- one more reading behind a reading -/
theorem rd_bind {α β α' β' : Type} {Rp : Gm → α → β → Prop} {Rp' : Gm → α' → β' → Prop} {W : WX} {σ : St} {H : Hp} {Q : α' → Hp → Prop} {Q1 : α → Hp → Prop} {a : XM β} {f : β → XM β'}
    (h : rd K ca Rp' W (xBind a f) σ H Q)
    (k : ∀ G ρ st H1 v d, RelS K ca G σ ρ st H1 → Rp G v d → Out K ca Rp' W G σ ρ Q (f d ρ st) → Q1 v H1) : rd K ca Rp W a σ H Q1 := by
  obtain ⟨G, ρ, st, R, o⟩ := h
  exact ⟨G, ρ, st, R, out_bind o fun G1 H1 v d st1 le R1 p o1 => k G1 ρ st1 H1 v d R1 p o1⟩
theorem rd_of {α β : Type} {Rp : Gm → α → β → Prop} {W : WX} {σ : St} {H : Hp} {Q : α → Hp → Prop} {m : XM β} {G : Gm} {ρ : Ev} {st : Store} (R : RelS K ca G σ ρ st H) (o : Out K ca Rp W G σ ρ Q (m ρ st)) : rd K ca Rp W m σ H Q := ⟨G, ρ, st, R, o⟩
theorem rd_mono {α β : Type} {Rp : Gm → α → β → Prop} {W : WX} {σ : St} {H : Hp} {Q Q' : α → Hp → Prop} {m : XM β} (h : rd K ca Rp W m σ H Q) (k : ∀ v H', Q v H' → Q' v H') : rd K ca Rp W m σ H Q' := by
  obtain ⟨G, ρ, st, R, o⟩ := h
  refine ⟨G, ρ, st, R, ?_⟩
  cases e : m ρ st with
  | ok a => rw [e] at o; exact fun G' H' v le R' p => k _ _ (o G' H' v le R' p)
  | exc c v r s => rw [e] at o; exact o
  | bad => rw [e] at o; exact o
/-- a step on values at the end -/
theorem out_xV {α β : Type} {Rp : Gm → α → β → Prop} {W : WX} {G : Gm} {σ : St} {ρ : Ev} {st : Store} {Q : α → Hp → Prop} {m : Store → Option (β × Store)} (o : Out K ca Rp W G σ ρ Q (xV m ρ st)) :
    ∃ d st', m st = some (d, st') ∧ ∀ G' H' v, G.le G' → RelS K ca G' σ ρ st' H' → Rp G' v d → Q v H' := by
  unfold xV at o
  cases h : m st with
  | none => rw [h] at o; exact o.elim
  | some r =>
    obtain ⟨d, st'⟩ := r
    rw [h] at o
    exact ⟨d, st', rfl, o⟩
end

/-! ### weakening of the judgements -/
section
variable {X : Cx} {e : Expr} {es : List Expr} {t t' : TE} {u u' : TT} {a a' : TA}
theorem pe_weak (h : PE X e t) (w : ∀ σ H Q, t' σ H Q → t σ H Q) : PE X e t' := ⟨fun pins s σ H Q I q => h.run pins s σ H Q I (w σ H Q q)⟩
theorem pt_weak (h : PT X e u) (w : ∀ σ H Q, u' σ H Q → u σ H Q) : PT X e u' := ⟨fun pins s σ H Q I q => h.run pins s σ H Q I (w σ H Q q)⟩
theorem pw_weak (h : PW X e u) (w : ∀ σ H Q, u' σ H Q → u σ H Q) : PW X e u' := ⟨fun wh pins s σ H Q I q => h.run wh pins s σ H Q I (w σ H Q q)⟩
theorem pa_weak (h : PA X es a) (w : ∀ σ H Q, a' σ H Q → a σ H Q) : PA X es a' := ⟨fun p pins s σ H Q I q => h.run p pins s σ H Q I (w σ H Q q)⟩
theorem pe_ex {ι : Sort _} {t : ι → TE} (h : ∀ i, PE X e (t i)) : PE X e (fun σ H Q => ∃ i, t i σ H Q) := ⟨fun pins s σ H Q I q => let ⟨i, q⟩ := q; (h i).run pins s σ H Q I q⟩
theorem pe_orr (h : PE X e t) (h' : PE X e t') : PE X e (fun σ H Q => t σ H Q ∨ t' σ H Q) := ⟨fun pins s σ H Q I q => q.elim (h.run pins s σ H Q I) (h'.run pins s σ H Q I)⟩
/-- nothing is read: the proof never comes here -/
theorem pe_bad : PE X e (fun _ _ _ => False) := ⟨fun _ _ _ _ _ _ h => h.elim⟩
theorem pt_bad : PT X e (fun _ _ _ => False) := ⟨fun _ _ _ _ _ _ h => h.elim⟩
theorem pa_bad : PA X es (fun _ _ _ => False) := ⟨fun _ _ _ _ _ _ _ h => h.elim⟩
end
section
variable {X : Cx} {K : PySem.W.Frag} {ca : Str → Addr} {e : Expr} {es : List Expr} {W : WX}
theorem rd_bad {α β : Type} {Rp : Gm → α → β → Prop} {σ : St} {H : Hp} {Q : α → Hp → Prop} (h : rd K ca Rp W (xBad : XM β) σ H Q) : False := by
  obtain ⟨_, _, _, _, o⟩ := h
  exact o
theorem re_bad : PE X e (rdE K ca W xBad) := pe_weak pe_bad fun _ _ _ h => rd_bad h
theorem rt_bad : PT X e (rdT K ca W xBad) := pt_weak pt_bad fun _ _ _ h => rd_bad h
theorem ra_bad : PA X es (rdA K ca W xBad) := pa_weak pa_bad fun _ _ _ h => rd_bad h
/-! ### constants, names -/
theorem re_const {d : DV} {v : V} (h : PE X e (tC v)) (r : ∀ G, RepV K G v d) : PE X e (rdE K ca W (xPure d)) := pe_weak h fun σ H Q q => by
  obtain ⟨G, ρ, st, R, o⟩ := q
  exact o G H v (Gm.le.refl _) R (r G)
def xVar (i : Nat) : XM DV := fun ρ st => match ρ[i]? with
  | some (some d) => .ok (d, st)
  | _ => .bad
theorem re_var {i : Nat} (h : PE X e (tVar i)) : PE X e (rdE K ca W (xVar i)) := pe_weak h fun σ H Q q => by
  obtain ⟨G, ρ, st, R, o⟩ := q
  unfold xVar at o
  cases h : ρ[i]? with
  | none => rw [h] at o; exact o.elim
  | some x =>
    cases x with
    | none => rw [h] at o; exact o.elim
    | some d =>
      rw [h] at o
      obtain ⟨v, h1, h2⟩ := R.env i d h
      exact ⟨v, h1, o G H v (Gm.le.refl _) R h2⟩
/-! ### operators -/
/-- what a value rule r asks is told by the mirror's m -/
def Snd2 (K : PySem.W.Frag) (ca : Str → Addr) (r : R2) (m : DV → DV → Store → Option (DV × Store)) : Prop :=
  ∀ G σ ρ st H vx vy x y d st' (Q : VK), RelS K ca G σ ρ st H → RepV K G vx x → RepV K G vy y → m x y st = some (d, st') →
    (∀ G' H' v, G.le G' → RelS K ca G' σ ρ st' H' → RepV K G' v d → Q v H') → r vx vy H Q
def Snd1 (K : PySem.W.Frag) (ca : Str → Addr) (r : V → Hp → VK → Prop) (m : DV → Store → Option (DV × Store)) : Prop :=
  ∀ G σ ρ st H vx x d st' (Q : VK), RelS K ca G σ ρ st H → RepV K G vx x → m x st = some (d, st') →
    (∀ G' H' v, G.le G' → RelS K ca G' σ ρ st' H' → RepV K G' v d → Q v H') → r vx H Q
def SndN (K : PySem.W.Frag) (ca : Str → Addr) (r : List V → Hp → VK → Prop) (m : List DV → Store → Option (DV × Store)) : Prop :=
  ∀ G σ ρ st H vs ds d st' (Q : VK), RelS K ca G σ ρ st H → RepVs K G vs ds → m ds st = some (d, st') →
    (∀ G' H' v, G.le G' → RelS K ca G' σ ρ st' H' → RepV K G' v d → Q v H') → r vs H Q
def x2 (a b : XM DV) (m : DV → DV → Store → Option (DV × Store)) : XM DV := xBind a fun x => xBind b fun y => xV (m x y)
theorem rd_x2 {r : R2} {m : DV → DV → Store → Option (DV × Store)} {ma mb : XM DV} {σ : St} {H : Hp} {Q : VK} (s : Snd2 K ca r m) (h : rdE K ca W (x2 ma mb m) σ H Q) : tOp r (rdE K ca W ma) (rdE K ca W mb) σ H Q := by
  refine rd_bind h fun G ρ st H1 vx x R rx o => ?_
  refine rd_of (m := mb) R (out_bind o fun G1 H2 vy y st1 le R1 ry o1 => ?_)
  obtain ⟨d, st', e, q⟩ := out_xV o1
  exact s G1 σ ρ st1 H2 vx vy x y d st' Q R1 (rx.mono le) ry e q
def x1 (a : XM DV) (m : DV → Store → Option (DV × Store)) : XM DV := xBind a fun x => xV (m x)
theorem rd_x1 {r : V → Hp → VK → Prop} {m : DV → Store → Option (DV × Store)} {ma : XM DV} {σ : St} {H : Hp} {Q : VK} (s : Snd1 K ca r m) (h : rdE K ca W (x1 ma m) σ H Q) : tUn r (rdE K ca W ma) σ H Q := by
  refine rd_bind h fun G ρ st H1 vx x R rx o => ?_
  obtain ⟨d, st', e, q⟩ := out_xV o
  exact s G σ ρ st H1 vx x d st' Q R rx e q
section
variable {a b : Expr} {ma mb : XM DV} {pos : Pos}
theorem re_bin {op : Operator} {r : R2} {m : DV → DV → Store → Option (DV × Store)} (ho : OpR X (binaryOp op) r) (s : Snd2 K ca r m) (ha : PE X a (rdE K ca W ma)) (hb : PE X b (rdE K ca W mb)) :
    PE X (.BinOp a op b pos) (rdE K ca W (x2 ma mb m)) := pe_weak (pe_op ho ha hb) fun _ _ _ q => rd_x2 s q
theorem re_un {op : UnaryOp} {r : V → Hp → VK → Prop} {m : DV → Store → Option (DV × Store)} (ho : UnR X (unaryOp op) r) (s : Snd1 K ca r m) (ha : PE X a (rdE K ca W ma)) :
    PE X (.UnaryOp op a pos) (rdE K ca W (x1 ma m)) := pe_weak (pe_un ho ha) fun _ _ _ q => rd_x1 s q
theorem re_cmp {op : CmpOp} {r : R2} {m : DV → DV → Store → Option (DV × Store)} (ho : OpR X (compareOp op) r) (s : Snd2 K ca r m) (ha : PE X a (rdE K ca W ma)) (hb : PE X b (rdE K ca W mb)) (hm : behindInMarks op b = false) :
    PE X (.Compare a [op] [b] pos) (rdE K ca W (x2 ma mb m)) := pe_weak (pe_cmpR ho ha hb hm) fun _ _ _ q => rd_x2 s q
end
/-- a bool as a test -/
def xAsB (a : XM DV) : XM Bool := xBind a fun d => match d with
  | .bl b => xPure b
  | _ => xBad
theorem rd_asB {ma : XM DV} {σ : St} {H : Hp} {Q : Bool → Hp → Prop} (h : rdT K ca W (xAsB ma) σ H Q) : rdE K ca W ma σ H fun x H' => ∃ k, x = .bl k ∧ Q k H' := by
  refine rd_bind h fun G ρ st H1 v d R r o => ?_
  cases d with
  | bl b =>
    cases r
    exact ⟨b, rfl, o G H1 b (Gm.le.refl _) R rfl⟩
  | _ => exact o.elim
def xOfB (a : XM Bool) : XM DV := xBind a fun b => xPure (.bl b)
/-! ### and, or, not, if -/
def xIf {β : Type} (c : XM Bool) (a b : XM β) : XM β := xBind c fun k => if k then a else b
theorem rd_if {α β : Type} {Rp : Gm → α → β → Prop} {c : XM Bool} {ma mb : XM β} {σ : St} {H : Hp} {Q : α → Hp → Prop} (h : rd K ca Rp W (xIf c ma mb) σ H Q) :
    rdT K ca W c σ H fun k H1 => if k = true then rd K ca Rp W ma σ H1 Q else rd K ca Rp W mb σ H1 Q := by
  refine rd_bind h fun G ρ st H1 k k' R r o => ?_
  obtain rfl : k = k' := r
  cases k with
  | true => exact ⟨G, ρ, st, R, o⟩
  | false => exact ⟨G, ρ, st, R, o⟩
theorem re_if {c a b : Expr} {mc : XM Bool} {ma mb : XM DV} {pos : Pos} (hc : PT X c (rdT K ca W mc)) (ha : PE X a (rdE K ca W ma)) (hb : PE X b (rdE K ca W mb)) : PE X (.IfExp c a b pos) (rdE K ca W (xIf mc ma mb)) :=
  pe_weak (pe_ifExp hc ha hb) fun _ _ _ q => rd_if q
def xNot (c : XM Bool) : XM Bool := xBind c fun k => xPure (!k)
theorem rt_not {a : Expr} {mc : XM Bool} {pos : Pos} (h : PT X a (rdT K ca W mc)) : PT X (.UnaryOp .Not a pos) (rdT K ca W (xNot mc)) := pt_weak (pt_not h) fun σ H Q q => by
  refine rd_bind q fun G ρ st H1 k k' R r o => ?_
  obtain rfl : k = k' := r
  exact o G H1 _ (Gm.le.refl _) R rfl
def xAnd (a b : XM Bool) : XM Bool := xIf a b (xPure false)
def xOr (a b : XM Bool) : XM Bool := xIf a (xPure true) b
theorem rw_and1 {a : Expr} {ma : XM Bool} {pos : Pos} (h : PT X a (rdT K ca W ma)) : PW X (.BoolOp .And [a] pos) (rdT K ca W ma) := pw_and1 h
theorem rw_or1 {a : Expr} {ma : XM Bool} {pos : Pos} (h : PT X a (rdT K ca W ma)) : PW X (.BoolOp .Or [a] pos) (rdT K ca W ma) := pw_or1 h
theorem rw_and {a b : Expr} {rest : List Expr} {ma mb : XM Bool} {pos : Pos} (ha : PT X a (rdT K ca W ma)) (hb : PW X (.BoolOp .And (b :: rest) pos) (rdT K ca W mb)) : PW X (.BoolOp .And (a :: b :: rest) pos) (rdT K ca W (xAnd ma mb)) :=
  pw_weak (pw_and ha hb) fun σ H Q q => by
    refine rd_mono (rd_if q) fun k H1 z => ?_
    cases k with
    | true => exact z
    | false =>
      obtain ⟨G, ρ, st, R, o⟩ := z
      exact o G H1 false (Gm.le.refl _) R rfl
theorem rw_or {a b : Expr} {rest : List Expr} {ma mb : XM Bool} {pos : Pos} (ha : PT X a (rdT K ca W ma)) (hb : PW X (.BoolOp .Or (b :: rest) pos) (rdT K ca W mb)) : PW X (.BoolOp .Or (a :: b :: rest) pos) (rdT K ca W (xOr ma mb)) :=
  pw_weak (pw_or ha hb) fun σ H Q q => by
    refine rd_mono (rd_if q) fun k H1 z => ?_
    cases k with
    | false => exact z
    | true =>
      obtain ⟨G, ρ, st, R, o⟩ := z
      exact o G H1 true (Gm.le.refl _) R rfl
/-! ### arguments -/
def xNil : XM (List DV) := xPure []
def xCons (a : XM DV) (r : XM (List DV)) : XM (List DV) := xBind a fun d => xBind r fun ds => xPure (d :: ds)
theorem ra_nil : PA X [] (rdA K ca W xNil) := pa_weak pa_nil fun σ H Q q => by
  obtain ⟨G, ρ, st, R, o⟩ := q
  exact o G H [] (Gm.le.refl _) R .nil
theorem ra_cons {ma : XM DV} {mr : XM (List DV)} (ha : PE X e (rdE K ca W ma)) (hr : PA X es (rdA K ca W mr)) (hs : starEach (e :: es) X.env = (false, eval e X.env) :: starEach es X.env) : PA X (e :: es) (rdA K ca W (xCons ma mr)) :=
  pa_weak (pa_cons ha hr hs) fun σ H Q q => by
    refine rd_bind q fun G ρ st H1 v d R r o => ?_
    refine rd_of R (out_bind o fun G1 H2 vs ds st1 le R1 r1 o1 => ?_)
    exact o1 G1 H2 (v :: vs) (Gm.le.refl _) R1 (.cons (r.mono le) r1)
def xN (a : XM (List DV)) (m : List DV → Store → Option (DV × Store)) : XM DV := xBind a fun ds => xV (m ds)
theorem rd_xN {r : List V → Hp → VK → Prop} {m : List DV → Store → Option (DV × Store)} {ma : XM (List DV)} {σ : St} {H : Hp} {Q : VK} (s : SndN K ca r m) (h : rdE K ca W (xN ma m) σ H Q) : rdA K ca W ma σ H fun vs H1 => r vs H1 Q := by
  refine rd_bind h fun G ρ st H1 vs ds R rr o => ?_
  obtain ⟨d, st', e, q⟩ := out_xV o
  exact s G σ ρ st H1 vs ds d st' Q R rr e q
end
end Mi

set_option maxHeartbeats 4000000
namespace Mi
open PySem PySem.Spec PyProof.Rows L2

/-! ### looking at containers -/
def hlst (d : DV) (st : Store) : Option (List DV) := match d with
  | .lst xs => some xs
  | .ref n => (match st[n]? with
    | some (.lst xs) => some xs
    | _ => none)
  | _ => none
def rlst (d : DV) (st : Store) : Option (List DV) := match d with
  | .scr ns => some ns
  | d => hlst d st
def htup (d : DV) : Option (List DV) := match d with
  | .tup xs => some xs
  | _ => none
def hdct (d : DV) (st : Store) : Option (List (Key × DV)) := match d with
  | .dct kvs => some kvs
  | .ref n => (match st[n]? with
    | some (.dct kvs) => some kvs
    | _ => none)
  | _ => none
section
variable {K : PySem.W.Frag} {ca : Str → Addr} {G : Gm} {σ : St} {ρ : Ev} {st : Store} {H : Hp} {v : V} {d : DV}
theorem hlst_ok (R : RelS K ca G σ ρ st H) (r : RepV K G v d) {xs : List DV} (h : hlst d st = some xs) : ∃ a vs, v = .ref a ∧ H a = some (.lst vs) ∧ RepVs K G vs xs := by
  cases r with
  | lst e rs =>
    cases h
    exact ⟨_, _, rfl, R.sub _ _ e, rs⟩
  | @ref n hn =>
    have h1 : (match st[n]? with
      | some (.lst xs) => some xs
      | _ => none) = some xs := h
    cases e : st[n]? with
    | none => rw [e] at h1; cases h1
    | some c =>
      rw [e] at h1
      cases c with
      | lst ys =>
        cases h1
        obtain ⟨vs, e2, rs⟩ := R.cells n _ e
        exact ⟨_, vs, rfl, e2, rs⟩
      | _ => cases h1
  | _ => cases h
theorem rlst_ok (R : RelS K ca G σ ρ st H) (r : RepV K G v d) {xs : List DV} (h : rlst d st = some xs) : ∃ a vs, v = .ref a ∧ SqL K H a vs ∧ RepVs K G vs xs := by
  cases r with
  | scr e rs =>
    cases h
    exact ⟨_, _, rfl, R.sub.seq e, rs⟩
  | lst e rs =>
    obtain ⟨a, vs, e1, e2, e3⟩ := hlst_ok R (.lst e rs) h
    exact ⟨a, vs, e1, .of e2, e3⟩
  | ref hn =>
    obtain ⟨a, vs, e1, e2, e3⟩ := hlst_ok R (.ref hn) h
    exact ⟨a, vs, e1, .of e2, e3⟩
  | _ => cases h
theorem htup_ok (R : RelS K ca G σ ρ st H) (r : RepV K G v d) {xs : List DV} (h : htup d = some xs) : ∃ a vs, v = .ref a ∧ SqT K H a vs ∧ RepVs K G vs xs := by
  cases r with
  | tup e rs =>
    cases h
    exact ⟨_, _, rfl, seqT_mono R.sub e, rs⟩
  | _ => cases h
theorem hdct_ok (R : RelS K ca G σ ρ st H) (r : RepV K G v d) {xs : List (Key × DV)} (h : hdct d st = some xs) : ∃ a vs, v = .ref a ∧ H a = some (.dK vs) ∧ RepKs K G vs xs := by
  cases r with
  | dct e rs =>
    cases h
    exact ⟨_, _, rfl, R.sub _ _ e, rs⟩
  | @ref n hn =>
    have h1 : (match st[n]? with
      | some (.dct xs) => some xs
      | _ => none) = some xs := h
    cases e : st[n]? with
    | none => rw [e] at h1; cases h1
    | some c =>
      rw [e] at h1
      cases c with
      | dct ys =>
        cases h1
        obtain ⟨vs, e2, rs⟩ := R.cells n _ e
        exact ⟨_, vs, rfl, e2, rs⟩
      | _ => cases h1
  | _ => cases h
end
/-! ### making containers -/
def newL (mu : Bool) (xs : List DV) (st : Store) : DV × Store := if mu then (.ref st.length, st ++ [.lst xs]) else (.lst xs, st)
def newD (mu : Bool) (xs : List (Key × DV)) (st : Store) : DV × Store := if mu then (.ref st.length, st ++ [.dct xs]) else (.dct xs, st)
section
variable {K : PySem.W.Frag} {ca : Str → Addr} {G : Gm} {σ : St} {ρ : Ev} {st : Store} {H : Hp}
theorem newL_ok (R : RelS K ca G σ ρ st H) (mu : Bool) {p : Addr} (hp : H p = none) {vs : List V} {xs : List DV} (r : RepVs K G vs xs) :
    ∃ G', G.le G' ∧ RelS K ca G' σ ρ (newL mu xs st).2 (upd H p (.lst vs)) ∧ RepV K G' (.ref p) (newL mu xs st).1 := by
  cases mu with
  | false =>
    obtain ⟨le, R'⟩ := R.froz (.lst vs) hp
    exact ⟨_, le, R', .lst upd_same (r.mono le)⟩
  | true =>
    obtain ⟨le, R', r'⟩ := R.cell (.lst vs) (.lst xs) hp fun G' le => ⟨vs, upd_same, r.mono le⟩
    exact ⟨_, le, R', r'⟩
theorem newD_ok (R : RelS K ca G σ ρ st H) (mu : Bool) {p : Addr} (hp : H p = none) {vs : List (Key × V)} {xs : List (Key × DV)} (r : RepKs K G vs xs) :
    ∃ G', G.le G' ∧ RelS K ca G' σ ρ (newD mu xs st).2 (upd H p (.dK vs)) ∧ RepV K G' (.ref p) (newD mu xs st).1 := by
  cases mu with
  | false =>
    obtain ⟨le, R'⟩ := R.froz (.dK vs) hp
    exact ⟨_, le, R', .dct upd_same (r.mono le)⟩
  | true =>
    obtain ⟨le, R', r'⟩ := R.cell (.dK vs) (.dct xs) hp fun G' le => ⟨vs, upd_same, r.mono le⟩
    exact ⟨_, le, R', r'⟩
theorem newT_ok (R : RelS K ca G σ ρ st H) {p : Addr} (hp : H p = none) {vs : List V} {xs : List DV} (r : RepVs K G vs xs) :
    ∃ G', G.le G' ∧ RelS K ca G' σ ρ st (upd H p (.tup vs)) ∧ RepV K G' (.ref p) (.tup xs) := by
  obtain ⟨le, R'⟩ := R.froz (.tup vs) hp
  exact ⟨_, le, R', .tup (.of upd_same) (r.mono le)⟩
end
/-! ### ints -/
abbrev V2 := DV → DV → Store → Option (DV × Store)
abbrev V1 := DV → Store → Option (DV × Store)
abbrev VN := List DV → Store → Option (DV × Store)
def oI (C : Int → Int → Bool) (g : Int → Int → DV) : V2 := fun x y st => match x, y with
  | .int i, .int j => if C i j then some (g i j, st) else none
  | _, _ => none
def V2.or (a b : V2) : V2 := fun x y st => match a x y st with
  | some r => some r
  | none => b x y st
section
variable {K : PySem.W.Frag} {ca : Str → Addr}
theorem Snd2.or {r r' : R2} {m m' : V2} (s : Snd2 K ca r m) (s' : Snd2 K ca r' m') : Snd2 K ca (fun x y H Q => r x y H Q ∨ r' x y H Q) (m.or m') := by
  intro G σ ρ st H vx vy x y d st' Q R rx ry e q
  unfold V2.or at e
  cases h : m x y st with
  | some z =>
    rw [h] at e
    cases e
    exact .inl (s G σ ρ st H vx vy x y d st' Q R rx ry h q)
  | none =>
    rw [h] at e
    exact .inr (s' G σ ρ st H vx vy x y d st' Q R rx ry e q)
theorem oI_inv {C : Int → Int → Bool} {g : Int → Int → DV} {x y d : DV} {st st' : Store} (e : oI C g x y st = some (d, st')) : ∃ i j, x = .int i ∧ y = .int j ∧ C i j = true ∧ d = g i j ∧ st' = st := by
  unfold oI at e
  split at e
  · split at e
    · cases e
      exact ⟨_, _, rfl, rfl, by assumption, rfl, rfl⟩
    · cases e
  · cases e
theorem snd_rI {C : Int → Int → Prop} {B : Int → Int → Bool} {g : Int → Int → V} {g' : Int → Int → DV} (h : ∀ i j, B i j = true → C i j) (hg : ∀ G i j, RepV K G (g i j) (g' i j)) : Snd2 K ca (rI C g) (oI B g') := by
  intro G σ ρ st H vx vy x y d st' Q R rx ry e q
  obtain ⟨i, j, rfl, rfl, b, rfl, rfl⟩ := oI_inv e
  cases rx
  cases ry
  exact ⟨i, j, rfl, rfl, h i j b, q G H _ (Gm.le.refl _) R (hg G i j)⟩
theorem snd_rI0 {g : Int → Int → V} {g' : Int → Int → DV} (hg : ∀ G i j, RepV K G (g i j) (g' i j)) : Snd2 K ca (rI0 g) (oI (fun _ _ => true) g') := by
  intro G σ ρ st H vx vy x y d st' Q R rx ry e q
  obtain ⟨i, j, rfl, rfl, b, rfl, rfl⟩ := oI_inv e
  cases rx
  cases ry
  exact ⟨i, j, rfl, rfl, q G H _ (Gm.le.refl _) R (hg G i j)⟩
end
/-! ### + - * // % ** -/
def oAddS : V2 := fun x y st => match x, y with
  | .str a, .str b => if a.length + b.length ≤ sizeLine then some (.str (a ++ b), st) else none
  | _, _ => none
def oCat (mu : Bool) : V2 := fun x y st => match hlst x st, hlst y st with
  | some xs, some ys => if xs.length + ys.length ≤ sizeLine then some (newL mu (xs ++ ys) st) else none
  | _, _ => none
def oCatT : V2 := fun x y st => match x, y with
  | .tup xs, .tup ys => if xs ≠ [] ∧ xs.length + ys.length ≤ sizeLine then some (.tup (xs ++ ys), st) else none
  | _, _ => none

section
variable {K : PySem.W.Frag} {ca : Str → Addr} {X : Cx}
theorem snd_addS : Snd2 K ca (fun x y H Q => ∃ i j, x = .str i ∧ y = .str j ∧ i.length + j.length ≤ sizeLine ∧ Q (.str (i ++ j)) H) oAddS := by
  intro G σ ρ st H vx vy x y d st' Q R rx ry e q
  unfold oAddS at e
  split at e
  · split at e
    · rename_i h
      cases e
      cases rx
      cases ry
      exact ⟨_, _, rfl, rfl, h, q G H _ (Gm.le.refl _) R (.str _)⟩
    · cases e
  · cases e
theorem snd_cat (mu : Bool) : Snd2 K ca rCat (oCat mu) := by
  intro G σ ρ st H vx vy x y d st' Q R rx ry e q
  unfold oCat at e
  cases hx : hlst x st with
  | none => rw [hx] at e; cases e
  | some xs =>
    cases hy : hlst y st with
    | none => rw [hx, hy] at e; cases e
    | some ys =>
      rw [hx, hy] at e
      obtain ⟨a, vs, rfl, ea, ra⟩ := hlst_ok R rx hx
      obtain ⟨b, ws, rfl, eb, rb⟩ := hlst_ok R ry hy
      simp only at e
      split at e
      · rename_i h
        have e2 := Option.some.inj e
        refine ⟨a, b, vs, ws, rfl, rfl, ea, eb, by rw [ra.len, rb.len]; exact h, fun p hp => ?_⟩
        obtain ⟨G', le, R', r'⟩ := newL_ok R mu hp (ra.append rb)
        rw [e2] at R' r'
        exact q G' _ _ le R' r'
      · cases e
theorem snd_catT : Snd2 K ca (rCatT K) oCatT := by
  intro G σ ρ st H vx vy x y d st' Q R rx ry e q
  unfold oCatT at e
  split at e
  · rename_i xs ys
    split at e
    · rename_i h
      cases e
      obtain ⟨a, vs, rfl, ea, ra⟩ := htup_ok R rx rfl
      obtain ⟨b, ws, rfl, eb, rb⟩ := htup_ok R ry rfl
      refine ⟨a, b, vs, ws, rfl, rfl, ea, eb, ?_, by rw [ra.len, rb.len]; exact h.2, fun hn => ?_, fun hn p hp => ?_⟩
      · intro z
        subst z
        cases ra
        exact h.1 rfl
      · subst hn
        cases rb
        rw [List.append_nil] at q
        exact q G H _ (Gm.le.refl _) R rx
      · obtain ⟨G', le, R', r'⟩ := newT_ok R hp (ra.append rb)
        exact q G' _ _ le R' r'
    · cases e
  · cases e
/-- list * n -/
def oRep (mu : Bool) : V2 := fun x y st => match hlst x st, y with
  | some xs, .int k => if -(2 ^ 63) ≤ k ∧ k < 2 ^ 63 ∧ xs.length * k.toNat ≤ sizeLine then some (newL mu (List.replicate k.toNat xs).flatten st) else none
  | _, _ => none
theorem RepVs.rep {G : Gm} {vs : List V} {xs : List DV} (h : RepVs K G vs xs) : ∀ n : Nat, RepVs K G (List.replicate n vs).flatten (List.replicate n xs).flatten
  | 0 => .nil
  | n + 1 => by
    rw [List.replicate_succ, List.replicate_succ, List.flatten_cons, List.flatten_cons]
    exact h.append (RepVs.rep h n)
theorem snd_rep (mu : Bool) : Snd2 K ca rRep (oRep mu) := by
  intro G σ ρ st H vx vy x y d st' Q R rx ry e q
  unfold oRep at e
  cases hx : hlst x st with
  | none => rw [hx] at e; cases e
  | some xs =>
    rw [hx] at e
    obtain ⟨a, vs, rfl, ea, ra⟩ := hlst_ok R rx hx
    cases y with
    | int k =>
      cases ry
      simp only at e
      split at e
      · rename_i h
        have e2 := Option.some.inj e
        refine ⟨a, k, vs, rfl, rfl, ea, h.1, h.2.1, by rw [ra.len]; exact h.2.2, fun p hp => ?_⟩
        obtain ⟨G', le, R', r'⟩ := newL_ok R mu hp (ra.rep k.toNat)
        rw [e2] at R' r'
        exact q G' _ _ le R' r'
      · cases e
    | _ => cases e
def cMulB (i j : Int) : Bool := decide (-(2 ^ 64) < i ∧ i < 2 ^ 64) || decide (-(2 ^ 64) < j ∧ j < 2 ^ 64)
def cDivB (i j : Int) : Bool := decide (j ≠ 0 ∧ j.natAbs < 1073741824)
def cPowB (i j : Int) : Bool := decide (0 ≤ j ∧ j ≤ 1000000 ∧ i.natAbs < 2 ^ 64)
def oAdd (mu : Bool) : V2 := ((oI (fun _ _ => true) fun i j => .int (i + j)).or oAddS).or ((oCat mu).or oCatT)
def oSub : V2 := oI (fun _ _ => true) fun i j => .int (i - j)
def oMul (mu : Bool) : V2 := (oI cMulB fun i j => .int (i * j)).or (oRep mu)
def oFdiv : V2 := oI cDivB fun i j => .int (i.fdiv j)
def oMod : V2 := oI (fun _ j => decide (j ≠ 0)) fun i j => .int (i.fmod j)
def oPow : V2 := oI cPowB fun i j => .int (i ^ j.toNat)
def oAndI : V2 := oI (fun _ _ => true) fun i j => .int (Builtin.bitAnd i j)
def oOrI : V2 := oI (fun _ _ => true) fun i j => .int (Builtin.bitOr i j)
def oXorI : V2 := oI (fun _ _ => true) fun i j => .int (Builtin.bitXor i j)
def oBin (op : Operator) (mu : Bool) : Option V2 := match op with
  | .Add => some (oAdd mu)
  | .Sub => some oSub
  | .Mult => some (oMul mu)
  | .FloorDiv => some oFdiv
  | .Mod => some oMod
  | .Pow => some oPow
  | .BitAnd => some oAndI
  | .BitOr => some oOrI
  | .BitXor => some oXorI
  | _ => none
theorem oBin_ok {op : Operator} {mu : Bool} {m : V2} (h : oBin op mu = some m) : ∃ r, OpR X (binaryOp op) r ∧ Snd2 X.K ca r m := by
  cases op with
  | Add =>
    cases h
    exact ⟨_, (op_add.or op_add_str).or (op_cat.or op_catT), ((snd_rI0 fun G i j => .int _).or snd_addS).or ((snd_cat mu).or snd_catT)⟩
  | Sub => cases h; exact ⟨_, op_sub, snd_rI0 fun G i j => .int _⟩
  | Mult =>
    cases h
    refine ⟨_, op_mul.or op_rep, (snd_rI (fun i j hb => ?_) fun G i j => .int _).or (snd_rep mu)⟩
    unfold cMulB at hb
    rw [Bool.or_eq_true, decide_eq_true_eq, decide_eq_true_eq] at hb
    exact hb
  | FloorDiv => cases h; exact ⟨_, op_fdivN, snd_rI (fun i j hb => show j ≠ 0 ∧ j.natAbs < 1073741824 from of_decide_eq_true hb) fun G i j => .int _⟩
  | Mod => cases h; exact ⟨_, op_modN, snd_rI (fun i j hb => of_decide_eq_true hb) fun G i j => .int _⟩
  | Pow => cases h; exact ⟨_, op_pow, snd_rI (fun i j hb => show 0 ≤ j ∧ j ≤ 1000000 ∧ i.natAbs < 2 ^ 64 from of_decide_eq_true hb) fun G i j => .int _⟩
  | BitAnd => cases h; exact ⟨_, op_and, snd_rI0 fun G i j => .int _⟩
  | BitOr => cases h; exact ⟨_, op_or, snd_rI0 fun G i j => .int _⟩
  | BitXor => cases h; exact ⟨_, op_xor, snd_rI0 fun G i j => .int _⟩
  | _ => cases h
/-! ### comparisons -/
def keyPD : Key → PyData
  | .inl i => .int i
  | .inr s => .str s
def mapO {α β : Type} (f : α → Option β) : List α → Option (List β)
  | [] => some []
  | x :: r => match f x, mapO f r with
    | some y, some ys => some (y :: ys)
    | _, _ => none
def toPD : Nat → Store → DV → Option PyData
  | 0, _, _ => none
  | n + 1, st, d => match d with
    | .non => some .none
    | .bl b => some (.bool b)
    | .int i => some (.int i)
    | .str s => some (.str s)
    | .scr xs => (mapO (toPD n st) xs).map .list
    | .tup xs => (mapO (toPD n st) xs).map .tuple
    | .lst xs => (mapO (toPD n st) xs).map .list
    | .dct kvs => (mapO (fun kv => (toPD n st kv.2).map fun p => (keyPD kv.1, p)) kvs).map .dict
    | .exn _ _ => none
    | .ref k => match st[k]? with
      | some (.lst xs) => (mapO (toPD n st) xs).map .list
      | some (.dct kvs) => (mapO (fun kv => (toPD n st kv.2).map fun p => (keyPD kv.1, p)) kvs).map .dict
      | _ => none
def eqS : DV → DV → Bool
  | .non, .non => true
  | .bl a, .bl b => a == b
  | .bl a, .int b => (if a then 1 else 0) == b
  | .int a, .bl b => a == (if b then 1 else 0)
  | .int a, .int b => a == b
  | .str a, .str b => a == b
  | _, _ => false
def flatD : DV → Bool
  | .non => true
  | .bl _ => true
  | .int _ => true
  | .str _ => true
  | _ => false
theorem flatD_ok {G : Gm} {v : V} {d : DV} (r : RepV K G v d) (h : flatD d = true) : flatV v = true := by
  cases r <;> first | rfl | cases h
theorem flatsD_ok {G : Gm} : ∀ {vs : List V} {ds : List DV}, RepVs K G vs ds → ds.all flatD = true → vs.all flatV = true
  | _, _, .nil, _ => rfl
  | _, _, .cons a b, h => by
    rw [List.all_cons, Bool.and_eq_true] at h ⊢
    exact ⟨flatD_ok a h.1, flatsD_ok b h.2⟩
theorem eqS_ok {G : Gm} {v w : V} {d e : DV} (r : RepV K G v d) (q : RepV K G w e) (h : flatD d = true) (k : flatD e = true) : eqV v w = eqS d e := by
  cases r <;> cases q <;> first | rfl | (cases h; done) | (cases k; done)
theorem inS_ok {G : Gm} {w : V} {e : DV} (q : RepV K G w e) (k : flatD e = true) : ∀ {vs : List V} {ds : List DV}, RepVs K G vs ds → ds.all flatD = true → inV w vs = ds.any fun d => eqS d e
  | _, _, .nil, _ => rfl
  | _, _, .cons a b, h => by
    rw [List.all_cons, Bool.and_eq_true] at h
    have ih := inS_ok q k b h.2
    unfold inV at ih ⊢
    rw [List.any_cons, List.any_cons, eqS_ok a q h.1 k, ih]
def rseq (d : DV) (st : Store) : Option (List DV) := match htup d with
  | some xs => some xs
  | none => rlst d st
theorem rseq_ok {G : Gm} {σ : St} {ρ : Ev} {st : Store} {H : Hp} {v : V} {d : DV} (R : RelS K ca G σ ρ st H) (r : RepV K G v d) {xs : List DV} (h : rseq d st = some xs) : ∃ a vs, v = .ref a ∧ (SqL K H a vs ∨ SqT K H a vs) ∧ RepVs K G vs xs := by
  unfold rseq at h
  cases e : htup d with
  | some ys =>
    rw [e] at h
    cases h
    obtain ⟨a, vs, e1, e2, e3⟩ := htup_ok R r e
    exact ⟨a, vs, e1, .inr e2, e3⟩
  | none =>
    rw [e] at h
    obtain ⟨a, vs, e1, e2, e3⟩ := rlst_ok R r h
    exact ⟨a, vs, e1, .inl e2, e3⟩
def oIn (neg : Bool) : V2 := fun x y st => match rseq y st with
  | some xs => if flatD x && xs.all flatD then some (.bl (if neg then !(xs.any fun d => eqS d x) else xs.any fun d => eqS d x), st) else none
  | none => none
theorem snd_in (neg : Bool) : Snd2 K ca (rIn K neg) (oIn neg) := by
  intro G σ ρ st H vx vy x y d st' Q R rx ry e q
  unfold oIn at e
  cases h : rseq y st with
  | none => rw [h] at e; cases e
  | some xs =>
    rw [h] at e
    obtain ⟨a, vs, rfl, ea, ra⟩ := rseq_ok R ry h
    simp only at e
    split at e
    · rename_i hf
      rw [Bool.and_eq_true] at hf
      cases e
      have z := q G H _ (Gm.le.refl _) R (.bl _)
      rw [← inS_ok rx hf.1 ra hf.2] at z
      exact ⟨a, vs, rfl, ea, flatD_ok rx hf.1, flatsD_ok ra hf.2, z⟩
    · cases e
def oInS (neg : Bool) : V2 := fun x y st => match x, y with
  | .str i, .str j => some (.bl (if neg then !(!(Builtin.Str.occurrences j i 0 j.length 1).isEmpty) else !(Builtin.Str.occurrences j i 0 j.length 1).isEmpty), st)
  | _, _ => none
def oEqN (neg : Bool) : V2 := fun x y st => match toPD 40 st x, toPD 40 st y with
  | some p, some q => if SeqAt.shaped p && SeqAt.shaped q then some (.bl (if neg then !PyData.eqv p q else PyData.eqv p q), st) else none
  | _, _ => none
def isNon : DV → Bool
  | .non => true
  | _ => false
def oIs (neg : Bool) : V2 := fun x y st => match y with
  | .non => some (.bl (if neg then !isNon x else isNon x), st)
  | _ => none
mutual
inductive Dq (K : PySem.W.Frag) (H : Hp) : V → PyData → Prop
  | non : Dq K H .non .none
  | bl (b : Bool) : Dq K H (.bl b) (.bool b)
  | int (i : Int) : Dq K H (.int i) (.int i)
  | str (x : Str) : Dq K H (.str x) (.str x)
  | lst {a : Addr} {xs : List V} {ds : List PyData} : SqL K H a xs → Dqs K H xs ds → Dq K H (.ref a) (.list ds)
  | tup {a : Addr} {xs : List V} {ds : List PyData} : SqT K H a xs → Dqs K H xs ds → Dq K H (.ref a) (.tuple ds)
  | dct {a : Addr} {kvs : List (Key × V)} {ds : List (PyData × PyData)} : H a = some (.dK kvs) → Dqk K H kvs ds → Dq K H (.ref a) (.dict ds)
inductive Dqs (K : PySem.W.Frag) (H : Hp) : List V → List PyData → Prop
  | nil : Dqs K H [] []
  | cons {v : V} {vs : List V} {d : PyData} {ds : List PyData} : Dq K H v d → Dqs K H vs ds → Dqs K H (v :: vs) (d :: ds)
inductive Dqk (K : PySem.W.Frag) (H : Hp) : List (Key × V) → List (PyData × PyData) → Prop
  | nil : Dqk K H [] []
  | cons {k : Key} {v : V} {vs : List (Key × V)} {d : PyData} {ds : List (PyData × PyData)} : Dq K H v d → Dqk K H vs ds → Dqk K H ((k, v) :: vs) ((keyPD k, d) :: ds)
end
theorem toPD_list {st : Store} {n : Nat} {G : Gm} {H : Hp} (ih : ∀ (d : DV) (v : V) (p : PyData), toPD n st d = some p → RepV K G v d → Dq K H v p) : ∀ {vs : List V} {ds : List DV} {ps : List PyData}, RepVs K G vs ds → mapO (toPD n st) ds = some ps → Dqs K H vs ps
  | _, _, _, .nil, h => by
    cases h
    exact .nil
  | _, _, _, .cons (d := d) (ds := ds) a b, h => by
    unfold mapO at h
    cases e1 : toPD n st d with
    | none => rw [e1] at h; cases h
    | some p =>
      cases e2 : mapO (toPD n st) ds with
      | none => rw [e1, e2] at h; cases h
      | some ps =>
        rw [e1, e2] at h
        cases h
        exact .cons (ih d _ p e1 a) (toPD_list ih b e2)
theorem toPD_keys {st : Store} {n : Nat} {G : Gm} {H : Hp} (ih : ∀ (d : DV) (v : V) (p : PyData), toPD n st d = some p → RepV K G v d → Dq K H v p) : ∀ {vs : List (Key × V)} {ds : List (Key × DV)} {ps : List (PyData × PyData)}, RepKs K G vs ds → mapO (fun kv => (toPD n st kv.2).map fun p => (keyPD kv.1, p)) ds = some ps → Dqk K H vs ps
  | _, _, _, .nil, h => by
    cases h
    exact .nil
  | _, _, _, .cons (d := d) (ds := ds) a b, h => by
    unfold mapO at h
    cases e1 : toPD n st d with
    | none => simp only [e1, Option.map_none] at h; cases h
    | some p =>
      cases e2 : mapO (fun kv : Key × DV => (toPD n st kv.2).map fun p => (keyPD kv.1, p)) ds with
      | none => simp only [e1, e2, Option.map_some] at h; cases h
      | some ps =>
        simp only [e1, e2, Option.map_some] at h
        cases h
        exact .cons (ih d _ p e1 a) (toPD_keys ih b e2)
theorem Dqs.ints {H : Hp} : ∀ ns : List Int, Dqs K H (ns.map V.int) (ns.map PyData.int)
  | [] => .nil
  | n :: r => .cons (.int n) (Dqs.ints r)
theorem toPD_ok {G : Gm} {σ : St} {ρ : Ev} {st : Store} {H : Hp} (R : RelS K ca G σ ρ st H) : ∀ (n : Nat) (d : DV) (v : V) (p : PyData), toPD n st d = some p → RepV K G v d → Dq K H v p
  | 0, _, _, _, h, _ => by cases h
  | n + 1, d, v, p, h, r => by
    have ih := toPD_ok R n
    unfold toPD at h
    cases r with
    | non => cases h; exact .non
    | bl b => cases h; exact .bl b
    | int i => cases h; exact .int i
    | str s => cases h; exact .str s
    | scr e rs =>
      obtain ⟨ps, h1, rfl⟩ := Option.map_eq_some_iff.mp h
      exact .lst (R.sub.seq e) (toPD_list ih rs h1)
    | tup e rs =>
      obtain ⟨ps, h1, rfl⟩ := Option.map_eq_some_iff.mp h
      exact .tup (seqT_mono R.sub e) (toPD_list ih rs h1)
    | lst e rs =>
      obtain ⟨ps, h1, rfl⟩ := Option.map_eq_some_iff.mp h
      exact .lst (.of (R.sub _ _ e)) (toPD_list ih rs h1)
    | dct e rs =>
      obtain ⟨ps, h1, rfl⟩ := Option.map_eq_some_iff.mp h
      exact .dct (R.sub _ _ e) (toPD_keys ih rs h1)
    | exn _ _ _ _ _ => cases h
    | @ref k hk =>
      simp only at h
      cases e : st[k]? with
      | none => rw [e] at h; cases h
      | some c =>
        rw [e] at h
        cases c with
        | lst xs =>
          obtain ⟨ps, h1, rfl⟩ := Option.map_eq_some_iff.mp h
          obtain ⟨vs, e2, rs⟩ := R.cells k _ e
          exact .lst (.of e2) (toPD_list ih rs h1)
        | dct xs =>
          obtain ⟨ps, h1, rfl⟩ := Option.map_eq_some_iff.mp h
          obtain ⟨vs, e2, rs⟩ := R.cells k _ e
          exact .dct e2 (toPD_keys ih rs h1)
        | ins c fs => cases h
        | dead => cases h
mutual
theorem Dq.dp {H : Hp} : ∀ {v : V} {p : PyData}, Dq K H v p → p.canLay0 = true → Dp K H v p
  | _, _, .non, _ => .non
  | _, _, .bl b, _ => .bl b
  | _, _, .int i, _ => .int i
  | _, _, .str s, _ => .str s
  | _, _, .lst e rs, h => .lst e (Dqs.dp rs (by simpa [PyData.canLay0] using h))
  | _, _, .tup e rs, h => .tup e (Dqs.dp rs (by simpa [PyData.canLay0] using h))
  | _, _, .dct e rs, h => by simp [PyData.canLay0] at h
theorem Dqs.dp {H : Hp} : ∀ {vs : List V} {ps : List PyData}, Dqs K H vs ps → PyData.canLayAll0 ps = true → DpAll K H vs ps
  | _, _, .nil, _ => .nil
  | _, _, .cons (d := d) (ds := ds) a b, h => by
    have h' : d.canLay0 = true ∧ PyData.canLayAll0 ds = true := by simpa [PyData.canLayAll0] using h
    exact .cons (Dq.dp a h'.1) (Dqs.dp b h'.2)
end
def rEqN (K : PySem.W.Frag) (neg : Bool) : R2 := fun x y H Q => ∃ d e, Dp K H x d ∧ Dp K H y e ∧ SeqAt.shaped d = true ∧ SeqAt.shaped e = true ∧ Q (.bl (if neg then !PyData.eqv d e else PyData.eqv d e)) H
theorem snd_eqN (neg : Bool) : Snd2 K ca (rEqN K neg) (oEqN neg) := by
  intro G σ ρ st H vx vy x y d st' Q R rx ry e q
  unfold oEqN at e
  cases hx : toPD 40 st x with
  | none => rw [hx] at e; cases e
  | some p =>
    cases hy : toPD 40 st y with
    | none => rw [hx, hy] at e; cases e
    | some p' =>
      rw [hx, hy] at e
      simp only at e
      split at e
      · rename_i hf
        rw [Bool.and_eq_true] at hf
        cases e
        exact ⟨p, p', (toPD_ok R 40 x vx p hx rx).dp (SeqAt.canLay_of_shaped hf.1), (toPD_ok R 40 y vy p' hy ry).dp (SeqAt.canLay_of_shaped hf.2), hf.1, hf.2, q G H _ (Gm.le.refl _) R (.bl _)⟩
      · cases e
def rIs (neg : Bool) : R2 := fun x y H Q => y = .non ∧ Q (.bl (if neg then !decide (x = .non) else decide (x = .non))) H
theorem snd_is (neg : Bool) : Snd2 K ca (rIs neg) (oIs neg) := by
  intro G σ ρ st H vx vy x y d st' Q R rx ry e q
  unfold oIs at e
  cases ry with
  | non =>
    cases e
    refine ⟨rfl, ?_⟩
    have z := q G H _ (Gm.le.refl _) R (.bl _)
    have e2 : decide (vx = V.non) = isNon x := by
      cases rx <;> simp [isNon]
    rw [e2]
    exact z
  | _ => cases e
end
end Mi

set_option maxHeartbeats 4000000
namespace Mi
open PySem PySem.Spec PyProof.Rows L2

/-! ### reading data off the heap -/
def SysIn (K : PySem.W.Frag) : Prop := ∃ o es n, K.lookup sysModules = some o ∧ o.data = .dict es n
section
variable {X : Cx} {pins : List (Addr × Obj)} {σ : St} {H : Hp} {s : Shared}
theorem ne_sys (S : SysIn X.K) (I : Inv X pins σ H s) {a : Addr} {o : Obj} {vs : Array Value} {n : Nat} (ha : s.heap.get? a = some o) (hd : o.data = .seq vs n) : a ≠ sysModules := by
  obtain ⟨o', es, m, h1, h2⟩ := S
  intro e
  subst e
  have h3 := I.kIn _ _ h1
  rw [ha] at h3
  cases h3
  rw [hd] at h2
  cases h2
theorem keys_read {w : World} {prog : Program} {h : Heap} {es : List DictEntry} {vs : List (Key × Value)} (p : Pairs (mixKind prog w) es vs) : ReadsAll h (es.map (·.key)) (vs.map fun kv => keyPD kv.1) [] := by
  induction p with
  | nil => exact .nil
  | @cons e kv es vs h1 h2 _ ih =>
    have k1 : Reads h e.key (keyPD kv.1) [] := by
      rcases keyIs_shape (k := kv.1) (v := e.key) h1 with ⟨i, t, e1, e2⟩ | ⟨x, t, e1, e2⟩
      · rw [e1, e2]; exact .int i t
      · rw [e1, e2]; exact .str x t
    exact .cons (as := []) (bs := []) k1 ih
theorem keysPD {vs : List (Key × V)} {ds : List (PyData × PyData)} {K : PySem.W.Frag} {H : Hp} (h : Dqk K H vs ds) : ds.map (·.1) = vs.map fun kv => keyPD kv.1 := by
  induction ds generalizing vs with
  | nil => cases h; rfl
  | cons d ds ih =>
    cases h with
    | cons a b => rw [List.map_cons, List.map_cons, ih b]
theorem kv_keys {vs : List (Key × V)} {us : List (Key × Value)} (h : KV vs us) : (vs.map fun kv => keyPD kv.1) = us.map fun kv => keyPD kv.1 := by
  induction h with
  | nil => rfl
  | cons a _ ih => rw [List.map_cons, List.map_cons, ih, a.1]
mutual
theorem Dq.reads (S : SysIn X.K) (I : Inv X pins σ H s) : ∀ {v : V} {p : PyData} {u : Value}, Dq X.K H v p → RelV v u → ∃ as, Reads s.heap u p as ∧ sysModules ∉ as
  | _, _, _, .non, r => by cases r; exact ⟨_, .none, by simp⟩
  | _, _, _, .bl b, r => by cases r; exact ⟨_, .bool b, by simp⟩
  | _, _, _, .int i, r => by obtain ⟨t, rfl⟩ := r; exact ⟨_, .int i t, by simp⟩
  | _, _, _, .str x, r => by obtain ⟨t, rfl⟩ := r; exact ⟨_, .str x t, by simp⟩
  | _, _, _, .lst hs ha, r => by
    cases r
    obtain ⟨its, rv, ⟨o, n, ho, hc, _, hd⟩, _⟩ := I.list hs
    obtain ⟨as, hr, hn⟩ := Dqs.reads S I ha rv
    refine ⟨_, Reads.list ho hc hd hr, fun hm => ?_⟩
    rcases List.mem_cons.mp hm with e | e
    · exact ne_sys S I ho hd e.symm
    · exact hn e
  | _, _, _, .tup hs ha, r => by
    cases r
    obtain ⟨its, rv, ⟨o, ho, hc, n, hd⟩, _⟩ := I.tuple hs
    obtain ⟨as, hr, hn⟩ := Dqs.reads S I ha rv
    exact ⟨_, Reads.tuple ho hc hd hr, hn⟩
  | _, _, _, .dct (a := a) (ds := ds) hs ha, r => by
    cases r
    obtain ⟨z, hne, us, rel, o, es, ep, ho, ex, hd, _, hp, _⟩ := dk_of I.hok hs
    obtain ⟨as, hr, hn⟩ := Dqk.reads S I ha rel hp
    have k1 := keys_read (h := s.heap) hp
    rw [← kv_keys rel, ← keysPD ha] at k1
    refine ⟨_, Reads.dict ho ex.1 hd k1 hr, fun hm => ?_⟩
    rcases List.mem_cons.mp (show sysModules ∈ a :: ([] ++ as) from hm) with e | e
    · rw [← e] at hne
      simp at hne
    · exact hn e
theorem Dqs.reads (S : SysIn X.K) (I : Inv X pins σ H s) : ∀ {vs : List V} {ps : List PyData} {us : List Value}, Dqs X.K H vs ps → Vals vs us → ∃ as, ReadsAll s.heap us ps as ∧ sysModules ∉ as
  | _, _, _, .nil, r => by cases r; exact ⟨_, .nil, by simp⟩
  | _, _, _, .cons a b, r => by
    cases r with
    | cons r1 r2 =>
      obtain ⟨as, q1, n1⟩ := Dq.reads S I a r1
      obtain ⟨bs, q2, n2⟩ := Dqs.reads S I b r2
      exact ⟨_, .cons q1 q2, fun hm => (List.mem_append.mp hm).elim n1 n2⟩
theorem Dqk.reads (S : SysIn X.K) (I : Inv X pins σ H s) : ∀ {vs : List (Key × V)} {ps : List (PyData × PyData)} {us : List (Key × Value)} {es : List DictEntry}, Dqk X.K H vs ps → KV vs us → Pairs (mixKind X.prog X.w) es us → ∃ as, ReadsAll s.heap (es.map (·.val)) (ps.map (·.2)) as ∧ sysModules ∉ as
  | _, _, _, _, .nil, r, p => by cases r; cases p; exact ⟨_, .nil, by simp⟩
  | _, _, _, _, .cons a b, r, p => by
    cases r with
    | cons r1 r2 =>
      cases p with
      | cons p1 p2 p3 =>
        obtain ⟨as, q1, n1⟩ := Dq.reads S I a (show RelV _ _ from p2 ▸ r1.2)
        obtain ⟨bs, q2, n2⟩ := Dqk.reads S I b r2 p3
        exact ⟨_, .cons q1 q2, fun hm => (List.mem_append.mp hm).elim n1 n2⟩
end
end
/-! ### repr -/
def rRepr (K : PySem.W.Frag) : List V → Hp → VK → Prop := fun xs H Q => ∃ v p, xs = [v] ∧ Dq K H v p ∧ p.showable = true ∧ p.depth ≤ 40 ∧ p.shown.length ≤ sizeLine ∧ Q (.str p.shown) H
theorem cr_repr {X : Cx} (S : SysIn X.K) (hg : X.A.guards = some []) (hu : X.A.units + 64 < cLine) : CallR X (.builtin "repr") (rRepr X.K) := by
  intro pins s σ H xs us Q I r h
  obtain ⟨v, p, rfl, d, hs, hd, hz, q⟩ := h
  obtain ⟨u, rfl, ru⟩ := vals1 r
  cases d with
  | non => cases ru; exact PySem.P.repr_of_none ⟨.str _, H, I.tok _, ⟨_, rfl⟩, by simpa only [PyData.shown] using q⟩
  | bl b => cases ru; exact PySem.P.repr_of_bool ⟨.str _, H, I.tok _, ⟨_, rfl⟩, by simpa only [PyData.shown] using q⟩
  | int i =>
    obtain ⟨t, rfl⟩ := ru
    exact PySem.P.repr_of_int (by simpa [PyData.showable] using hs) ⟨.str _, H, I.tok _, ⟨_, rfl⟩, by simpa only [PyData.shown] using q⟩
  | str x =>
    obtain ⟨t, rfl⟩ := ru
    exact PySem.P.repr_of_str ⟨.str _, H, I.tok _, ⟨_, rfl⟩, by simpa only [PyData.shown] using q⟩ (by simpa only [PyData.shown] using hz)
  | lst e rs =>
    have d : Dq X.K H _ _ := .lst e rs
    obtain ⟨as, hr, hn⟩ := d.reads S I ru
    cases ru
    exact repr_of_reads' hr hs (fun _ => hn) hg (by omega) (fun _ _ e => e) (fun h' u tk hk => ⟨.str _, H, I.kept hk, ⟨_, rfl⟩, q⟩) hz
  | tup e rs =>
    have d : Dq X.K H _ _ := .tup e rs
    obtain ⟨as, hr, hn⟩ := d.reads S I ru
    cases ru
    exact repr_of_reads' hr hs (fun _ => hn) hg (by omega) (fun _ _ e => e) (fun h' u tk hk => ⟨.str _, H, I.kept hk, ⟨_, rfl⟩, q⟩) hz
  | dct e rs =>
    have d : Dq X.K H _ _ := .dct e rs
    obtain ⟨as, hr, hn⟩ := d.reads S I ru
    cases ru
    exact repr_of_reads' hr hs (fun _ => hn) hg (by omega) (fun _ _ e => e) (fun h' u tk hk => ⟨.str _, H, I.kept hk, ⟨_, rfl⟩, q⟩) hz
def bRepr : VN := fun ds st => match ds with
  | [d] => (match toPD 40 st d with
    | some p => if p.showable && decide (p.depth ≤ 40) && decide (p.shown.length ≤ sizeLine) then some (.str p.shown, st) else none
    | none => none)
  | _ => none
section
variable {K : PySem.W.Frag} {ca : Str → Addr}
theorem snd_repr : SndN K ca (rRepr K) bRepr := by
  intro G σ ρ st H vs ds d st' Q R rs e q
  unfold bRepr at e
  split at e
  · rename_i x
    cases h : toPD 40 st x with
    | none => rw [h] at e; cases e
    | some p =>
      rw [h] at e
      simp only at e
      split at e
      · rename_i hb
        simp only [Bool.and_eq_true, decide_eq_true_eq] at hb
        cases e
        cases rs with
        | cons r1 r2 =>
          cases r2
          exact ⟨_, p, rfl, toPD_ok R 40 x _ p h r1, hb.1.1, hb.1.2, hb.2, q G H _ (Gm.le.refl _) R (.str _)⟩
      · cases e
  · cases e
end
/-! ### the other built-in functions -/
def bLen : VN := fun ds st => match ds with
  | [d] => (match d with
    | .str z => if z.length ≤ sizeLine then some (.int z.length, st) else none
    | _ => match rseq d st with
      | some xs => some (.int xs.length, st)
      | none => match hdct d st with
        | some kvs => some (.int kvs.length, st)
        | none => none)
  | _ => none
def rLen (K : PySem.W.Frag) : List V → Hp → VK → Prop := fun xs H Q => (∃ x n, xs = [x] ∧ LenV K x H n ∧ Q (.int n) H) ∨ (∃ a kvs, xs = [V.ref a] ∧ H a = some (.dK kvs) ∧ Q (.int kvs.length) H)
def bAbs : VN := fun ds st => match ds with
  | [.int i] => some (.int (if i < 0 then -i else i), st)
  | _ => none
def bMin : VN := fun ds st => match ds with
  | [.int i, .int j] => some (.int (if j < i then j else i), st)
  | _ => none
def bMax : VN := fun ds st => match ds with
  | [.int i, .int j] => some (.int (if j > i then j else i), st)
  | _ => none
def bInt : VN := fun ds st => match ds with
  | [.int i] => some (.int i, st)
  | [.bl k] => some (.int (if k then 1 else 0), st)
  | _ => none
def bList (mu : Bool) : VN := fun ds st => match ds with
  | [d] => (match rseq d st with
    | some xs => some (newL mu xs st)
    | none => none)
  | _ => none
def bTup : VN := fun ds st => match ds with
  | [d] => (match rseq d st with
    | some xs => some (.tup xs, st)
    | none => none)
  | _ => none
def bDict (mu : Bool) : VN := fun ds st => match ds with
  | [d] => (match hdct d st with
    | some kvs => some (newD mu kvs st)
    | none => none)
  | _ => none
def intsOf : List DV → Option (List Int) := mapO fun d => match d with
  | .int i => some i
  | _ => none
def bolsOf : List DV → Option (List Bool) := mapO fun d => match d with
  | .bl b => some b
  | _ => none
def bSum : VN := fun ds st => match ds with
  | [d] => (match rlst d st with
    | some xs => (match intsOf xs with
      | some ns => some (.int ns.sum, st)
      | none => none)
    | none => none)
  | _ => none
def bAll : VN := fun ds st => match ds with
  | [d] => (match rlst d st with
    | some xs => (match bolsOf xs with
      | some ns => some (.bl (ns.all id), st)
      | none => none)
    | none => none)
  | _ => none
def bAny : VN := fun ds st => match ds with
  | [d] => (match rlst d st with
    | some xs => (match bolsOf xs with
      | some ns => some (.bl (ns.any id), st)
      | none => none)
    | none => none)
  | _ => none
section
variable {K : PySem.W.Frag} {ca : Str → Addr} {X : Cx}
theorem RepKs.len {G : Gm} : ∀ {vs : List (Key × V)} {ds : List (Key × DV)}, RepKs K G vs ds → vs.length = ds.length
  | _, _, .nil => rfl
  | _, _, .cons _ hs => congrArg Nat.succ (RepKs.len hs)
theorem rep1 {G : Gm} {vs : List V} {d : DV} (r : RepVs K G vs [d]) : ∃ v, vs = [v] ∧ RepV K G v d := by
  cases r with
  | cons a b => cases b; exact ⟨_, rfl, a⟩
theorem rep2 {G : Gm} {vs : List V} {d e : DV} (r : RepVs K G vs [d, e]) : ∃ v w, vs = [v, w] ∧ RepV K G v d ∧ RepV K G w e := by
  cases r with
  | cons a b =>
    obtain ⟨w, rfl, h⟩ := rep1 b
    exact ⟨_, w, rfl, a, h⟩
theorem snd_len : SndN K ca (rLen K) bLen := by
  intro G σ ρ st H vs ds d st' Q R rs e q
  unfold bLen at e
  split at e
  · rename_i x
    obtain ⟨v, rfl, r1⟩ := rep1 rs
    split at e
    · rename_i z
      split at e
      · rename_i hz
        cases e
        cases r1
        exact .inl ⟨_, _, rfl, ⟨hz, rfl⟩, q G H _ (Gm.le.refl _) R (.int _)⟩
      · cases e
    · cases h : rseq x st with
      | some xs =>
        rw [h] at e
        cases e
        obtain ⟨a, vs, rfl, e2, e3⟩ := rseq_ok R r1 h
        refine .inl ⟨_, vs.length, rfl, ?_, ?_⟩
        · rcases e2 with e2 | e2
          · exact .inl ⟨vs, e2, rfl⟩
          · exact .inr ⟨vs, e2, rfl⟩
        · rw [e3.len]
          exact q G H _ (Gm.le.refl _) R (.int _)
      | none =>
        rw [h] at e
        cases h2 : hdct x st with
        | none => rw [h2] at e; cases e
        | some kvs =>
          rw [h2] at e
          cases e
          obtain ⟨a, vs, rfl, e2, e3⟩ := hdct_ok R r1 h2
          refine .inr ⟨a, vs, rfl, e2, ?_⟩
          rw [e3.len]
          exact q G H _ (Gm.le.refl _) R (.int _)
  · cases e
theorem snd_abs : SndN K ca (fun xs H Q => ∃ i, xs = [.int i] ∧ Q (.int (if i < 0 then -i else i)) H) bAbs := by
  intro G σ ρ st H vs ds d st' Q R rs e q
  unfold bAbs at e
  split at e
  · cases e
    obtain ⟨v, rfl, r1⟩ := rep1 rs
    cases r1
    exact ⟨_, rfl, q G H _ (Gm.le.refl _) R (.int _)⟩
  · cases e
theorem snd_min : SndN K ca (fun xs H Q => ∃ i j, xs = [.int i, .int j] ∧ Q (.int (if j < i then j else i)) H) bMin := by
  intro G σ ρ st H vs ds d st' Q R rs e q
  unfold bMin at e
  split at e
  · cases e
    obtain ⟨v, w, rfl, r1, r2⟩ := rep2 rs
    cases r1
    cases r2
    exact ⟨_, _, rfl, q G H _ (Gm.le.refl _) R (.int _)⟩
  · cases e
theorem snd_max : SndN K ca (fun xs H Q => ∃ i j, xs = [.int i, .int j] ∧ Q (.int (if j > i then j else i)) H) bMax := by
  intro G σ ρ st H vs ds d st' Q R rs e q
  unfold bMax at e
  split at e
  · cases e
    obtain ⟨v, w, rfl, r1, r2⟩ := rep2 rs
    cases r1
    cases r2
    exact ⟨_, _, rfl, q G H _ (Gm.le.refl _) R (.int _)⟩
  · cases e
theorem snd_int : SndN K ca (fun xs H Q => (∃ i, xs = [.int i] ∧ Q (.int i) H) ∨ ∃ k, xs = [.bl k] ∧ Q (.int (if k then 1 else 0)) H) bInt := by
  intro G σ ρ st H vs ds d st' Q R rs e q
  unfold bInt at e
  split at e
  · cases e
    obtain ⟨v, rfl, r1⟩ := rep1 rs
    cases r1
    exact .inl ⟨_, rfl, q G H _ (Gm.le.refl _) R (.int _)⟩
  · cases e
    obtain ⟨v, rfl, r1⟩ := rep1 rs
    cases r1
    exact .inr ⟨_, rfl, q G H _ (Gm.le.refl _) R (.int _)⟩
  · cases e
theorem snd_list (mu : Bool) : SndN K ca (fun xs H Q => ∃ p ys, xs = [.ref p] ∧ (SqL K H p ys ∨ SqT K H p ys) ∧ ∀ l, H l = none → Q (.ref l) (upd H l (.lst ys))) (bList mu) := by
  intro G σ ρ st H vs ds d st' Q R rs e q
  unfold bList at e
  split at e
  · rename_i x
    obtain ⟨v, rfl, r1⟩ := rep1 rs
    cases h : rseq x st with
    | none => rw [h] at e; cases e
    | some xs =>
      rw [h] at e
      have e1 := Option.some.inj e
      obtain ⟨a, vs, rfl, e2, e3⟩ := rseq_ok R r1 h
      refine ⟨a, vs, rfl, e2, fun l hl => ?_⟩
      obtain ⟨G', le, R', r'⟩ := newL_ok R mu hl e3
      rw [e1] at R' r'
      exact q G' _ _ le R' r'
  · cases e
def rTup (K : PySem.W.Frag) : List V → Hp → VK → Prop := fun xs H Q => ∃ p ys, xs = [.ref p] ∧ ((SqL K H p ys ∧ ∀ l, H l = none → Q (.ref l) (upd H l (.tup ys))) ∨ (SqT K H p ys ∧ Q (.ref p) H))
theorem snd_tup : SndN K ca (rTup K) bTup := by
  intro G σ ρ st H vs ds d st' Q R rs e q
  unfold bTup at e
  split at e
  · rename_i x
    obtain ⟨v, rfl, r1⟩ := rep1 rs
    cases h : rseq x st with
    | none => rw [h] at e; cases e
    | some xs =>
      rw [h] at e
      cases e
      unfold rseq at h
      cases ht : htup x with
      | some ys =>
        rw [ht] at h
        cases h
        cases x with
        | tup ys =>
          cases ht
          obtain ⟨a, vs, rfl, e2, e3⟩ := htup_ok R r1 rfl
          exact ⟨a, vs, rfl, .inr ⟨e2, q G H _ (Gm.le.refl _) R r1⟩⟩
        | _ => cases ht
      | none =>
        rw [ht] at h
        obtain ⟨a, vs, rfl, e2, e3⟩ := rlst_ok R r1 h
        refine ⟨a, vs, rfl, .inl ⟨e2, fun l hl => ?_⟩⟩
        obtain ⟨G', le, R', r'⟩ := newT_ok R hl e3
        exact q G' _ _ le R' r'
  · cases e
theorem snd_dict (mu : Bool) : SndN K ca (fun xs H Q => ∃ (a : Addr) (kvs : List (Key × V)), xs = [.ref a] ∧ Rd H a (.dK kvs) ∧ ∀ p, H p = none → Q (.ref p) (upd H p (.dK kvs))) (bDict mu) := by
  intro G σ ρ st H vs ds d st' Q R rs e q
  unfold bDict at e
  split at e
  · rename_i x
    obtain ⟨v, rfl, r1⟩ := rep1 rs
    cases h : hdct x st with
    | none => rw [h] at e; cases e
    | some xs =>
      rw [h] at e
      have e1 := Option.some.inj e
      obtain ⟨a, vs, rfl, e2, e3⟩ := hdct_ok R r1 h
      refine ⟨a, vs, rfl, .of e2, fun l hl => ?_⟩
      obtain ⟨G', le, R', r'⟩ := newD_ok R mu hl e3
      rw [e1] at R' r'
      exact q G' _ _ le R' r'
  · cases e
theorem intsOf_ok {G : Gm} : ∀ {vs : List V} {ds : List DV} {ns : List Int}, RepVs K G vs ds → intsOf ds = some ns → vs = ns.map V.int
  | _, _, _, .nil, h => by cases h; rfl
  | _, _, _, .cons (d := d) (ds := ds) a b, h => by
    unfold intsOf mapO at h
    cases a with
    | int i =>
      simp only at h
      cases e2 : intsOf ds with
      | none => unfold intsOf at e2; rw [e2] at h; cases h
      | some ps =>
        have e3 := e2
        unfold intsOf at e2
        rw [e2] at h
        cases h
        rw [List.map_cons, intsOf_ok b e3]
    | _ => cases h
theorem bolsOf_ok {G : Gm} : ∀ {vs : List V} {ds : List DV} {ns : List Bool}, RepVs K G vs ds → bolsOf ds = some ns → vs = ns.map V.bl
  | _, _, _, .nil, h => by cases h; rfl
  | _, _, _, .cons (d := d) (ds := ds) a b, h => by
    unfold bolsOf mapO at h
    cases a with
    | bl i =>
      simp only at h
      cases e2 : bolsOf ds with
      | none => unfold bolsOf at e2; rw [e2] at h; cases h
      | some ps =>
        have e3 := e2
        unfold bolsOf at e2
        rw [e2] at h
        cases h
        rw [List.map_cons, bolsOf_ok b e3]
    | _ => cases h
theorem snd_sum : SndN K ca (rSum K) bSum := by
  intro G σ ρ st H vs ds d st' Q R rs e q
  unfold bSum at e
  split at e
  · rename_i x
    obtain ⟨v, rfl, r1⟩ := rep1 rs
    cases h : rlst x st with
    | none => rw [h] at e; cases e
    | some xs =>
      cases h2 : intsOf xs with
      | none => simp only [h, h2] at e; cases e
      | some ns =>
        simp only [h, h2] at e
        cases e
        obtain ⟨a, vs, rfl, e2, e3⟩ := rlst_ok R r1 h
        rw [intsOf_ok e3 h2] at e2
        exact ⟨a, ns, rfl, e2, q G H _ (Gm.le.refl _) R (.int _)⟩
  · cases e
theorem snd_all : SndN K ca (rAll K) bAll := by
  intro G σ ρ st H vs ds d st' Q R rs e q
  unfold bAll at e
  split at e
  · rename_i x
    obtain ⟨v, rfl, r1⟩ := rep1 rs
    cases h : rlst x st with
    | none => rw [h] at e; cases e
    | some xs =>
      cases h2 : bolsOf xs with
      | none => simp only [h, h2] at e; cases e
      | some ns =>
        simp only [h, h2] at e
        cases e
        obtain ⟨a, vs, rfl, e2, e3⟩ := rlst_ok R r1 h
        rw [bolsOf_ok e3 h2] at e2
        exact ⟨a, ns, rfl, e2, q G H _ (Gm.le.refl _) R (.bl _)⟩
  · cases e
theorem snd_any : SndN K ca (rAny K) bAny := by
  intro G σ ρ st H vs ds d st' Q R rs e q
  unfold bAny at e
  split at e
  · rename_i x
    obtain ⟨v, rfl, r1⟩ := rep1 rs
    cases h : rlst x st with
    | none => rw [h] at e; cases e
    | some xs =>
      cases h2 : bolsOf xs with
      | none => simp only [h, h2] at e; cases e
      | some ns =>
        simp only [h, h2] at e
        cases e
        obtain ⟨a, vs, rfl, e2, e3⟩ := rlst_ok R r1 h
        rw [bolsOf_ok e3 h2] at e2
        exact ⟨a, ns, rfl, e2, q G H _ (Gm.le.refl _) R (.bl _)⟩
  · cases e
/-! ### built-in functions by name -/
inductive BK where
  | b (id : String)
  | t (T : String)
def BK.val : BK → Value
  | .b id => .builtin id
  | .t T => .type T
def bTab (mu : Bool) : List (Str × BK × VN) := [("len", .b "len", bLen), ("int", .t "int", bInt), ("abs", .b "abs", bAbs), ("min", .b "min", bMin), ("max", .b "max", bMax), ("list", .t "list", bList mu), ("tuple", .t "tuple", bTup),
  ("dict", .t "dict", bDict mu), ("repr", .b "repr", bRepr), ("sum", .b "sum", bSum), ("all", .b "all", bAll), ("any", .b "any", bAny)]
def bFun (x : Str) (mu : Bool) : Option (BK × VN) := (bTab mu).lookup x
structure Env1 (X : Cx) : Prop where
  calm : X.calm = true
  sys : SysIn X.K
  guards : X.A.guards = some []
  units : X.A.units + 64 < cLine
def BOk (X : Cx) (ca : Str → Addr) (e : Str × BK × VN) : Prop := bootBuiltins e.1 = some e.2.1.val ∧ e.1 ≠ "__name__" ∧ (e.1 == ("__debug__" : Str)) = false ∧ ∃ r, CallR X e.2.1.val r ∧ SndN X.K ca r e.2.2
theorem bTab_ok (E : Env1 X) (mu : Bool) : ∀ e ∈ bTab mu, BOk X ca e := by
  have mk : ∀ {x : Str} {k : BK} {m : VN} {r : List V → Hp → VK → Prop}, CallR X k.val r → SndN X.K ca r m → bootBuiltins x = some k.val → x ≠ "__name__" → (x == ("__debug__" : Str)) = false → BOk X ca (x, k, m) := fun c s a b d => ⟨a, b, d, _, c, s⟩
  unfold bTab
  simp only [List.forall_mem_cons]
  exact ⟨mk (k := .b "len") (call_len.or call_lenD) snd_len (by decide +kernel) (by decide +kernel) (by decide +kernel),
    mk (k := .t "int") call_int1 snd_int (by decide +kernel) (by decide +kernel) (by decide +kernel),
    mk (k := .b "abs") call_abs snd_abs (by decide +kernel) (by decide +kernel) (by decide +kernel),
    mk (k := .b "min") (call_min2 E.calm) snd_min (by decide +kernel) (by decide +kernel) (by decide +kernel),
    mk (k := .b "max") (call_max2 E.calm) snd_max (by decide +kernel) (by decide +kernel) (by decide +kernel),
    mk (k := .t "list") call_list_of (snd_list mu) (by decide +kernel) (by decide +kernel) (by decide +kernel),
    mk (k := .t "tuple") call_tuple_of snd_tup (by decide +kernel) (by decide +kernel) (by decide +kernel),
    mk (k := .t "dict") call_dictD (snd_dict mu) (by decide +kernel) (by decide +kernel) (by decide +kernel),
    mk (k := .b "repr") (cr_repr E.sys E.guards E.units) snd_repr (by decide +kernel) (by decide +kernel) (by decide +kernel),
    mk (k := .b "sum") (cr_sum E.calm) snd_sum (by decide +kernel) (by decide +kernel) (by decide +kernel),
    mk (k := .b "all") (cr_all E.calm) snd_all (by decide +kernel) (by decide +kernel) (by decide +kernel),
    mk (k := .b "any") (cr_any E.calm) snd_any (by decide +kernel) (by decide +kernel) (by decide +kernel), fun _ h => nomatch h⟩
theorem bFun_ok (E : Env1 X) {x : Str} {mu : Bool} {f : BK} {m : VN} (h : bFun x mu = some (f, m)) : BOk X ca (x, f, m) := bTab_ok E mu _ (PySem.mem_of_lookup h)
end
end Mi

set_option maxHeartbeats 4000000
namespace Mi
open PySem PySem.Spec PyProof.Rows L2

/-! ### subscripts -/
def keyOf : DV → Option Key
  | .int i => some (.inl i)
  | .str s => some (.inr s)
  | _ => none
def valD (k : Key) : List (Key × DV) → Option DV
  | [] => none
  | (k', v) :: r => if k' = k then some v else valD k r
def putD (k : Key) (v : DV) : List (Key × DV) → List (Key × DV)
  | [] => [(k, v)]
  | (k', v') :: r => if k' = k then (k', v) :: r else (k', v') :: putD k v r
def dropD (k : Key) : List (Key × DV) → List (Key × DV)
  | [] => []
  | (k', v') :: r => if k' = k then dropD k r else (k', v') :: dropD k r
def keysND (kvs : List (Key × DV)) : Prop := (kvs.map (·.1)).Nodup
def oIxSeq : V2 := fun x y st => match y with
  | .int i => (match rseq x st with
    | some xs => (match atI xs i with
      | some d => some (d, st)
      | none => none)
    | none => none)
  | _ => none
def oIxStr : V2 := fun x y st => match x, y with
  | .str z, .int i => if z.length ≤ sizeLine then (match atI z.cps.toList i with
      | some c => some (.str ⟨#[c]⟩, st)
      | none => none) else none
  | _, _ => none
def oIxDct : V2 := fun x y st => match hdct x st, keyOf y with
  | some kvs, some k => (match valD k kvs with
    | some d => some (d, st)
    | none => none)
  | _, _ => none
def oIx : V2 := (oIxSeq.or oIxStr).or oIxDct
section
variable {K : PySem.W.Frag} {ca : Str → Addr} {G : Gm}
theorem ixN_atI {α : Type} (xs : List α) (i : Int) : atI xs i = (ixN xs.length i).bind fun j => xs[j]? := rfl
theorem atI_rep {vs : List V} {xs : List DV} (r : RepVs K G vs xs) {i : Int} {d : DV} (h : atI xs i = some d) : ∃ v, atI vs i = some v ∧ RepV K G v d := by
  rw [ixN_atI] at h
  obtain ⟨j, h1, h2⟩ := Option.bind_eq_some_iff.mp h
  obtain ⟨v, h3, h4⟩ := r.get h2
  refine ⟨v, ?_, h4⟩
  rw [ixN_atI, r.len, h1]
  exact h3
theorem keyOf_ok {v : V} {d : DV} {k : Key} (r : RepV K G v d) (h : keyOf d = some k) : v = kV k := by
  cases r <;> first | (cases h; rfl) | cases h
theorem valD_some {k : Key} : ∀ {vs : List (Key × V)} {ds : List (Key × DV)} {d : DV}, RepKs K G vs ds → valD k ds = some d → ∃ v, valV vs k = some v ∧ RepV K G v d
  | _, _, _, .nil, h => by cases h
  | _, _, _, .cons (k := k') a b, h => by
    unfold valD at h
    by_cases e : k' = k
    · rw [if_pos e] at h
      cases h
      exact ⟨_, valV_pos e, a⟩
    · rw [if_neg e] at h
      obtain ⟨v, h1, h2⟩ := valD_some b h
      exact ⟨v, by rw [valV_neg e]; exact h1, h2⟩
theorem valD_none {k : Key} : ∀ {vs : List (Key × V)} {ds : List (Key × DV)}, RepKs K G vs ds → valD k ds = none → valV vs k = none
  | _, _, .nil, h => rfl
  | _, _, .cons (k := k') a b, h => by
    unfold valD at h
    by_cases e : k' = k
    · rw [if_pos e] at h
      cases h
    · rw [if_neg e] at h
      rw [valV_neg e]
      exact valD_none b h
theorem snd_ixSeq : Snd2 K ca (fun x y H Q => rIxL K x y H Q ∨ rIxT K x y H Q) oIxSeq := by
  intro G σ ρ st H vx vy x y d st' Q R rx ry e q
  unfold oIxSeq at e
  cases y with
  | int i =>
    cases ry
    simp only at e
    cases h : rseq x st with
    | none => rw [h] at e; cases e
    | some xs =>
      rw [h] at e
      simp only at e
      cases h2 : atI xs i with
      | none => rw [h2] at e; cases e
      | some d' =>
        rw [h2] at e
        cases e
        obtain ⟨a, vs, rfl, e2, e3⟩ := rseq_ok R rx h
        obtain ⟨v, h3, h4⟩ := atI_rep e3 h2
        rcases e2 with e2 | e2
        · exact .inl ⟨a, vs, i, v, rfl, rfl, e2, h3, q G H _ (Gm.le.refl _) R h4⟩
        · exact .inr ⟨a, vs, i, v, rfl, rfl, e2, h3, q G H _ (Gm.le.refl _) R h4⟩
  | _ => cases e
theorem snd_ixStr : Snd2 K ca rIxS oIxStr := by
  intro G σ ρ st H vx vy x y d st' Q R rx ry e q
  unfold oIxStr at e
  split at e
  · rename_i z i
    split at e
    · rename_i hz
      cases h2 : atI z.cps.toList i with
      | none => rw [h2] at e; cases e
      | some c =>
        rw [h2] at e
        cases e
        cases rx
        cases ry
        exact ⟨z, i, c, rfl, rfl, hz, h2, q G H _ (Gm.le.refl _) R (.str _)⟩
    · cases e
  · cases e
def rDGet : R2 := fun x y H Q => ∃ a v, x = .ref a ∧ DGet H a y (some v) ∧ Q v H
theorem snd_ixDct : Snd2 K ca rDGet oIxDct := by
  intro G σ ρ st H vx vy x y d st' Q R rx ry e q
  unfold oIxDct at e
  cases h : hdct x st with
  | none => rw [h] at e; cases e
  | some kvs =>
    cases h1 : keyOf y with
    | none => rw [h, h1] at e; cases e
    | some k =>
      rw [h, h1] at e
      simp only at e
      cases h2 : valD k kvs with
      | none => rw [h2] at e; cases e
      | some d' =>
        rw [h2] at e
        cases e
        obtain ⟨a, vs, rfl, e2, e3⟩ := hdct_ok R rx h
        obtain ⟨v, h3, h4⟩ := valD_some e3 h2
        have ek := keyOf_ok ry h1
        subst ek
        refine ⟨a, v, rfl, ?_, q G H _ (Gm.le.refl _) R h4⟩
        rw [← h3]
        exact DGet.k e2
end
/-! ### slices -/
def cutD (xs : List DV) (lo hi : Option Int) : List DV := (xs.drop (HT.sIx xs.length 0 lo)).take (HT.sIx xs.length xs.length hi - HT.sIx xs.length 0 lo)
def oSl (mu : Bool) (x : DV) (lo hi : Option Int) (st : Store) : Option (DV × Store) := match htup x with
  | some xs => some (.tup (cutD xs lo hi), st)
  | none => match rlst x st with
    | some xs => some (newL mu (cutD xs lo hi) st)
    | none => match x with
      | .str z => if z.length ≤ sizeLine then some (.str (cutS z lo hi), st) else none
      | _ => none
def rSl (K : PySem.W.Frag) : V → Option Int → Option Int → Hp → VK → Prop := fun x lo hi H Q => rSlL K x lo hi H Q ∨ rSlA K x lo hi H Q ∨ rSlS x lo hi H Q
theorem sl_any {X : Cx} : SlR X (rSl X.K) := sl_list.or (sl_tupA.or sl_str)
theorem cut_rep {K : PySem.W.Frag} {G : Gm} {vs : List V} {xs : List DV} (r : RepVs K G vs xs) (lo hi : Option Int) : RepVs K G (cutV vs lo hi) (cutD xs lo hi) := by
  unfold cutV cutD
  rw [r.len]
  exact (r.drop _).take _
theorem snd_sl {K : PySem.W.Frag} {ca : Str → Addr} (mu : Bool) {G : Gm} {σ : St} {ρ : Ev} {st st' : Store} {H : Hp} {v : V} {x d : DV} {lo hi : Option Int} {Q : VK} (R : RelS K ca G σ ρ st H) (r : RepV K G v x) (e : oSl mu x lo hi st = some (d, st'))
    (q : ∀ G' H' v, G.le G' → RelS K ca G' σ ρ st' H' → RepV K G' v d → Q v H') : rSl K v lo hi H Q := by
  unfold oSl at e
  cases h : htup x with
  | some xs =>
    rw [h] at e
    cases e
    obtain ⟨a, vs, rfl, e2, e3⟩ := htup_ok R r h
    refine .inr (.inl ⟨a, vs, rfl, e2, fun hw => ?_, fun _ p hp => ?_⟩)
    · rw [e3.len] at hw
      have ec : cutD xs lo hi = xs := by
        unfold cutD
        rw [hw.1, hw.2]
        simp
      rw [ec] at q
      have hx : x = .tup xs := by cases x <;> simp [htup] at h ⊢; exact h
      rw [hx] at r
      exact q G H _ (Gm.le.refl _) R r
    · obtain ⟨G', le, R', r'⟩ := newT_ok R hp (cut_rep e3 lo hi)
      exact q G' _ _ le R' r'
  | none =>
    rw [h] at e
    simp only at e
    cases h2 : rlst x st with
    | some xs =>
      rw [h2] at e
      have e1 := Option.some.inj e
      obtain ⟨a, vs, rfl, e2, e3⟩ := rlst_ok R r h2
      refine .inl ⟨a, vs, rfl, e2, fun p hp => ?_⟩
      obtain ⟨G', le, R', r'⟩ := newL_ok R mu hp (cut_rep e3 lo hi)
      rw [e1] at R' r'
      exact q G' _ _ le R' r'
    | none =>
      rw [h2] at e
      cases x with
      | str z =>
        simp only at e
        split at e
        · rename_i hz
          cases e
          cases r
          exact .inr (.inr ⟨z, rfl, hz, q G H _ (Gm.le.refl _) R (.str _)⟩)
        · cases e
      | _ => cases e
/-- a part of a slice -/
abbrev XO := XM (Option Int)
abbrev EqO : Gm → Option Int → Option Int → Prop := fun _ a b => a = b
def xNoPart : XO := xPure none
def xPart (a : XM DV) : XO := xBind a fun d => match d with
  | .int i => xPure (some i)
  | _ => xBad
def xSl (mu : Bool) (a : XM DV) (lo hi : XO) : XM DV := xBind a fun x => xBind lo fun l => xBind hi fun h => xV (oSl mu x l h)
section
variable {X : Cx} {ca : Str → Addr} {W : WX}
theorem ro_none : PO X none (rd X.K ca EqO W xNoPart) := ⟨fun pins s σ H Q I q => po_none.run pins s σ H Q I (by
  obtain ⟨G, ρ, st, R, o⟩ := q
  exact o G H none (Gm.le.refl _) R rfl)⟩
theorem ro_some {e : Expr} {m : XM DV} (h : PE X e (rdE X.K ca W m)) : PO X (some e) (rd X.K ca EqO W (xPart m)) := ⟨fun pins s σ H Q I q => (po_some h).run pins s σ H Q I (by
  refine rd_bind q fun G ρ st H1 v d R r o => ?_
  cases d with
  | int i =>
    cases r
    exact ⟨i, rfl, o G H1 _ (Gm.le.refl _) R rfl⟩
  | _ => exact o.elim)⟩
theorem re_slice {e : Expr} {lo hi : Option Expr} {m : XM DV} {ml mh : XO} {p2 pos : Pos} (mu : Bool) (he : PE X e (rdE X.K ca W m)) (hl : PO X lo (rd X.K ca EqO W ml)) (hh : PO X hi (rd X.K ca EqO W mh)) :
    PE X (.Subscript e (.Slice lo hi none p2) pos) (rdE X.K ca W (xSl mu m ml mh)) := pe_weak (pe_slice sl_any he hl hh) fun σ H Q q => by
  refine rd_bind q fun G ρ st H1 v d R r o => ?_
  refine rd_of R (out_bind o fun G1 H2 l l' st1 le1 R1 r1 o1 => ?_)
  obtain rfl : l = l' := r1
  refine rd_of R1 (out_bind o1 fun G2 H3 h h' st2 le2 R2 r2 o2 => ?_)
  obtain rfl : h = h' := r2
  obtain ⟨d2, st3, e2, q2⟩ := out_xV o2
  exact snd_sl mu R2 ((r.mono le1).mono le2) e2 q2
/-- what is no slice -/
def noSl : Expr → Bool
  | .Slice .. => false
  | _ => true
theorem plainIx_of {b : Expr} (h : noSl b = true) : PlainIx b := fun o i => by
  cases b <;> first | rfl | cases h
theorem re_ix {a b : Expr} {ma mb : XM DV} {pos : Pos} (hu : X.A.units + 1 < cLine) (hb : noSl b = true) (h1 : PE X a (rdE X.K ca W ma)) (h2 : PE X b (rdE X.K ca W mb)) :
    PE X (.Subscript a b pos) (rdE X.K ca W (x2 ma mb oIx)) :=
  pe_weak (pe_orr (pe_ix ix_seq h1 h2 (plainIx_of hb)) (pe_dget hu h1 h2 (plainIx_of hb))) fun σ H Q q => by
    -- which of the rules serves is told by the values: one reading for both
    obtain ⟨G, ρ, st, R, o⟩ := q
    cases e1 : ma ρ st with
    | bad => unfold x2 xBind at o; rw [e1] at o; exact o.elim
    | exc c v r s =>
      unfold x2 xBind at o; rw [e1] at o
      exact .inl ⟨G, ρ, st, R, by rw [e1]; exact o⟩
    | ok p =>
      obtain ⟨x, st1⟩ := p
      cases e2 : mb ρ st1 with
      | bad => unfold x2 xBind at o; rw [e1] at o; simp only [e2] at o; exact o.elim
      | exc c v r s =>
        unfold x2 xBind at o; rw [e1] at o; simp only [e2] at o
        refine .inl ⟨G, ρ, st, R, ?_⟩
        rw [e1]
        exact fun G1 H1 v1 le1 R1 r1 => ⟨G1, ρ, st1, R1, by rw [e2]; exact ExcOut.le o le1⟩
      | ok p2 =>
        obtain ⟨y, st2⟩ := p2
        have o2 : Out X.K ca (RepV X.K) W G σ ρ Q (xV (oIx x y) ρ st2) := by
          unfold x2 xBind at o; rw [e1] at o; simp only [e2] at o; exact o
        obtain ⟨d, st', e3, q3⟩ := out_xV o2
        have use : ∀ {r : R2} {m : V2}, Snd2 X.K ca r m → m x y st2 = some (d, st') → tOp r (rdE X.K ca W ma) (rdE X.K ca W mb) σ H Q := fun {r m} s e => by
          refine ⟨G, ρ, st, R, ?_⟩
          rw [e1]
          refine fun G1 H1 v1 le1 R1 r1 => ⟨G1, ρ, st1, R1, ?_⟩
          rw [e2]
          exact fun G2 H2 v2 le2 R2 r2 => s G2 σ ρ st2 H2 v1 v2 x y d st' Q R2 (r1.mono le2) r2 e fun G' H' v le R' r' => q3 G' H' v ((le1.trans le2).trans le) R' r'
        have e4 : (match (oIxSeq.or oIxStr) x y st2 with | some r => some r | none => oIxDct x y st2) = some (d, st') := e3
        cases e5 : (oIxSeq.or oIxStr) x y st2 with
        | some z =>
          rw [e5] at e4
          cases e4
          have s : Snd2 X.K ca (rIx X.K) (oIxSeq.or oIxStr) := fun G σ ρ st H vx vy x y d st' Q R rx ry e q => by
            rcases (snd_ixSeq.or snd_ixStr) G σ ρ st H vx vy x y d st' Q R rx ry e q with (z | z) | z
            · exact .inl z
            · exact .inr (.inl z)
            · exact .inr (.inr z)
          exact .inl (use s e5)
        | none =>
          rw [e5] at e4
          exact .inr (use (r := rDGet) snd_ixDct e4)
/-! ### displays -/
def xList (mu : Bool) (a : XM (List DV)) : XM DV := xBind a fun ds => if ds.length ≤ sizeLine then fun _ st => .ok (newL mu ds st) else xBad
def xTup (a : XM (List DV)) : XM DV := xBind a fun ds => if ds.length ≤ sizeLine then xPure (.tup ds) else xBad
theorem re_list {es : List Expr} {m : XM (List DV)} {pos : Pos} (mu : Bool) (h : PA X es (rdA X.K ca W m)) : PE X (.List es pos) (rdE X.K ca W (xList mu m)) := pe_weak (pe_lst h) fun σ H Q q => by
  refine rd_bind q fun G ρ st H1 vs ds R r o => ?_
  split at o
  · rename_i hz
    refine ⟨by rw [r.len]; exact hz, fun p hp => ?_⟩
    obtain ⟨G', le, R', r'⟩ := newL_ok R mu hp r
    exact o G' _ _ le R' r'
  · exact o.elim
theorem re_tup {es : List Expr} {m : XM (List DV)} {k : Nat} {pos : Pos} (h : PA X es (rdA X.K ca W m)) : PE X (.Tuple es k pos) (rdE X.K ca W (xTup m)) := pe_weak (pe_tup h) fun σ H Q q => by
  refine rd_bind q fun G ρ st H1 vs ds R r o => ?_
  split at o
  · rename_i hz
    refine ⟨by rw [r.len]; exact hz, fun p hp => ?_⟩
    obtain ⟨G', le, R', r'⟩ := newT_ok R hp r
    exact o G' _ _ le R' r'
  · exact o.elim
/-- *e in a row of arguments -/
def xStar (a : XM DV) (r : XM (List DV)) : XM (List DV) := xBind a fun d => fun ρ st => match rseq d st with
  | some xs => xBind r (fun ds => xPure (xs ++ ds)) ρ st
  | none => .bad
theorem ra_star {e : Expr} {es : List Expr} {p : Pos} {ma : XM DV} {mr : XM (List DV)} (ha : PE X e (rdE X.K ca W ma)) (hr : PA X es (rdA X.K ca W mr)) (hs : starEach (.Starred e p :: es) X.env = (true, eval e X.env) :: starEach es X.env) :
    PA X (.Starred e p :: es) (rdA X.K ca W (xStar ma mr)) := pa_weak (StX.pa_star ha hr hs) fun σ H Q q => by
  refine rd_bind q fun G ρ st H1 v d R r o => ?_
  cases h : rseq d st with
  | none => simp only [h] at o; exact o.elim
  | some xs =>
    simp only [h] at o
    obtain ⟨a, vs, rfl, e2, e3⟩ := rseq_ok R r h
    refine ⟨a, vs, rfl, e2.symm, rd_of R (out_bind o fun G1 H2 ws ds st1 le R1 r1 o1 => ?_)⟩
    exact o1 G1 H2 _ (Gm.le.refl _) R1 ((e3.mono le).append r1)
end
end Mi

set_option maxHeartbeats 4000000
namespace Mi
open PySem PySem.Spec PyProof.Rows L2

/-! ### defs of the text, where nothing is being shown -/
structure FnG (P : Program) (w : World) (K : PySem.W.Frag) (mg : Str → Option Value) (base : Heap) (k : Nat) (f : Addr) (fd : FuncData) (ps : List Str) (sp : Sp) : Prop where
  len : ∀ vs H Q E, sp vs H Q E → vs.length = ps.length
  run : ∀ (A : Around) (outer : List Env) (s : Shared) (H : Hp) (args : Args) (us : List Value) (vs : List V) (Q : VK) (E : XK), Room k A → A.guards = some [] → Env0 P w K mg base A outer s H → BindsTo s fd args (ps.zip us) → Vals vs us → sp vs H Q E →
    codeAny (model P w) A (.call (.ref f) args) (CR (L2.CX P w) outer P w H s Q E) s
theorem FnG.mono {P : Program} {w : World} {K : PySem.W.Frag} {mg : Str → Option Value} {base : Heap} {j k : Nat} {f : Addr} {fd : FuncData} {ps : List Str} {sp : Sp} (F : FnG P w K mg base j f fd ps sp) (h : j ≤ k) :
    FnG P w K mg base k f fd ps sp := ⟨F.len, fun A outer s H args us vs Q E hr => F.run A outer s H args us vs Q E (hr.mono h)⟩
section
variable {X : Cx} {k : Nat} {f C : Addr} {fd : FuncData} {ps : List Str} {sp : Sp} {x m : Str} {p pos apos : Pos} {e o : Expr} {es : List Expr} {ta : TE} {t : TA} {W : WX}
theorem passW (tk : Takes X W) (σ : St) : PassesAt (L2.CX X.prog X.w) X σ (fun c d H => W c d σ H) := fun _ _ _ e s' I c => tk e s' (XE.of_call I (fun _ _ _ h => h) c)
theorem run_fnG {pins : List (Addr × Obj)} {σ : St} {H : Hp} {s : Shared} {Q : VK} {us : List Value} {vs : List V} (F : FnG X.prog X.w X.K X.mg X.base k f fd ps sp) (hr : Room k X.A) (hg : X.A.guards = some []) (hb : Binds X.K fd ps []) (tk : Takes X W)
    (I : Inv X pins σ H s) (r : Vals vs us) (h : sp vs H Q (fun c d H => W c d σ H)) : wpAny (model X.prog X.w) X.A (call (.ref f) us) (EP X pins σ Q) X.xe s := by
  have hl : (us ++ []).length = ps.length := by rw [List.append_nil, ← r.length]; exact F.len _ _ _ _ h
  have hb' := hb s us I.kIn hl
  rw [List.append_nil] at hb'
  refine wpAny_call (codeAny_mono (F.run X.A X.stack s H ⟨us, []⟩ us vs Q _ hr hg I.env0 hb' r h) fun r s' hq => ?_)
  cases r with
  | error e => exact passW tk σ pins H s e s' I hq
  | ok fl =>
    cases fl with
    | ret u => exact I.after hq
    | next => exact hq.elim
    | brk => exact hq.elim
    | cont => exact hq.elim
def tCallG (sp : Sp) (W : WX) (t : TA) : TE := fun σ H Q => t σ H fun vs H1 => sp vs H1 Q (fun c d H => W c d σ H)
theorem pe_callG (F : FnG X.prog X.w X.K X.mg X.base k f fd ps sp) (hr : Room k X.A) (hgd : X.A.guards = some []) (hg : Gl X x) (hm : X.mg x = some (.ref f)) (hk : PySem.W.keepIn X.K (.ref f) = true) (hb : Binds X.K fd ps []) (tk : Takes X W)
    (ha : PA X (e :: es) t) (hdb : (x == ("__debug__" : Str)) = false) (he : starEach (e :: es) X.env = (false, eval e X.env) :: starEach es X.env) (hpl : (backTo pos (starEach es X.env)).any (·.1) = false) :
    PE X (.Call (.Name x p) (e :: es) [] pos) (tCallG sp W t) := ⟨fun pins s σ H Q I h => by
  refine wpAny_Call_Name_kw (ld_glob I hg hm ?_ hdb)
  exact PySem.W.callWith_K (h₀ := X.base) I.ok.mod.kin hk (thn (ha.run pos pins s σ H _ I h) fun us s1 ⟨vs, H1, I1, r, q⟩ => ⟨I1.kIn, run_fnG F hr hgd hb tk I1 r q⟩) he hpl⟩
theorem pe_callG0 (F : FnG X.prog X.w X.K X.mg X.base k f fd ps sp) (hr : Room k X.A) (hgd : X.A.guards = some []) (hg : Gl X x) (hm : X.mg x = some (.ref f)) (hk : PySem.W.keepIn X.K (.ref f) = true) (hb : Binds X.K fd ps []) (tk : Takes X W)
    (hdb : (x == ("__debug__" : Str)) = false) : PE X (.Call (.Name x p) [] [] pos) (tCallG sp W tNil) := ⟨fun pins s σ H Q I h => by
  refine wpAny_Call_Name_kw (ld_glob I hg hm ?_ hdb)
  exact PySem.W.callWith_K0 I.kIn hk (run_fnG (us := []) F hr hgd hb tk I .nil h)⟩
def tMethG (C : Addr) (m : Str) (sp : Sp) (W : WX) (ta : TE) (t : TA) : TE := fun σ H Q => ta σ H fun x H1 => ∃ a dx fs, x = .ref a ∧ H1 a = some (.ins C dx fs) ∧ fs.lookup m = none ∧
  t σ H1 fun vs H2 => sp (x :: vs) H2 Q (fun c d H => W c d σ H)
theorem pe_methG {pl : Sem Bool} (he : PE X o ta) (c : Cls X.K C) (hm : Meth X.K C m f) (F : FnG X.prog X.w X.K X.mg X.base k f fd ps sp) (hr : Room k X.A) (hgd : X.A.guards = some []) (hb : Binds X.K fd ps []) (tk : Takes X W) (ha : PA X (e :: es) t)
    (hst : starEach (e :: es) X.env = (false, eval e X.env) :: starEach es X.env) (hpl : (backTo pos (starEach es X.env)).any (·.1) = false)
    (ht : eval (.Call (.Attribute o m apos) (e :: es) [] pos) X.env = (do
      let ov ← eval o X.env
      standAt apos.atName
      let (f, first) ← holding [ov] (getMethod ov m pl)
      callWith pos f first (backTo pos (starEach (e :: es) X.env)) (backToKw pos (keywordEach [] X.env)))) :
    PE X (.Call (.Attribute o m apos) (e :: es) [] pos) (tMethG C m sp W ta t) := ⟨fun pins s σ H Q I h => by
  refine PySem.W.methodCall_KW (pl := pl) (thn (he.run pins s σ H _ I h) fun u s1 ⟨x, H1, I1, rx, a, dx, fs, ex, ea, l, q⟩ => ?_) ht
  subst ex
  obtain rfl : u = Value.ref a := rx
  exact getmeth_ok I1 ea c hm l (PySem.W.callWith_K (first := [.ref a]) (h₀ := X.base) I.ok.mod.kin hm.kp (thn (ha.run pos pins s1 σ H1 _ I1 q) fun us s2 ⟨vs, H2, I2, r, q2⟩ =>
    ⟨I2.kIn, run_fnG (us := .ref a :: us) (vs := .ref a :: vs) F hr hgd hb tk I2 (.cons rfl r) q2⟩) hst hpl)⟩
theorem pe_methG0 {pl : Sem Bool} (he : PE X o ta) (c : Cls X.K C) (hm : Meth X.K C m f) (F : FnG X.prog X.w X.K X.mg X.base k f fd ps sp) (hr : Room k X.A) (hgd : X.A.guards = some []) (hb : Binds X.K fd ps []) (tk : Takes X W)
    (ht : eval (.Call (.Attribute o m apos) [] [] pos) X.env = (do
      let ov ← eval o X.env
      standAt apos.atName
      let (f, first) ← holding [ov] (getMethod ov m pl)
      callWith pos f first (backTo pos (starEach [] X.env)) (backToKw pos (keywordEach [] X.env)))) :
    PE X (.Call (.Attribute o m apos) [] [] pos) (tMethG C m sp W ta tNil) := ⟨fun pins s σ H Q I h => by
  refine PySem.W.methodCall_KW (pl := pl) (thn (he.run pins s σ H _ I h) fun u s1 ⟨x, H1, I1, rx, a, dx, fs, ex, ea, l, q⟩ => ?_) ht
  subst ex
  obtain rfl : u = Value.ref a := rx
  exact getmeth_ok I1 ea c hm l (PySem.W.callWith_K0 (first := [.ref a]) I1.kIn hm.kp (run_fnG (us := [.ref a]) (vs := [.ref a]) F hr hgd hb tk I1 (.cons rfl .nil) q))⟩
def tMakeG (C : Addr) (sp : Sp) (W : WX) (t : TA) : TE := fun σ H Q => t σ H fun vs H1 => ∀ x dx, H1 x = none → H1 dx = none → dx ≠ x →
  sp (.ref x :: vs) (upd (upd H1 dx (.own x)) x (.ins C dx [])) (fun v H2 => v = .non ∧ Q (.ref x) H2) (fun c d H => W c d σ H)
theorem run_makeG {pins : List (Addr × Obj)} {σ : St} {H : Hp} {s : Shared} {Q : VK} {us : List Value} {vs : List V} (M : Mk X.K C f) (F : FnG X.prog X.w X.K X.mg X.base k f fd ps sp) (hr : Room (k + 1) X.A) (hgd : X.A.guards = some []) (hb : Binds X.K fd ps []) (tk : Takes X W)
    (I : Inv X pins σ H s) (r : Vals vs us)
    (h : ∀ x dx, H x = none → H dx = none → dx ≠ x → sp (.ref x :: vs) (upd (upd H dx (.own x)) x (.ins C dx [])) (fun v H2 => v = .non ∧ Q (.ref x) H2) (fun c d H => W c d σ H)) :
    wpAny (model X.prog X.w) X.A (call (.ref C) us) (EP X pins σ Q) X.xe s := by
  have hq := h (s.heap.objs.size + 1) s.heap.objs.size (I.hok.fresh (Nat.le_succ _)) (I.hok.fresh (Nat.le_refl _)) (Nat.ne_of_lt (Nat.lt_succ_self _))
  have I2 := Inv.made (C := C) I
  have r2 : Vals (V.ref (s.heap.objs.size + 1) :: vs) (Value.ref (s.heap.objs.size + 1) :: us) := .cons rfl r
  have hl : (Value.ref (s.heap.objs.size + 1) :: us ++ []).length = ps.length := by
    have e := r2.length
    rw [F.len _ _ _ _ hq] at e
    rw [List.append_nil]
    exact e.symm
  have hb' := hb { s with heap := (s.heap.push PySem.W.emptyDict).push (PySem.W.instObj C s.heap.objs.size) } (Value.ref (s.heap.objs.size + 1) :: us) I2.kIn hl
  rw [List.append_nil] at hb'
  have hg2 : (X.A.under (.builtin "type.__call__" ⟨.ref C :: us, []⟩)).guards = some [] := by
    simp [Around.under, hgd, Code.guards, Code.isGuard, pushGuards, guardIds]
  refine wpAny_call (make_map (f := f) I.kIn M.makes M.init (beq_iff_eq.mp M.fn) (codeAny_mono (F.run _ X.stack _ _ ⟨Value.ref (s.heap.objs.size + 1) :: us, []⟩ (Value.ref (s.heap.objs.size + 1) :: us) _ _ _ (hr.make C us []) hg2
    (I2.env0.make C us []) hb' r2 hq) fun r s' hq' => ?_))
  cases r with
  | error e => exact passW tk σ pins _ _ e s' I2 hq'
  | ok fl =>
    cases fl with
    | ret u =>
      obtain ⟨v, H', I3, rv, ev, q3⟩ := I2.after hq'
      subst ev
      exact ⟨rv, ⟨V.ref (s.heap.objs.size + 1), H', I3, rfl, q3⟩⟩
    | next => exact hq'.elim
    | brk => exact hq'.elim
    | cont => exact hq'.elim
theorem pe_makeG (M : Mk X.K C f) (F : FnG X.prog X.w X.K X.mg X.base k f fd ps sp) (hr : Room (k + 1) X.A) (hgd : X.A.guards = some []) (hg : Gl X x) (hm : X.mg x = some (.ref C)) (hb : Binds X.K fd ps []) (tk : Takes X W)
    (ha : PA X (e :: es) t) (hdb : (x == ("__debug__" : Str)) = false) (he : starEach (e :: es) X.env = (false, eval e X.env) :: starEach es X.env) (hpl : (backTo pos (starEach es X.env)).any (·.1) = false) :
    PE X (.Call (.Name x p) (e :: es) [] pos) (tMakeG C sp W t) := ⟨fun pins s σ H Q I h => by
  refine wpAny_Call_Name_kw (ld_glob I hg hm ?_ hdb)
  exact PySem.W.callWith_K (h₀ := X.base) I.ok.mod.kin M.kp (thn (ha.run pos pins s σ H _ I h) fun us s1 ⟨vs, H1, I1, r, q⟩ => ⟨I1.kIn, run_makeG M F hr hgd hb tk I1 r q⟩) he hpl⟩
theorem pe_makeG0 (M : Mk X.K C f) (F : FnG X.prog X.w X.K X.mg X.base k f fd ps sp) (hr : Room (k + 1) X.A) (hgd : X.A.guards = some []) (hg : Gl X x) (hm : X.mg x = some (.ref C)) (hb : Binds X.K fd ps []) (tk : Takes X W)
    (hdb : (x == ("__debug__" : Str)) = false) : PE X (.Call (.Name x p) [] [] pos) (tMakeG C sp W tNil) := ⟨fun pins s σ H Q I h => by
  refine wpAny_Call_Name_kw (ld_glob I hg hm ?_ hdb)
  exact PySem.W.callWith_K0 I.kIn M.kp (run_makeG (us := []) M F hr hgd hb tk I .nil h)⟩
end
/-- a def by its body -/
theorem FunD.okG {P : Program} {w : World} {K : PySem.W.Frag} {mg : Str → Option Value} {base : Heap} {x qual : Str} {params : Arguments} {body : List Stmt} {scope : Scope} {dvs : List V} {kws : List (Str × V)} {f : Addr} {fd : FuncData}
    {N ps : List Str} {k : Nat} {sp : Sp} (F : FunD K x qual params body scope dvs kws f fd) (S : FnScope N ps scope) (len : ∀ vs H Q E, sp vs H Q E → vs.length = ps.length)
    (hbody : ∀ (cdv : Value) (A : Around) (outer : List Env) (s : Shared) (H : Hp) (vs : List V) (Q : VK) (E : XK), Room k (A.deeper (envOfC qual scope s.heap.objs.size f cdv)) → A.guards = some [] → sp vs H Q E →
      ∃ t, PSs (cxOf (L2.CX P w) P w K mg base N qual scope f cdv A outer s H E) body t ∧ t { nx := fun _ H' => Q .non H', rt := Q } (start N vs) H) : FnG P w K mg base (k + 1) f fd ps sp := by
  obtain ⟨oc, od, dV, kV, doc, pm, an, cdv, ct, osl, rfl, lk, hcd, _, _⟩ := F.ex
  refine ⟨len, fun A outer s H args us vs Q E hr hg e0 hb r hsp => ?_⟩
  have hl := len _ _ _ _ hsp
  have KX : K.In s.heap := e0.mod.kin.keeps fun b o e => (e0.bs b o e).1
  have lim : s.heap.NoLimit := e0.mod.nolimit.keeps fun b o e => (e0.bs b o e).1
  refine codeAny_call_function hr.depth (KX _ _ lk) rfl S.co S.gen rfl (PySem.W.codeRec_of KX hcd) (hb _ _ _ _ ?_)
  refine wpAny_newFunctionEnv_cells S.kind (fun ⟨n, v⟩ hy => ?_) fun env he s1 x1 => ?_
  · rcases S.par n (List.of_mem_zip hy).1 with q | q
    · exact .inl q
    · exact .inr ⟨q, PySem.W.cellsFrom_some _ _ _ (.inl q)⟩
  subst he
  refine ⟨lim.keeps x1.toInCall.keep, codeAny_func ?_⟩
  obtain ⟨t, ht, hq⟩ := hbody cdv A outer s H vs Q E (hr.deeper _) hg hsp
  have I : Inv (cxOf (L2.CX P w) P w K mg base N qual scope f cdv A outer s H E) [] (start N vs) H s1 := inv_start S hr.hd e0 hl r x1
  have fin : ∀ {s' : Shared} {σ' : St} {H' : Hp} {v : V} {u : Value}, Inv (cxOf (L2.CX P w) P w K mg base N qual scope f cdv A outer s H E) [] σ' H' s' → RelV v u → Q v H' → CE outer P w H s Q u s' :=
    fun {s' σ' H' v u} J rv q => ⟨v, H', J.os, J.bare, J.base, J.hok, rv, q⟩
  refine wpAny_mono (ht.run [] s1 (start N vs) H _ I hq) (fun fl s' hs => ?_) fun e s' hs => hs
  cases fl with
  | ret u => exact let ⟨v, σ', H', J, rv, q⟩ := hs; fin J rv q
  | next => exact let ⟨σ', H', J, q⟩ := hs; fin (v := V.non) (u := Value.none) J rfl q
  | brk => exact let ⟨_, _, _, q⟩ := hs; False.elim q
  | cont => exact let ⟨_, _, _, q⟩ := hs; False.elim q
end Mi

set_option maxHeartbeats 4000000
namespace Mi
open PySem PySem.Spec PyProof.Rows L2

/-! ### calls of own defs -/
abbrev Run := List DV → Store → Res (DV × Store)
def OutC (K : PySem.W.Frag) (ca : Str → Addr) (E : XK) (G : Gm) (Q : VK) : Res (DV × Store) → Prop
  | .ok a => ∀ G' H' v, G.le G' → RelS K ca G' [] [] a.2 H' → RepV K G' v a.1 → Q v H'
  | .exc c v _ st' => ∀ G' H' dd x, G.le G' → RelS K ca G' [] [] st' H' → G'.B dd = none → H' dd = some (.xd [("at", x)]) → RepV K G' x v → E (.ref (ca c)) (some dd) H'
  | .bad => False
/-- a def's promise: what the mirror's run says -/
def spM (K : PySem.W.Frag) (ca : Str → Addr) (n : Nat) (run : Run) : Sp := fun vs H Q E => vs.length = n ∧ ∃ G st ds, RelS K ca G [] [] st H ∧ RepVs K G vs ds ∧ OutC K ca E G Q (run ds st)
def callR (run : Run) (ds : List DV) : XM DV := fun ρ st => match run ds st with
  | .ok r => .ok r
  | .exc c v _ st' => .exc c v ρ st'
  | .bad => .bad
def ofN (n : Nat) (run : Run) (ds : List DV) : XM DV := if ds.length = n then callR run ds else xBad
section
variable {K : PySem.W.Frag} {ca : Str → Addr} {G : Gm} {σ : St} {ρ : Ev} {st : Store} {H : Hp} {W : WX} {Q : VK}
theorem RelS.bare (R : RelS K ca G σ ρ st H) : RelS K ca G [] [] st H := R.envs rfl fun i d e => by simp at e
theorem RelS.back (R : RelS K ca G σ ρ st H) {G' : Gm} {st' : Store} {H' : Hp} (R' : RelS K ca G' [] [] st' H') (le : G.le G') : RelS K ca G' σ ρ st' H' := R'.envs R.len fun i d e => by
  obtain ⟨v, h1, h2⟩ := R.env i d e
  exact ⟨v, h1, h2.mono le⟩
theorem out_call {n : Nat} {run : Run} {vs : List V} {ds : List DV} (R : RelS K ca G σ ρ st H) (r : RepVs K G vs ds) (o : Out K ca (RepV K) W G σ ρ Q (ofN n run ds ρ st)) : spM K ca n run vs H Q (fun c d H => W c d σ H) := by
  unfold ofN at o
  split at o
  · rename_i hn
    refine ⟨r.len.trans hn, G, st, ds, R.bare, r, ?_⟩
    unfold callR at o
    cases h : run ds st with
    | ok a =>
      rw [h] at o
      exact fun G' H' v le R' r' => o G' H' v le (R.back R' le) r'
    | exc c v ρ' st' =>
      rw [h] at o
      exact fun G' H' dd x le R' b e r' => o G' σ H' dd x le (R.back R' le) b e r'
    | bad =>
      rw [h] at o
      exact o
  · exact o.elim
def xCall (n : Nat) (run : Run) (a : XM (List DV)) : XM DV := xBind a (ofN n run)
theorem rd_call {n : Nat} {run : Run} {m : XM (List DV)} (q : rdE K ca W (xCall n run m) σ H Q) : tCallG (spM K ca n run) W (rdA K ca W m) σ H Q :=
  rd_bind q fun G ρ st H1 vs ds R r o => out_call R r o
/-- o.m(..), o an instance -/
def insOf (d : DV) (st : Store) : Option (Str × List (Str × DV)) := match d with
  | .ref n => (match st[n]? with
    | some (.ins c fs) => some (c, fs)
    | _ => none)
  | _ => none
theorem insOf_ok {v : V} {d : DV} (R : RelS K ca G σ ρ st H) (r : RepV K G v d) {c : Str} {fs : List (Str × DV)} (h : insOf d st = some (c, fs)) :
    ∃ n a dx fv, d = .ref n ∧ v = .ref a ∧ a = G.mu n ∧ st[n]? = some (.ins c fs) ∧ H a = some (.ins (ca c) dx fv) ∧ RepFs K G fv fs := by
  cases r with
  | @ref n hn =>
    have h1 : (match st[n]? with
      | some (.ins c fs) => some (c, fs)
      | _ => none) = some (c, fs) := h
    cases e : st[n]? with
    | none => rw [e] at h1; cases h1
    | some cc =>
      rw [e] at h1
      cases cc with
      | ins c' fs' =>
        cases h1
        obtain ⟨dx, fv, e2, rs⟩ := R.cells n _ e
        exact ⟨n, _, dx, fv, rfl, rfl, rfl, e, e2, rs⟩
      | _ => cases h1
  | _ => cases h
theorem RepFs.none {f : Str} : ∀ {vs : List (Str × V)} {ds : List (Str × DV)}, RepFs K G vs ds → ds.lookup f = Option.none → vs.lookup f = Option.none
  | _, _, .nil, _ => rfl
  | _, _, .cons (k := k) a b, h => by
    cases hb : (f == k) with
    | true => simp only [List.lookup, hb] at h; cases h
    | false =>
      simp only [List.lookup, hb] at h ⊢
      exact RepFs.none b h
theorem RepFs.some {f : Str} {d : DV} : ∀ {vs : List (Str × V)} {ds : List (Str × DV)}, RepFs K G vs ds → ds.lookup f = Option.some d → ∃ v, vs.lookup f = Option.some v ∧ RepV K G v d
  | _, _, .nil, h => by cases h
  | _, _, .cons (k := k) a b, h => by
    cases hb : (f == k) with
    | true =>
      simp only [List.lookup, hb] at h ⊢
      cases h
      exact ⟨_, rfl, a⟩
    | false =>
      simp only [List.lookup, hb] at h ⊢
      exact RepFs.some b h
theorem RepFs.len : ∀ {vs : List (Str × V)} {ds : List (Str × DV)}, RepFs K G vs ds → vs.length = ds.length
  | _, _, .nil => rfl
  | _, _, .cons _ hs => congrArg Nat.succ (RepFs.len hs)
def putN (f : Str) (v : DV) : List (Str × DV) → List (Str × DV)
  | [] => [(f, v)]
  | (g, x) :: r => if g = f then (g, v) :: r else (g, x) :: putN f v r
theorem RepFs.put {f : Str} {v : V} {d : DV} (r : RepV K G v d) : ∀ {vs : List (Str × V)} {ds : List (Str × DV)}, RepFs K G vs ds → RepFs K G (putF f v vs) (putN f d ds)
  | _, _, .nil => .cons r .nil
  | _, _, .cons (k := k) a b => by
    unfold putF putN
    by_cases e : k = f
    · rw [if_pos e, if_pos e]
      exact .cons r b
    · rw [if_neg e, if_neg e]
      exact .cons a (RepFs.put r b)
/-- which method: by the class and the name -/
structure Df where
  n : Nat
  run : Run
def xMeth (mt : Str → Option Df) (m : Str) (o : XM DV) (a : XM (List DV)) : XM DV := xBind o fun d => fun ρ st => match insOf d st with
  | some (c, fs) => (match fs.lookup m, mt c with
    | none, some df => xBind a (fun ds => ofN df.n df.run (d :: ds)) ρ st
    | _, _ => .bad)
  | none => .bad
/-- C(..) -/
def xMake (c : Str) (df : Df) (a : XM (List DV)) : XM DV := xBind a fun ds => fun ρ st => match ofN df.n df.run (.ref st.length :: ds) ρ (st ++ [.ins c []]) with
  | .ok (.non, st') => .ok (.ref st.length, st')
  | .exc e v r s => .exc e v r s
  | _ => .bad
theorem rd_make {c : Str} {df : Df} {m : XM (List DV)} (q : rdE K ca W (xMake c df m) σ H Q) : tMakeG (ca c) (spM K ca df.n df.run) W (rdA K ca W m) σ H Q :=
  rd_bind q fun G ρ st H1 vs ds R r o => fun x dx hx hdx hne => by
    have R1 := R.same (upd_sameF (o := .own x) hdx)
    have hx1 : upd H1 dx (.own x) x = none := by rw [upd_ne (Ne.symm hne)]; exact hx
    obtain ⟨le, R2, r2⟩ := R1.cell (.ins (ca c) dx []) (.ins c []) hx1 fun G' le => ⟨dx, [], upd_same, .nil⟩
    refine out_call R2 (.cons r2 (r.mono le)) ?_
    have o2 := Out.le o le
    cases h : ofN df.n df.run (.ref st.length :: ds) ρ (st ++ [.ins c []]) with
    | ok a =>
      obtain ⟨d, st'⟩ := a
      simp only [h] at o2
      cases d with
      | non =>
        intro G' H' v le' R' r'
        cases r'
        exact ⟨rfl, o2 G' H' _ le' R' (r2.mono le')⟩
      | _ => exact o2.elim
    | exc e v r s =>
      simp only [h] at o2
      exact o2
    | bad =>
      simp only [h] at o2
      exact o2
/-! ### fields -/
def xFld (at_ : Str → Bool) (f : Str) (o : XM DV) : XM DV := xBind o fun d => xV fun st => match insOf d st with
  | some (c, fs) => (match at_ c, fs.lookup f with
    | true, some v => some (v, st)
    | _, _ => none)
  | none => none
end
section
variable {X : Cx} {ca : Str → Addr} {W : WX}
theorem rd_nil {σ : St} {H : Hp} {Q : List V → Hp → Prop} (q : rdA X.K ca W xNil σ H Q) : Q [] H := by
  obtain ⟨G, ρ, st, R, o⟩ := q
  exact o G H [] (Gm.le.refl _) R .nil
/-- what a class's fields ask -/
def AttrOk (K : PySem.W.Frag) (ca : Str → Addr) (f : Str) (at_ : Str → Bool) : Prop := ∀ c, at_ c = true → Cls K (ca c) ∧ NoAttr K (ca c) f
theorem re_fld {e : Expr} {f : Str} {m : XM DV} {at_ : Str → Bool} {pos : Pos} (ok : AttrOk X.K ca f at_) (he : PE X e (rdE X.K ca W m)) (hb : attributeBase e f X.env (eval e X.env) = eval e X.env) :
    PE X (.Attribute e f pos) (rdE X.K ca W (xFld at_ f m)) := pe_weak (pe_fld he hb) fun σ H Q q => by
  refine rd_bind q fun G ρ st H1 v d R r o => ?_
  obtain ⟨d2, st2, h, q2⟩ := out_xV o
  cases e1 : insOf d st with
  | none => rw [e1] at h; cases h
  | some p =>
    obtain ⟨c, fs⟩ := p
    rw [e1] at h
    simp only at h
    cases e2 : at_ c with
    | false => rw [e2] at h; cases h
    | true =>
      cases e3 : fs.lookup f with
      | none => rw [e2, e3] at h; cases h
      | some y =>
        rw [e2, e3] at h
        cases h
        obtain ⟨n, a, dx, fv, rfl, rfl, _, _, e4, e5⟩ := insOf_ok R r e1
        obtain ⟨v, e6, e7⟩ := e5.some e3
        obtain ⟨k1, k2⟩ := ok c e2
        exact ⟨a, ca c, dx, fv, v, rfl, e4, k1, k2, e6, q2 G H1 v (Gm.le.refl _) R e7⟩
/-! ### own calls -/
/-- a def of the text at a name -/
structure FnAt (X : Cx) (ca : Str → Addr) (k : Nat) (f : Addr) (df : Df) : Prop where
  ok : ∃ fd ps, ps.length = df.n ∧ FnG X.prog X.w X.K X.mg X.base k f fd ps (spM X.K ca df.n df.run) ∧ Binds X.K fd ps []
theorem re_call {x : Str} {p pos : Pos} {e : Expr} {es : List Expr} {m : XM (List DV)} {k : Nat} {f : Addr} {df : Df} (F : FnAt X ca k f df) (hr : Room k X.A) (hgd : X.A.guards = some []) (hg : Gl X x) (hm : X.mg x = some (.ref f)) (hk : PySem.W.keepIn X.K (.ref f) = true) (tk : Takes X W)
    (ha : PA X (e :: es) (rdA X.K ca W m)) (hdb : (x == ("__debug__" : Str)) = false) (he : starEach (e :: es) X.env = (false, eval e X.env) :: starEach es X.env) (hpl : (backTo pos (starEach es X.env)).any (·.1) = false) :
    PE X (.Call (.Name x p) (e :: es) [] pos) (rdE X.K ca W (xCall df.n df.run m)) := by
  obtain ⟨fd, ps, _, F, hb⟩ := F.ok
  exact pe_weak (pe_callG F hr hgd hg hm hk hb tk ha hdb he hpl) fun σ H Q q => rd_call q
theorem re_call0 {x : Str} {p pos : Pos} {k : Nat} {f : Addr} {df : Df} (F : FnAt X ca k f df) (hr : Room k X.A) (hgd : X.A.guards = some []) (hg : Gl X x) (hm : X.mg x = some (.ref f)) (hk : PySem.W.keepIn X.K (.ref f) = true) (tk : Takes X W)
    (hdb : (x == ("__debug__" : Str)) = false) : PE X (.Call (.Name x p) [] [] pos) (rdE X.K ca W (xCall df.n df.run xNil)) := by
  obtain ⟨fd, ps, _, F, hb⟩ := F.ok
  exact pe_weak (pe_callG0 F hr hgd hg hm hk hb tk hdb) fun σ H Q q => rd_nil (W := W) (rd_call q)
/-- what a class's methods ask -/
def MethOk (X : Cx) (ca : Str → Addr) (k : Nat) (m : Str) (mt : Str → Option Df) : Prop := ∀ c df, mt c = some df → Cls X.K (ca c) ∧ ∃ f, Meth X.K (ca c) m f ∧ FnAt X ca k f df
theorem rd_meth {m : Str} {mt : Str → Option Df} {mo : XM DV} {ma : XM (List DV)} {σ : St} {H : Hp} {Q : VK} (q : rdE X.K ca W (xMeth mt m mo ma) σ H Q) :
    (∃ c df, mt c = some df ∧ tMethG (ca c) m (spM X.K ca df.n df.run) W (rdE X.K ca W mo) (rdA X.K ca W ma) σ H Q) ∨ tCallG (fun _ _ _ _ => False) W (fun σ H Q' => rdE X.K ca W mo σ H fun _ _ => False) σ H Q := by
  obtain ⟨G, ρ, st, R, o⟩ := q
  cases e1 : mo ρ st with
  | bad => unfold xMeth xBind at o; rw [e1] at o; exact o.elim
  | exc c v r s =>
    unfold xMeth xBind at o; rw [e1] at o
    exact .inr ⟨G, ρ, st, R, by rw [e1]; exact o⟩
  | ok p =>
    obtain ⟨d, st1⟩ := p
    unfold xMeth xBind at o; rw [e1] at o
    simp only at o
    cases e2 : insOf d st1 with
    | none => simp only [e2] at o; exact o.elim
    | some cf =>
      obtain ⟨c, fs⟩ := cf
      simp only [e2] at o
      cases e3 : fs.lookup m with
      | some z => simp only [e3] at o; exact o.elim
      | none =>
        cases e4 : mt c with
        | none => simp only [e3, e4] at o; exact o.elim
        | some df =>
          simp only [e3, e4] at o
          refine .inl ⟨c, df, e4, G, ρ, st, R, ?_⟩
          rw [e1]
          intro G1 H1 v le1 R1 r1
          obtain ⟨n, a, dx, fv, rfl, rfl, _, _, h1, h2⟩ := insOf_ok R1 r1 e2
          refine ⟨a, dx, fv, rfl, h1, h2.none e3, rd_of R1 (out_bind (Out.le o le1) fun G2 H2 vs ds st2 le2 R2 r2 o2 => ?_)⟩
          exact out_call R2 (.cons (r1.mono le2) r2) o2
theorem pe_fail {e : Expr} {t : TE} (h : ∀ (pins : List (Addr × Obj)) (s : Shared) (σ : St) (H : Hp) (Q : VK), Inv X pins σ H s → t σ H Q → wpAny (model X.prog X.w) X.A (eval e X.env) (EP X pins σ Q) X.xe s) : PE X e t := ⟨h⟩
theorem re_meth {o e : Expr} {es : List Expr} {m : Str} {mt : Str → Option Df} {mo : XM DV} {ma : XM (List DV)} {k : Nat} {pl : Sem Bool} {apos pos : Pos} (M : MethOk X ca k m mt) (hr : Room k X.A) (hgd : X.A.guards = some []) (tk : Takes X W)
    (he : PE X o (rdE X.K ca W mo)) (ha : PA X (e :: es) (rdA X.K ca W ma)) (hst : starEach (e :: es) X.env = (false, eval e X.env) :: starEach es X.env) (hpl : (backTo pos (starEach es X.env)).any (·.1) = false)
    (ht : eval (.Call (.Attribute o m apos) (e :: es) [] pos) X.env = (do
      let ov ← eval o X.env
      standAt apos.atName
      let (f, first) ← holding [ov] (getMethod ov m pl)
      callWith pos f first (backTo pos (starEach (e :: es) X.env)) (backToKw pos (keywordEach [] X.env)))) :
    PE X (.Call (.Attribute o m apos) (e :: es) [] pos) (rdE X.K ca W (xMeth mt m mo ma)) := ⟨fun pins s σ H Q I q => by
  rcases rd_meth q with ⟨c, df, e4, q2⟩ | q2
  · obtain ⟨k1, f, k2, k3⟩ := M c df e4
    obtain ⟨fd, ps, _, F, hb⟩ := k3.ok
    exact (pe_methG he k1 k2 F hr hgd hb tk ha hst hpl ht).run pins s σ H Q I q2
  · exact PySem.W.methodCall_KW (pl := pl) (thn (he.run pins s σ H _ I q2) fun u s1 ⟨x, H1, I1, rx, z⟩ => z.elim) ht⟩
theorem re_meth0 {o : Expr} {m : Str} {mt : Str → Option Df} {mo : XM DV} {k : Nat} {pl : Sem Bool} {apos pos : Pos} (M : MethOk X ca k m mt) (hr : Room k X.A) (hgd : X.A.guards = some []) (tk : Takes X W)
    (he : PE X o (rdE X.K ca W mo))
    (ht : eval (.Call (.Attribute o m apos) [] [] pos) X.env = (do
      let ov ← eval o X.env
      standAt apos.atName
      let (f, first) ← holding [ov] (getMethod ov m pl)
      callWith pos f first (backTo pos (starEach [] X.env)) (backToKw pos (keywordEach [] X.env)))) :
    PE X (.Call (.Attribute o m apos) [] [] pos) (rdE X.K ca W (xMeth mt m mo xNil)) := ⟨fun pins s σ H Q I q => by
  rcases rd_meth q with ⟨c, df, e4, q2⟩ | q2
  · obtain ⟨k1, f, k2, k3⟩ := M c df e4
    obtain ⟨fd, ps, _, F, hb⟩ := k3.ok
    refine (pe_methG0 he k1 k2 F hr hgd hb tk ht).run pins s σ H Q I (rd_mono q2 fun x H1 z => ?_)
    obtain ⟨a, dx, fs, e1, e2, e3, z2⟩ := z
    exact ⟨a, dx, fs, e1, e2, e3, rd_nil (W := W) z2⟩
  · exact PySem.W.methodCall_KW (pl := pl) (thn (he.run pins s σ H _ I q2) fun u s1 ⟨x, H1, I1, rx, z⟩ => z.elim) ht⟩
theorem re_make {x : Str} {p pos : Pos} {e : Expr} {es : List Expr} {m : XM (List DV)} {k : Nat} {c : Str} {f : Addr} {df : Df} (M : Mk X.K (ca c) f) (F : FnAt X ca k f df) (hr : Room (k + 1) X.A) (hgd : X.A.guards = some []) (hg : Gl X x) (hm : X.mg x = some (.ref (ca c))) (tk : Takes X W)
    (ha : PA X (e :: es) (rdA X.K ca W m)) (hdb : (x == ("__debug__" : Str)) = false) (he : starEach (e :: es) X.env = (false, eval e X.env) :: starEach es X.env) (hpl : (backTo pos (starEach es X.env)).any (·.1) = false) :
    PE X (.Call (.Name x p) (e :: es) [] pos) (rdE X.K ca W (xMake c df m)) := by
  obtain ⟨fd, ps, _, F, hb⟩ := F.ok
  exact pe_weak (pe_makeG M F hr hgd hg hm hb tk ha hdb he hpl) fun σ H Q q => rd_make q
theorem re_make0 {x : Str} {p pos : Pos} {k : Nat} {c : Str} {f : Addr} {df : Df} (M : Mk X.K (ca c) f) (F : FnAt X ca k f df) (hr : Room (k + 1) X.A) (hgd : X.A.guards = some []) (hg : Gl X x) (hm : X.mg x = some (.ref (ca c))) (tk : Takes X W)
    (hdb : (x == ("__debug__" : Str)) = false) : PE X (.Call (.Name x p) [] [] pos) (rdE X.K ca W (xMake c df xNil)) := by
  obtain ⟨fd, ps, _, F, hb⟩ := F.ok
  exact pe_weak (pe_makeG0 M F hr hgd hg hm hb tk hdb) fun σ H Q q => rd_nil (W := W) (rd_make q)
/-! ### built-in functions -/
theorem re_bi {x : Str} {p pos : Pos} {e : Expr} {es : List Expr} {m : XM (List DV)} {mu : Bool} {f : BK} {vn : VN} (E : Env1 X) (hb : bFun x mu = some (f, vn)) (hg : Gl X x) (hm : X.mg x = none)
    (ha : PA X (e :: es) (rdA X.K ca W m)) (he : starEach (e :: es) X.env = (false, eval e X.env) :: starEach es X.env) (hpl : (backTo pos (starEach es X.env)).any (·.1) = false) :
    PE X (.Call (.Name x p) (e :: es) [] pos) (rdE X.K ca W (xN m vn)) := by
  obtain ⟨h1, h2, h3, r, cr, s⟩ := bFun_ok (ca := ca) E hb
  cases f with
  | b id => exact pe_weak (pe_callB cr hg hm h1 ha h2 h3 he hpl) fun σ H Q q => rd_xN s q
  | t T => exact pe_weak (pe_callTy cr hg hm h1 ha h2 h3 he hpl) fun σ H Q q => rd_xN s q
end
end Mi

set_option maxHeartbeats 4000000
namespace Mi
open PySem PySem.Spec PyProof.Rows L2

/-! ### what the syntax asks -/
def noStar : Expr → Bool
  | .Starred .. => false
  | _ => true
theorem star_no {e : Expr} {es : List Expr} {env : Env} (h : noStar e = true) : starEach (e :: es) env = (false, eval e env) :: starEach es env := by
  cases e <;> first | rfl | cases h
theorem star_any_no {es : List Expr} {env : Env} {pos : Pos} (h : es.all noStar = true) : (backTo pos (starEach es env)).any (·.1) = false := by
  induction es with
  | nil => rfl
  | cons e es ih =>
    rw [List.all_cons, Bool.and_eq_true] at h
    rw [star_no h.1]
    show (false || (backTo pos (starEach es env)).any (·.1)) = false
    rw [ih h.2]
    rfl
theorem star_all_no {es : List Expr} {env : Env} {pos : Pos} (h : es.all noStar = true) : (backTo pos (starEach es env)).all (fun x => !x.1) = true := by
  induction es with
  | nil => rfl
  | cons e es ih =>
    rw [List.all_cons, Bool.and_eq_true] at h
    rw [star_no h.1]
    show (!false && (backTo pos (starEach es env)).all (fun x => !x.1)) = true
    rw [ih h.2]
    rfl
def plainBase : Expr → Bool
  | .Call (.Name id _) [] [] _ => id != "super"
  | _ => true
theorem plainBase_ok {o : Expr} {m : Str} {env : Env} {w : Sem Value} (h : plainBase o = true) : attributeBase o m env w = w := by
  unfold attributeBase
  split
  · rename_i id p1 p2
    have h' : (id != ("super" : Str)) = true := h
    rw [h']
    rfl
  · rfl
def fewArgs (es : List Expr) : Bool := es.all noStar && decide (es.length < 30)
theorem few_ok {es : List Expr} {env : Env} {pos : Pos} (h : fewArgs es = true) : ((backTo pos (starEach es env)).all (fun x => !x.1) && (backToKw pos (keywordEach [] env)).all (fun x => x.1.isSome)
    && decide (es.length + ([] : List Keyword).length + (if ([] : List Keyword).isEmpty then 0 else 1) < 30)) = true := by
  unfold fewArgs at h
  rw [Bool.and_eq_true, decide_eq_true_eq] at h
  rw [star_all_no h.1]
  show (true && true && decide (es.length + 0 + 0 < 30)) = true
  rw [decide_eq_true (by omega)]
  rfl
def plOf (o : Expr) (env : Env) : Sem Bool := do return (← importBound o env).getD true
theorem call_form {o : Expr} {m : Str} {apos pos : Pos} {es : List Expr} {env : Env} (hb : plainBase o = true) (hs : fewArgs es = true) (hl : (apos.endLine == pos.line) = true) :
    eval (.Call (.Attribute o m apos) es [] pos) env = (do
      let ov ← eval o env
      standAt apos.atName
      let (f, first) ← holding [ov] (getMethod ov m (plOf o env))
      callWith pos f first (backTo pos (starEach es env)) (backToKw pos (keywordEach [] env))) := by
  have hf : methodCallForm (es.length + ([] : List Keyword).length) (backTo pos (starEach es env)) (backToKw pos (keywordEach [] env)) = true := few_ok hs
  have hp : methodCallPos true o env apos pos = pure pos := by
    unfold methodCallPos
    rw [hl]
    rfl
  have e1 : ∀ ov, methodCall o m apos pos env ov (es.length + ([] : List Keyword).length) (backTo pos (starEach es env)) (backToKw pos (keywordEach [] env)) = (do
      let (f, first) ← holding [ov] (getMethod ov m (plOf o env))
      callWith pos f first (backTo pos (starEach es env)) (backToKw pos (keywordEach [] env))) := fun ov => by
    unfold methodCall
    rw [hf, hp]
    simp only [pure_bind]
    rfl
  rw [arm_eval_Call, plainBase_ok hb]
  simp only [e1]
theorem swaps_other {v t : Expr} {l : Nat} {env : Env} (h : ∀ x p, t ≠ .Name x p) : swapsWith v (some t) l env = pure false := by
  unfold swapsWith
  cases v <;> first
    | rfl
    | (cases t <;> first | rfl | (exact absurd rfl (h _ _)))

/-! ### methods of built-in types -/
abbrev VM := DV → List DV → Store → Option (DV × Store)
def SndM (K : PySem.W.Frag) (ca : Str → Addr) (r : V → List V → Hp → VK → Prop) (m : VM) : Prop :=
  ∀ G σ ρ st H vx x vs ds d st' (Q : VK), RelS K ca G σ ρ st H → RepV K G vx x → RepVs K G vs ds → m x ds st = some (d, st') →
    (∀ G' H' v, G.le G' → RelS K ca G' σ ρ st' H' → RepV K G' v d → Q v H') → r vx vs H Q
def mlst (d : DV) (st : Store) : Option (Nat × List DV) := match d with
  | .ref n => (match st[n]? with
    | some (.lst xs) => some (n, xs)
    | _ => none)
  | _ => none
def mdct (d : DV) (st : Store) : Option (Nat × List (Key × DV)) := match d with
  | .ref n => (match st[n]? with
    | some (.dct xs) => some (n, xs)
    | _ => none)
  | _ => none
section
variable {K : PySem.W.Frag} {ca : Str → Addr} {G : Gm} {σ : St} {ρ : Ev} {st : Store} {H : Hp}
theorem mlst_ok {v : V} {d : DV} (R : RelS K ca G σ ρ st H) (r : RepV K G v d) {n : Nat} {xs : List DV} (h : mlst d st = some (n, xs)) : ∃ vs, d = .ref n ∧ v = .ref (G.mu n) ∧ st[n]? = some (.lst xs) ∧ H (G.mu n) = some (.lst vs) ∧ RepVs K G vs xs := by
  cases r with
  | @ref k hk =>
    have h1 : (match st[k]? with
      | some (.lst xs) => some (k, xs)
      | _ => none) = some (n, xs) := h
    cases e : st[k]? with
    | none => rw [e] at h1; cases h1
    | some c =>
      rw [e] at h1
      cases c with
      | lst ys =>
        cases h1
        obtain ⟨vs, e2, rs⟩ := R.cells _ _ e
        exact ⟨vs, rfl, rfl, e, e2, rs⟩
      | _ => cases h1
  | _ => cases h
theorem mdct_ok {v : V} {d : DV} (R : RelS K ca G σ ρ st H) (r : RepV K G v d) {n : Nat} {xs : List (Key × DV)} (h : mdct d st = some (n, xs)) : ∃ vs, d = .ref n ∧ v = .ref (G.mu n) ∧ st[n]? = some (.dct xs) ∧ H (G.mu n) = some (.dK vs) ∧ RepKs K G vs xs := by
  cases r with
  | @ref k hk =>
    have h1 : (match st[k]? with
      | some (.dct xs) => some (k, xs)
      | _ => none) = some (n, xs) := h
    cases e : st[k]? with
    | none => rw [e] at h1; cases h1
    | some c =>
      rw [e] at h1
      cases c with
      | dct ys =>
        cases h1
        obtain ⟨vs, e2, rs⟩ := R.cells _ _ e
        exact ⟨vs, rfl, rfl, e, e2, rs⟩
      | _ => cases h1
  | _ => cases h
theorem setL_ok (R : RelS K ca G σ ρ st H) {n : Nat} {xs ys : List DV} {ws : List V} (e : st[n]? = some (.lst xs)) (r : RepVs K G ws ys) : RelS K ca G σ ρ (st.set n (.lst ys)) (upd H (G.mu n) (.lst ws)) :=
  R.write e trivial ⟨ws, upd_same, r⟩ trivial
theorem setD_ok (R : RelS K ca G σ ρ st H) {n : Nat} {xs ys : List (Key × DV)} {ws : List (Key × V)} (e : st[n]? = some (.dct xs)) (r : RepKs K G ws ys) : RelS K ca G σ ρ (st.set n (.dct ys)) (upd H (G.mu n) (.dK ws)) :=
  R.write e trivial ⟨ws, upd_same, r⟩ trivial
end
def mAppend : VM := fun x ds st => match ds with
  | [y] => (match mlst x st with
    | some (n, xs) => if xs.length < sizeLine then some (.non, st.set n (.lst (xs ++ [y]))) else none
    | none => none)
  | _ => none
def mExtend : VM := fun x ds st => match ds with
  | [y] => (match mlst x st, hlst y st with
    | some (n, xs), some ys => if xs.length + ys.length ≤ sizeLine then some (.non, st.set n (.lst (xs ++ ys))) else none
    | _, _ => none)
  | _ => none
def mPop : VM := fun x ds st => match ds with
  | [] => (match mlst x st with
    | some (n, xs) => (match xs[xs.length - 1]? with
      | some y => some (y, st.set n (.lst xs.dropLast))
      | none => none)
    | none => none)
  | _ => none
section
variable {K : PySem.W.Frag} {ca : Str → Addr} {X : Cx}
theorem snd_append : SndM K ca rAppend mAppend := by
  intro G σ ρ st H vx x vs ds d st' Q R rx rs e q
  unfold mAppend at e
  split at e
  · rename_i y
    cases h : mlst x st with
    | none => rw [h] at e; cases e
    | some p =>
      obtain ⟨n, xs⟩ := p
      rw [h] at e
      simp only at e
      split at e
      · rename_i hz
        cases e
        obtain ⟨ws, rfl, rfl, e1, e2, e3⟩ := mlst_ok R rx h
        obtain ⟨v, rfl, ry⟩ := rep1 rs
        exact ⟨_, ws, v, rfl, rfl, e2, by rw [e3.len]; exact hz, q G _ _ (Gm.le.refl _) (setL_ok R e1 (e3.append (.cons ry .nil))) .non⟩
      · cases e
  · cases e
theorem snd_extend : SndM K ca rExtend mExtend := by
  intro G σ ρ st H vx x vs ds d st' Q R rx rs e q
  unfold mExtend at e
  split at e
  · rename_i y
    cases h : mlst x st with
    | none => rw [h] at e; cases e
    | some p =>
      obtain ⟨n, xs⟩ := p
      cases h2 : hlst y st with
      | none => rw [h, h2] at e; cases e
      | some ys =>
        rw [h, h2] at e
        simp only at e
        split at e
        · rename_i hz
          cases e
          obtain ⟨ws, rfl, rfl, e1, e2, e3⟩ := mlst_ok R rx h
          obtain ⟨v, rfl, ry⟩ := rep1 rs
          obtain ⟨b, zs, rfl, e4, e5⟩ := hlst_ok R ry h2
          exact ⟨_, b, ws, zs, rfl, rfl, e2, e4, by rw [e3.len, e5.len]; exact hz, q G _ _ (Gm.le.refl _) (setL_ok R e1 (e3.append e5)) .non⟩
        · cases e
  · cases e
theorem RepVs.dropLast {G : Gm} : ∀ {vs : List V} {ds : List DV}, RepVs K G vs ds → RepVs K G vs.dropLast ds.dropLast
  | _, _, .nil => .nil
  | _, _, .cons a .nil => .nil
  | _, _, .cons a (.cons b c) => .cons a (RepVs.dropLast (.cons b c))
theorem snd_pop : SndM K ca rPop mPop := by
  intro G σ ρ st H vx x vs ds d st' Q R rx rs e q
  unfold mPop at e
  split at e
  · cases h : mlst x st with
    | none => rw [h] at e; cases e
    | some p =>
      obtain ⟨n, xs⟩ := p
      rw [h] at e
      simp only at e
      cases h2 : xs[xs.length - 1]? with
      | none => rw [h2] at e; cases e
      | some y =>
        rw [h2] at e
        cases e
        obtain ⟨ws, rfl, rfl, e1, e2, e3⟩ := mlst_ok R rx h
        cases rs
        obtain ⟨v, h3, h4⟩ := e3.get h2
        exact ⟨_, ws, v, rfl, rfl, e2, by rw [e3.len]; exact h3, q G _ _ (Gm.le.refl _) (setL_ok R e1 e3.dropLast) h4⟩
  · cases e
end
/-! ### methods of dicts -/
def putKD (kvs : List (Key × DV)) (k : Key) (v : DV) : List (Key × DV) :=
  if (kvs.any fun kv => decide (kv.1 = k)) = true then kvs.map (fun kv => if kv.1 = k then (kv.1, v) else kv) else kvs ++ [(k, v)]
section
variable {K : PySem.W.Frag} {G : Gm}
theorem RepKs.any {k : Key} : ∀ {vs : List (Key × V)} {ds : List (Key × DV)}, RepKs K G vs ds → (vs.any fun kv => decide (kv.1 = k)) = (ds.any fun kv => decide (kv.1 = k))
  | _, _, .nil => rfl
  | _, _, .cons _ hs => by rw [List.any_cons, List.any_cons, RepKs.any hs]
theorem RepKs.appendK : ∀ {vs ws : List (Key × V)} {ds es : List (Key × DV)}, RepKs K G vs ds → RepKs K G ws es → RepKs K G (vs ++ ws) (ds ++ es)
  | _, _, _, _, .nil, h => h
  | _, _, _, _, .cons a b, h => .cons a (RepKs.appendK b h)
theorem RepKs.mapK {k : Key} {v : V} {d : DV} (r : RepV K G v d) : ∀ {vs : List (Key × V)} {ds : List (Key × DV)}, RepKs K G vs ds → RepKs K G (vs.map fun kv => if kv.1 = k then (kv.1, v) else kv) (ds.map fun kv => if kv.1 = k then (kv.1, d) else kv)
  | _, _, .nil => .nil
  | _, _, .cons (k := k') a b => by
    rw [List.map_cons, List.map_cons]
    by_cases e : k' = k
    · rw [if_pos e, if_pos e]
      exact .cons r (RepKs.mapK r b)
    · rw [if_neg e, if_neg e]
      exact .cons a (RepKs.mapK r b)
theorem RepKs.put {k : Key} {v : V} {d : DV} {vs : List (Key × V)} {ds : List (Key × DV)} (h : RepKs K G vs ds) (r : RepV K G v d) : RepKs K G (putK vs k v) (putKD ds k d) := by
  unfold putK putKD
  rw [h.any]
  split
  · exact RepKs.mapK r h
  · exact h.appendK (.cons r .nil)
def mergeKD (kvs more : List (Key × DV)) : List (Key × DV) := more.foldl (fun acc kv => putKD acc kv.1 kv.2) kvs
theorem RepKs.merge : ∀ {more : List (Key × V)} {md : List (Key × DV)} {kvs : List (Key × V)} {ds : List (Key × DV)}, RepKs K G more md → RepKs K G kvs ds → RepKs K G (mergeK kvs more) (mergeKD ds md)
  | _, _, _, _, .nil, h => h
  | _, _, kvs, ds, .cons (k := k) (v := v) (d := d) (vs := vs) (ds := es) a b, h => by
    have z := RepKs.merge b (h.put (k := k) a)
    exact z
end
/-- pairs, in a list -/
def pairOf : DV → Option (Key × DV)
  | .tup [k, v] => (match keyOf k with
    | some k' => some (k', v)
    | none => none)
  | _ => none
def pairsOf : List DV → Option (List (Key × DV))
  | [] => some []
  | d :: r => match pairOf d, pairsOf r with
    | some p, some ps => some (p :: ps)
    | _, _ => none
def mUpdate : VM := fun x ds st => match ds with
  | [y] => (match mdct x st, hlst y st with
    | some (n, kvs), some ys => (match pairsOf ys with
      | some prs => if kvs.length + prs.length ≤ sizeLine then some (.non, st.set n (.dct (mergeKD kvs prs))) else none
      | none => none)
    | _, _ => none)
  | _ => none
def mGet : VM := fun x ds st => match ds with
  | [y] => (match hdct x st, keyOf y with
    | some kvs, some k => some ((valD k kvs).getD .non, st)
    | _, _ => none)
  | [y, z] => (match hdct x st, keyOf y with
    | some kvs, some k => some ((valD k kvs).getD z, st)
    | _, _ => none)
  | _ => none
/-- prs, laid as a list of pairs -/
def LaidPs (K : PySem.W.Frag) (H : Hp) (ts : List V) (prs : List (Key × V)) : Prop := ts.length = prs.length ∧ ∀ (j : Nat) (k : Key) (v : V), prs[j]? = some (k, v) → ∃ c : Addr, ts[j]? = some (V.ref c) ∧ SqT K H c [kV k, v]
def rUpdP (K : PySem.W.Frag) : V → List V → Hp → VK → Prop := fun x vs H Q => ∃ a b kvs ts prs, x = .ref a ∧ vs = [.ref b] ∧ H a = some (.dK kvs) ∧ H b = some (.lst ts) ∧ LaidPs K H ts prs ∧ kvs.length + prs.length ≤ sizeLine ∧ Q .non (upd H a (.dK (mergeK kvs prs)))
def rGetK : V → List V → Hp → VK → Prop := fun x vs H Q => ∃ a kvs k z, x = .ref a ∧ H a = some (.dK kvs) ∧ (vs = [kV k] ∧ z = V.non ∨ vs = [kV k, z]) ∧ Q ((valV kvs k).getD z) H
theorem laid_pairs {X : Cx} {pins : List (Addr × Obj)} {σ : St} {H : Hp} {s : Shared} (I : Inv X pins σ H s) : ∀ {prs : List (Key × V)} {ts : List V} {its : List Value}, Vals ts its → LaidPs X.K H ts prs →
    ∃ (cs : List Addr) (ps : List (Value × Value)) (kv : List (Key × Value)), its = cs.map Value.ref ∧ cs.length = prs.length ∧ ps.length = prs.length ∧ KV prs kv ∧ kv.length = prs.length ∧
      ∀ (j : Nat) (k v : Value), ps[j]? = some (k, v) → ∃ (c : Addr) (key : Key), cs[j]? = some c ∧ IsTup s.heap c #[k, v] ∧ kv[j]? = some (key, v) ∧ (mixKind X.prog X.w).is key k = true
  | [], ts, its, r, h => by
    have : ts = [] := List.length_eq_zero_iff.1 h.1
    subst this
    cases r
    exact ⟨[], [], [], rfl, rfl, rfl, .nil, rfl, fun j k v e => by simp at e⟩
  | (k, v) :: prs, ts, its, r, h => by
    cases r with
    | nil => exact absurd h.1 (by simp)
    | @cons t u ts us r1 r2 =>
      obtain ⟨c, e1, e2⟩ := h.2 0 k v rfl
      have e1 : t = .ref c := by simpa using e1
      subst e1
      obtain rfl : u = Value.ref c := r1
      obtain ⟨its2, rv, tp, _⟩ := I.tuple e2
      cases rv with
      | @cons _ w1 _ _ rk rv =>
        cases rv with
        | @cons _ w2 _ _ rw' rv =>
          cases rv
          have h' : LaidPs X.K H ts prs := ⟨by have := h.1; simpa using this, fun j k' v' e => by
            obtain ⟨c', q1, q2⟩ := h.2 (j + 1) k' v' (by simpa using e)
            exact ⟨c', by simpa using q1, q2⟩⟩
          obtain ⟨cs, ps, kv, q1, q2, q3, q4, q5, q6⟩ := laid_pairs I r2 h'
          refine ⟨c :: cs, (w1, w2) :: ps, (k, w2) :: kv, by rw [q1]; rfl, by simp [q2], by simp [q3], .cons ⟨rfl, rw'⟩ q4, by simp [q5], fun j k' v' e => ?_⟩
          cases j with
          | zero =>
            simp at e
            obtain ⟨rfl, rfl⟩ := e
            exact ⟨c, k, rfl, tp, rfl, kV_is rk⟩
          | succ j =>
            obtain ⟨c', key, z1, z2, z3, z4⟩ := q6 j k' v' (by simpa using e)
            exact ⟨c', key, by simpa using z1, z2, by simpa using z3, z4⟩
theorem mt_update {X : Cx} (hc : X.calm = true) : MtR X "dict.update" (rUpdP X.K) := by
  intro pins s σ H x vs v us Q I rx rv h
  obtain ⟨a, b, kvs, ts, prs, rfl, rfl, hH, hB, hl, hz, q⟩ := h
  cases rx
  obtain ⟨u, rfl, ru⟩ := rv.one
  cases ru
  obtain ⟨z2, its, n2, r2, hl2, e2⟩ := I.lstM hB
  obtain ⟨z, hd, vs0, rel, dd⟩ := dk_of I.hok hH
  obtain ⟨cs, ps, kv, q1, q2, q3, q4, q5, q6⟩ := laid_pairs I r2 hl
  have hT : ∀ j, j < ps.length → ∃ c, cs[j]? = some c := fun j hj => ⟨cs[j]'(by omega), List.getElem?_eq_getElem (by omega)⟩
  have hat : ∀ (j : Nat) (k v : Value), ps[j]? = some (k, v) → its.toArray[j]? = some (Value.ref (cs[j]?.getD 0)) ∧ PySem.PairAt s.heap (cs[j]?.getD 0) k v := by
    intro j k v e
    obtain ⟨c, key, z1, z2, z3, z4⟩ := q6 j k v e
    rw [z1]
    refine ⟨?_, .inl z2⟩
    rw [q1]
    simp [z1]
  have P := PySem.PairArg.list (prog := X.prog) (w := X.w) b its.toArray (fun j => cs[j]?.getD 0) ps
  have hda : ∀ c : Addr, ∀ o, s.heap.get? c = some o → o.cls ≠ .type "dict" → a ≠ c := by
    intro c o e h1 h2
    subst h2
    obtain ⟨o', e', h3⟩ := dd.typeIs
    rw [e] at e'
    cases e'
    exact h1 h3
  refine PySem.call_update_pairs (knd := mixKind X.prog X.w) (kvs := kv) (acc := vs0) P (I.ok.hd hc) ⟨⟨_, _, e2, rfl, rfl, rfl⟩, ?_, hat⟩ ?_ ⟨by omega, fun i key v e => ?_⟩ dd ?_ fun h' tk hd' hk => ?_
  · rw [List.size_toArray, q1, List.length_map]
    omega
  · intro hm
    rcases List.mem_cons.1 hm with e | hm
    · exact hda b _ e2 (by simp) e
    · obtain ⟨j, hj, rfl⟩ := List.mem_map.1 hm
      obtain ⟨⟨k, v⟩, e⟩ : ∃ p, ps[j]? = some p := ⟨ps[j]'(by simpa using hj), List.getElem?_eq_getElem (by simpa using hj)⟩
      obtain ⟨c, key, z1, ⟨o, z2, z3, _⟩, _⟩ := q6 j k v e
      rw [z1] at hda
      exact hda c o z2 (by rw [z3]; simp) rfl
  · obtain ⟨c, ky, z1, z2, z3, z4⟩ := q6 i key v e
    exact ⟨ky, z3, z4⟩
  · rw [← rel.length, q3]
    exact hz
  · have he : ∃ q, h'.get? a = some q := let ⟨q, _, _, hq, _⟩ := hd'; ⟨q, hq⟩
    have hlen : (mergeK kvs prs).length ≤ sizeLine := Nat.le_trans (length_mergeK prs kvs) hz
    exact ⟨.non, _, I.write (x := a) (e := a) (by rw [hH]; exact True.intro) (.inl rfl) (fun b' q' hb e => hk b' q' hb (by simp) e) he (dk_new hlen hd (q4.merge rel) hd'), rfl, q⟩
theorem mt_get {X : Cx} (hu : X.A.units + 1 < cLine) : MtR X "dict.get" rGetK := by
  intro pins s σ H x vs v us Q I rx rv h
  obtain ⟨a, kvs, k, z, rfl, hH, hv, q⟩ := h
  cases rx
  rcases hv with ⟨rfl, rfl⟩ | rfl
  · obtain ⟨u, rfl, ru⟩ := rv.one
    exact d_get1 hu I (.inl ⟨kvs, k, .inl hH, rfl, rfl⟩) ru fun w' s3 I3 rw' => ⟨_, H, I3, rw', q⟩
  · cases rv with
    | cons ru rv =>
      cases rv with
      | cons rz rv =>
        cases rv
        exact d_get2 hu I (.inl ⟨kvs, k, .inl hH, rfl, rfl⟩) ru rz fun w' s3 I3 rw' => ⟨_, H, I3, rw', q⟩
section
variable {K : PySem.W.Frag} {ca : Str → Addr} {X : Cx}
theorem pairOf_ok {G : Gm} {H : Hp} (sub : Same G.F H) {d : DV} {v : V} {p : Key × DV} (r : RepV K G v d) (h : pairOf d = some p) : ∃ c w, v = .ref c ∧ SqT K H c [kV p.1, w] ∧ RepV K G w p.2 := by
  unfold pairOf at h
  split at h
  · rename_i k y
    cases e : keyOf k with
    | none => rw [e] at h; cases h
    | some k' =>
      rw [e] at h
      cases h
      cases r with
      | tup h1 h2 =>
        cases h2 with
        | cons a b =>
          cases b with
          | cons b c =>
            cases c
            rw [keyOf_ok a e] at h1
            exact ⟨_, _, rfl, seqT_mono sub h1, b⟩
  · cases h
theorem pairs_ok {G : Gm} {H : Hp} (sub : Same G.F H) : ∀ {ds : List DV} {vs : List V} {prs : List (Key × DV)}, RepVs K G vs ds → pairsOf ds = some prs → ∃ ws : List (Key × V), LaidPs K H vs ws ∧ RepKs K G ws prs
  | [], vs, prs, hs, h => by
    cases hs
    cases h
    exact ⟨[], ⟨rfl, fun j k v e => by simp at e⟩, .nil⟩
  | d :: ds, vs, prs, hs, h => by
    cases hs with
    | @cons v _ vs _ a b =>
      unfold pairsOf at h
      cases e1 : pairOf d with
      | none => rw [e1] at h; cases h
      | some p =>
        cases e2 : pairsOf ds with
        | none => rw [e1, e2] at h; cases h
        | some ps =>
          rw [e1, e2] at h
          cases h
          obtain ⟨c, w, rfl, q1, q2⟩ := pairOf_ok sub a e1
          obtain ⟨ws, q3, q4⟩ := pairs_ok sub b e2
          obtain ⟨k, y⟩ := p
          refine ⟨(k, w) :: ws, ⟨by simp [q3.1], fun j k' v' e => ?_⟩, .cons q2 q4⟩
          cases j with
          | zero =>
            simp at e
            obtain ⟨rfl, rfl⟩ := e
            exact ⟨c, rfl, q1⟩
          | succ j =>
            obtain ⟨c', z1, z2⟩ := q3.2 j k' v' (by simpa using e)
            exact ⟨c', by simpa using z1, z2⟩
theorem snd_update : SndM K ca (rUpdP K) mUpdate := by
  intro G σ ρ st H vx x vs ds d st' Q R rx rs e q
  unfold mUpdate at e
  split at e
  · rename_i y
    cases h : mdct x st with
    | none => rw [h] at e; cases e
    | some p =>
      obtain ⟨n, kvs⟩ := p
      cases h2 : hlst y st with
      | none => rw [h, h2] at e; cases e
      | some ys =>
        rw [h, h2] at e
        simp only at e
        cases h3 : pairsOf ys with
        | none => rw [h3] at e; cases e
        | some prs =>
          rw [h3] at e
          simp only at e
          split at e
          · rename_i hz
            cases e
            obtain ⟨ws, rfl, rfl, e1, e2, e3⟩ := mdct_ok R rx h
            obtain ⟨v, rfl, ry⟩ := rep1 rs
            obtain ⟨b, zs, rfl, e4, e5⟩ := hlst_ok R ry h2
            obtain ⟨us, e6, e7⟩ := pairs_ok R.sub e5 h3
            exact ⟨_, b, ws, zs, us, rfl, rfl, e2, e4, e6, by rw [e3.len, e7.len]; exact hz, q G _ _ (Gm.le.refl _) (setD_ok R e1 (e7.merge e3)) .non⟩
          · cases e
  · cases e
theorem getV_ok {G : Gm} {k : Key} {v : V} {y : DV} {ws : List (Key × V)} {kvs : List (Key × DV)} (r : RepKs K G ws kvs) (ry : RepV K G v y) : RepV K G ((valV ws k).getD v) ((valD k kvs).getD y) := by
  cases e : valD k kvs with
  | some d =>
    obtain ⟨w, h1, h2⟩ := valD_some r e
    rw [h1]
    exact h2
  | none =>
    rw [valD_none r e]
    exact ry
theorem snd_get : SndM K ca rGetK mGet := by
  intro G σ ρ st H vx x vs ds d st' Q R rx rs e q
  unfold mGet at e
  split at e
  · rename_i y
    cases h : hdct x st with
    | none => rw [h] at e; cases e
    | some kvs =>
      cases h2 : keyOf y with
      | none => rw [h, h2] at e; cases e
      | some k =>
        rw [h, h2] at e
        cases e
        obtain ⟨a, ws, rfl, e1, e2⟩ := hdct_ok R rx h
        obtain ⟨v, rfl, ry⟩ := rep1 rs
        exact ⟨a, ws, k, .non, rfl, e1, .inl ⟨by rw [keyOf_ok ry h2], rfl⟩, q G _ _ (Gm.le.refl _) R (getV_ok e2 .non)⟩
  · rename_i y z
    cases h : hdct x st with
    | none => rw [h] at e; cases e
    | some kvs =>
      cases h2 : keyOf y with
      | none => rw [h, h2] at e; cases e
      | some k =>
        rw [h, h2] at e
        cases e
        obtain ⟨a, ws, rfl, e1, e2⟩ := hdct_ok R rx h
        obtain ⟨v, w, rfl, ry, rz⟩ := rep2 rs
        exact ⟨a, ws, k, w, rfl, e1, .inr (by rw [keyOf_ok ry h2]), q G _ _ (Gm.le.refl _) R (getV_ok e2 rz)⟩
  · cases e
end
section
variable {K : PySem.W.Frag} {ca : Str → Addr} {X : Cx}
/-! ### by the type and the name -/
def bMeth (T : String) (m : Str) : Option VM :=
  if T = "list" then [(("append" : Str), mAppend), ("extend", mExtend), ("pop", mPop)].lookup m
  else if T = "dict" then [(("update" : Str), mUpdate), ("get", mGet)].lookup m
  else none
def kindOf (d : DV) (st : Store) : String := match rlst d st with
  | some _ => "list"
  | none => match hdct d st with
    | some _ => "dict"
    | none => match d with
      | .str _ => "str"
      | _ => ""
theorem kindOf_ok {G : Gm} {σ : St} {ρ : Ev} {st : Store} {H : Hp} {v : V} {d : DV} (R : RelS K ca G σ ρ st H) (r : RepV K G v d) (h : kindOf d st ≠ "") : tyV K (kindOf d st) v H := by
  unfold kindOf at h ⊢
  cases e1 : rlst d st with
  | some xs =>
    obtain ⟨a, vs, rfl, e2, _⟩ := rlst_ok R r e1
    exact .inl ⟨rfl, vs, e2⟩
  | none =>
    rw [e1] at h
    simp only at h ⊢
    cases e2 : hdct d st with
    | some kvs =>
      obtain ⟨a, vs, rfl, e3, _⟩ := hdct_ok R r e2
      exact .inr (.inr (.inl ⟨rfl, .inl ⟨vs, e3⟩⟩))
    | none =>
      rw [e2] at h
      simp only at h ⊢
      cases r with
      | str s => rfl
      | _ => exact absurd rfl h
structure BMok (X : Cx) (ca : Str → Addr) (T : String) (m : Str) (f : VM) : Prop where
  ok : ∃ id r, ∃ pa : PlainAttrs T, Slot T m id ∧ typeOf (.builtin id) = pure (.type "method_descriptor") ∧ MtR X id r ∧ SndM X.K ca r f
theorem bMeth_ok {T : String} {m : Str} {f : VM} (hc : X.calm = true) (hu : X.A.units + 1 < cLine) (h : bMeth T m = some f) : BMok X ca T m f := by
  unfold bMeth at h
  split at h
  · rename_i e
    subst e
    have mem := PySem.mem_of_lookup h
    simp only [List.mem_cons, Prod.mk.injEq, List.not_mem_nil, or_false] at mem
    rcases mem with ⟨rfl, rfl⟩ | ⟨rfl, rfl⟩ | ⟨rfl, rfl⟩
    · exact ⟨_, _, PySem.F.plainAttrs_list, PySem.F.slot_list_append, PySem.F.type_list_append, mt_append, snd_append⟩
    · exact ⟨_, _, PySem.F.plainAttrs_list, PySem.F.slot_list_extend, PySem.F.type_list_extend, mt_extend, snd_extend⟩
    · exact ⟨_, _, PySem.F.plainAttrs_list, PySem.F.slot_list_pop, PySem.F.type_list_pop, mt_pop, snd_pop⟩
  · split at h
    · rename_i e
      subst e
      have mem := PySem.mem_of_lookup h
      simp only [List.mem_cons, Prod.mk.injEq, List.not_mem_nil, or_false] at mem
      rcases mem with ⟨rfl, rfl⟩ | ⟨rfl, rfl⟩
      · exact ⟨_, _, PySem.F.plainAttrs_dict, PySem.F.slot_dict_update, PySem.F.type_dict_update, mt_update hc, snd_update⟩
      · exact ⟨_, _, PySem.F.plainAttrs_dict, PySem.F.slot_dict_get, PySem.F.type_dict_get, mt_get hu, snd_get⟩
    · cases h
end
/-- o.m(..): of an instance, or of a built-in type -/
def xAny (mt : Str → Option Df) (m : Str) (o : XM DV) (a : XM (List DV)) : XM DV := xBind o fun d => fun ρ st => match insOf d st with
  | some (c, fs) => (match fs.lookup m, mt c with
    | none, some df => xBind a (fun ds => ofN df.n df.run (d :: ds)) ρ st
    | _, _ => .bad)
  | none => match bMeth (kindOf d st) m with
    | some f => xBind a (fun ds => xV (f d ds)) ρ st
    | none => .bad
section
variable {X : Cx} {ca : Str → Addr} {W : WX} {K : PySem.W.Frag}
theorem rd_any {m : Str} {mt : Str → Option Df} {mo : XM DV} {ma : XM (List DV)} {σ : St} {H : Hp} {Q : VK} (q : rdE X.K ca W (xAny mt m mo ma) σ H Q) :
    rdE X.K ca W (xMeth mt m mo ma) σ H Q ∨ ∃ T f, bMeth T m = some f ∧ ∀ r, SndM X.K ca r f → tBM X.K T r (rdE X.K ca W mo) (rdA X.K ca W ma) σ H Q := by
  obtain ⟨G, ρ, st, R, o⟩ := q
  cases e1 : mo ρ st with
  | bad => unfold xAny xBind at o; rw [e1] at o; exact o.elim
  | exc c v r s =>
    unfold xAny xBind at o; rw [e1] at o
    refine .inl ⟨G, ρ, st, R, ?_⟩
    unfold xMeth xBind; rw [e1]; exact o
  | ok p =>
    obtain ⟨d, st1⟩ := p
    unfold xAny xBind at o; rw [e1] at o
    simp only at o
    cases e2 : insOf d st1 with
    | some cf =>
      obtain ⟨c, fs⟩ := cf
      refine .inl ⟨G, ρ, st, R, ?_⟩
      unfold xMeth xBind; rw [e1]
      simp only [e2] at o ⊢
      exact o
    | none =>
      simp only [e2] at o
      cases e3 : bMeth (kindOf d st1) m with
      | none => simp only [e3] at o; exact o.elim
      | some f =>
        simp only [e3] at o
        refine .inr ⟨kindOf d st1, f, e3, fun r s => ⟨G, ρ, st, R, ?_⟩⟩
        rw [e1]
        intro G1 H1 v le1 R1 r1
        have hk : kindOf d st1 ≠ "" := fun z => by rw [z] at e3; cases e3
        refine ⟨kindOf_ok R1 r1 hk, rd_of R1 (out_bind (Out.le o le1) fun G2 H2 vs ds st2 le2 R2 r2 o2 => ?_)⟩
        obtain ⟨d', st', e4, q4⟩ := out_xV o2
        exact s G2 σ ρ st2 H2 v d vs ds d' st' Q R2 (r1.mono le2) r2 e4 q4
theorem re_any {o e : Expr} {es : List Expr} {m : Str} {mt : Str → Option Df} {mo : XM DV} {ma : XM (List DV)} {k : Nat} {apos pos : Pos} (M : MethOk X ca k m mt) (hr : Room k X.A) (hcm : X.calm = true) (hu : X.A.units + 1 < cLine) (hgd : X.A.guards = some []) (tk : Takes X W)
    (he : PE X o (rdE X.K ca W mo)) (ha : PA X (e :: es) (rdA X.K ca W ma)) (hb : plainBase o = true) (hf : fewArgs (e :: es) = true) (hl : (apos.endLine == pos.line) = true) :
    PE X (.Call (.Attribute o m apos) (e :: es) [] pos) (rdE X.K ca W (xAny mt m mo ma)) := ⟨fun pins s σ H Q I q => by
  have hf' := hf
  unfold fewArgs at hf'
  rw [Bool.and_eq_true, List.all_cons, Bool.and_eq_true] at hf'
  rcases rd_any q with q | ⟨T, f, h, q⟩
  · exact (re_meth M hr hgd tk he ha (star_no hf'.1.1) (star_any_no hf'.1.2) (call_form hb hf hl)).run pins s σ H Q I q
  · obtain ⟨id, r, pa, sl, ty, mr, sn⟩ := (bMeth_ok (X := X) (ca := ca) hcm hu h).ok
    exact (pe_bm pa sl ty mr he ha (plainBase_ok hb) (few_ok hf) hl (star_no hf'.1.1) (star_any_no hf'.1.2)).run pins s σ H Q I (q r sn)⟩
theorem re_any0 {o : Expr} {m : Str} {mt : Str → Option Df} {mo : XM DV} {k : Nat} {apos pos : Pos} (M : MethOk X ca k m mt) (hr : Room k X.A) (hcm : X.calm = true) (hu : X.A.units + 1 < cLine) (hgd : X.A.guards = some []) (tk : Takes X W)
    (he : PE X o (rdE X.K ca W mo)) (hb : plainBase o = true) (hl : (apos.endLine == pos.line) = true) :
    PE X (.Call (.Attribute o m apos) [] [] pos) (rdE X.K ca W (xAny mt m mo xNil)) := ⟨fun pins s σ H Q I q => by
  rcases rd_any q with q | ⟨T, f, h, q⟩
  · exact (re_meth0 M hr hgd tk he (call_form hb rfl hl)).run pins s σ H Q I q
  · obtain ⟨id, r, pa, sl, ty, mr, sn⟩ := (bMeth_ok (X := X) (ca := ca) hcm hu h).ok
    refine (pe_bm0 pa sl ty mr he (plainBase_ok hb) hl).run pins s σ H Q I (rd_mono (q r sn) fun x H1 z => ⟨z.1, ?_⟩)
    exact rd_nil (W := W) z.2⟩
end
end Mi

set_option maxHeartbeats 4000000
namespace Mi
open PySem PySem.Spec PyProof.Rows L2
open Sem (wp)
open AutoSeq1 (wpAny_loadPart')

/-! ### enumerate of a tuple -/
theorem meets_enumT (t : Addr) (items : Array Value) (n : Nat) (dct : Option Addr) (sl : Array (Option Value)) :
    Meets (Builtin.«enumerate.__new__» ⟨[.type "enumerate", .ref t], []⟩) (fun _ R s => s.heap.get? t = some { cls := .type "tuple", dict := dct, data := .seq items n, slots := sl } ∧
      R (.ok (.ret (.ref (s.heap.push { cls := .type "tuple_iterator", data := .fields #[.ref t, .int 0 0] }).objs.size)))
        { s with heap := (s.heap.push { cls := .type "tuple_iterator", data := .fields #[.ref t, .int 0 0] }).push { cls := .type "enumerate", data := .fields #[.none, .bool false, .ref s.heap.objs.size, rawInt 0, .none, .none] } }) :=
  .of_wp fun prog w A R s h => by
    obtain ⟨hp, g, d, tk, os⟩ := s; obtain ⟨hl, h⟩ := h
    have hsub := sub_enumerate
    have hT : Heap.IsTuple (Shared.heap ⟨hp, g, d, tk, os⟩) t items := ⟨_, hl, rfl, n, rfl⟩
    wp_walk using wpAny_loadPart' hl
    refine wpAny_stack_any fun st => wpAny_pure ?_
    split
    · rename_i c _ _ _ _ _
      cases (c == Value.type "enumerate")
      · wp_walk using wpAny_loadPart' hl, wpAny_pyIter_tuple hT
        exact ⟨_, rfl, h⟩
      · wp_walk using wpAny_loadPart' hl, wpAny_pyIter_tuple hT
        exact ⟨_, rfl, h⟩
    · wp_walk using wpAny_loadPart' hl, wpAny_pyIter_tuple hT
      exact ⟨_, rfl, h⟩
theorem call_enumT {prog : Program} {w : World} {A : Around} {E : Value → Shared → Prop} {s : Shared} {t : Addr} {items : Array Value} {Q : Value → Shared → Prop} (hL : s.heap.IsTuple t items)
    (h : ∀ h', IsEnum h' (s.heap.objs.size + 1) s.heap.objs.size 0 .none → h'.IsTupleIter s.heap.objs.size t 0 → h'.objs.size = s.heap.objs.size + 2 →
      (∀ b o, s.heap.get? b = some o → h'.get? b = some o) → Q (.ref (s.heap.objs.size + 1)) { s with heap := h' }) :
    wpAny (model prog w) A (call (.type "enumerate") [.ref t]) Q E s := by
  obtain ⟨⟨c, dct, dt, sl⟩, hl, hc, n, hd⟩ := hL
  replace hc : c = .type "tuple" := hc
  replace hd : dt = .seq items n := hd
  subst hc hd
  refine callType_new F.called_enumerate (by decide) (F.typeCall_enumerate_1 _) (F.newCall_enumerate_1 _) (fun obj => F.args_object_init_2 obj _) F.entry_enumerate_new
    (meets_enumT t items n dct sl) ⟨hl, ?_⟩
  have hz : (s.heap.push { cls := .type "tuple_iterator", data := .fields #[.ref t, .int 0 0] }).objs.size = s.heap.objs.size + 1 := Heap.size_push ..
  show _ ∧ _
  rw [hz]
  have he : IsEnum ((s.heap.push { cls := .type "tuple_iterator", data := .fields #[.ref t, .int 0 0] }).push
      { cls := .type "enumerate", data := .fields #[.none, .bool false, .ref s.heap.objs.size, rawInt 0, .none, .none] }) (s.heap.objs.size + 1) s.heap.objs.size 0 .none := by
    have := Heap.get?_push_size (s.heap.push { cls := .type "tuple_iterator", data := .fields #[.ref t, .int 0 0] })
      (o := { cls := .type "enumerate", data := .fields #[.none, .bool false, .ref s.heap.objs.size, rawInt 0, .none, .none] }) rfl
    rw [hz] at this; exact this
  refine ⟨⟨_, he, rfl⟩, h _ he ⟨_, Heap.get?_push_of_some _ (Heap.get?_push_size _ rfl), rfl, rfl⟩ (by rw [Heap.size_push, hz]) fun b o x => Heap.get?_push_of_some _ (Heap.get?_push_of_some _ x)⟩
theorem next_enumT_end {prog : Program} {w : World} {A : Around} {E : Value → Shared → Prop} {s : Shared} {e it t : Addr} {i : Nat} {k : Int} {items : Array Value} {old : Value} {Q : Option Value → Shared → Prop} (hh : A.handled = none) (he : IsEnum s.heap e it k old) (hit : s.heap.IsTupleIter it t i) (ht : s.heap.IsTuple t items) (hx : items[i]? = none)
    (hQ : ∀ h', Heap.ExtBut it s.heap h' → Q none { s with heap := h' }) : wpAny (model prog w) A (pyNext (.ref e)) Q E s := by
  have hT : s.TypeIs (.ref e) "enumerate" := ⟨_, he, rfl⟩
  unfold pyNext
  refine wpAny_bind (wpAny_attempt (wpAny_callSpecial?_slot (name := Str.ofString "__next__") hT F.slot_enumerate_next
    (wpAny_call_entry F.slot_enumerate_next hT F.entry_enumerate_next ?_ (F.args_enumerate_next_1 _))))
  show wpAny _ _ (field (.ref e) 2 >>= _) _ _ _
  refine wpAny_bind (wpAny_field he rfl (x := .ref it) rfl ?_)
  refine wpAny_bind (wpAny_nextOf_tuple_end (A := A.in1) (show A.in1.handled = none from hh) hit ht hx fun h' x he' hx' => ?_)
  obtain ⟨o, ho, hc⟩ := hx'
  refine wpAny_bind (wpAny_isInstance (T := "StopIteration") (b := true) ⟨o, ho, hc⟩ isSubtype_stop ?_)
  exact wpAny_pure (hQ _ he')
/-- the tuple at a, each item in a new pair -/
def IteT (K : PySem.W.Frag) (a : Addr) : It :=
  ⟨fun i H => ∃ (xs : List V) (x : V), SqT K H a xs ∧ xs[i]? = some x, fun i H v H' => ∃ T x, v = .ref T ∧ H T = none ∧ H' = upd H T (.tup [.int (i : Nat), x]) ∧ ∀ xs, SqT K H a xs → xs[i]? = some x, fun i H => ∃ xs : List V, SqT K H a xs ∧ xs.length ≤ i⟩
theorem turn_enumT {P : Program} {w : World} {K : PySem.W.Frag} {elts : List Expr} {kk : Nat} {tpos : Pos} (a e it : Addr) :
    Turn P w K (.Tuple elts kk tpos) (IteT K a) [e, it] e (fun i h => (∃ old, IsEnum h e it ((i : Nat) : Int) old) ∧ h.IsTupleIter it a i ∧ e ≠ it) where
  mem := by simp
  obj := fun i h st b hb => by
    obtain ⟨⟨old, he⟩, ⟨o, ho, hc, hd⟩, _⟩ := st
    have e' : b = e ∨ b = it := by simpa using hb
    rcases e' with z | z
    · rw [z]; exact ⟨_, he, fun v q => nomatch q⟩
    · rw [z]; exact ⟨o, ho, fun v q => by rw [hd] at q; cases q⟩
  keep := fun i h h' st k => let ⟨⟨old, he⟩, hi, hne⟩ := st; ⟨⟨old, k e (by simp) _ he⟩, hi.at fun o q => k it (by simp) o q, hne⟩
  item := by
    intro X hP hw hK hc i pins s σ H E I hf st hg
    subst hP hw hK
    obtain ⟨⟨old, he⟩, hit, hne⟩ := st
    obtain ⟨xs, x, hq, hx⟩ := hg
    obtain ⟨its, rv, p, hz⟩ := I.tuple hq
    obtain ⟨u, hu, ru⟩ := rv.get hx
    have hel : e < s.heap.objs.size := Heap.lt_size he
    have hil : it < s.heap.objs.size := by obtain ⟨_, q, _⟩ := hit; exact Heap.lt_size q
    have hae : a ≠ e := by
      intro z
      subst z
      obtain ⟨o, h1, h2, _⟩ := p
      rw [he] at h1
      cases h1
      simp at h2
    have hai : a ≠ it := by
      intro z
      subst z
      obtain ⟨o, h1, h2, _⟩ := p
      obtain ⟨o', h3, h4, _⟩ := hit
      rw [h1] at h3
      cases h3
      rw [h2] at h4
      simp at h4
    have hli : i < its.toArray.size := by
      have := (List.getElem?_eq_some_iff.1 hu).1
      simpa using this
    refine wpAny_pyNext_enum_itemD (Draws.tuple (A := X.A.in1) (show X.A.in1.handled = none from I.ok.hd hc) it a hai its.toArray) he ⟨hit, show s.heap.IsTuple a its.toArray from p⟩ hli hne ?_ fun x' h' tk hP ho hst' hT hsz hk => ?_
    · intro z
      have e' : e = it ∨ e = a := by simpa using z
      rcases e' with z | z
      · exact hne z
      · exact hae z.symm
    have exu : x' = u := by
      have h1 : its.toArray[i]? = some u := by simpa using hu
      have h2 : its.toArray[i]? = some x' := hP
      rw [h1] at h2
      cases h2
      rfl
    subst exu
    refine ⟨_, rfl, wpAny_letOwnedTupleGo_enum (s := { s with heap := h', toks := tk + 1 }) ho fun h'' he' sb => ?_⟩
    have hT2 : h''.get? s.heap.objs.size = some { cls := .type "tuple", data := .seq #[.int i tk, x'] } := (sb.2 _ (Nat.ne_of_gt hel)).trans hT
    have new : ObjOk X.prog X.w (upd H s.heap.objs.size (.tup [.int (i : Nat), x])) h'' s.heap.objs.size (.tup [.int (i : Nat), x]) :=
      ⟨by show 2 ≤ sizeLine; decide, [.int i tk, x'], .cons ⟨_, rfl⟩ (.cons ru .nil), ⟨_, hT2, rfl, _, rfl⟩⟩
    have I1 : Inv X pins σ (upd H s.heap.objs.size (.tup [.int (i : Nat), x])) { s with heap := h'', toks := tk + 1 } :=
      I.turnedNew (ch := [e, it]) (fun b ob hb q => (sb.2 b (fun z => hb (by simp [z]))).trans (hk b ob (fun z => hb (by simp [z])) (fun z => hb (by simp [z])) q)) hf (Nat.le_refl _) new
    refine ⟨.ref s.heap.objs.size, _, I1, rfl, ⟨_, x, rfl, I.hok.fresh (Nat.le_refl _), rfl, fun ys hy => by rw [I.tuple_inj hy hq]; exact hx⟩, ⟨⟨x', ?_⟩, hst'.1.at fun o q => (sb.2 it (Ne.symm hne)).trans q, hne⟩, fun b hb => ?_⟩
    · have e1 : ((i + 1 : Nat) : Int) = (i : Int) + 1 := by omega
      rw [e1]; exact he'
    · have hb' : b < s.heap.objs.size := by
        have e' : b = e ∨ b = it := by simpa using hb
        rcases e' with z | z
        · rw [z]; exact hel
        · rw [z]; exact hil
      rw [upd_ne (Nat.ne_of_lt hb')]
      exact (hf b hb).1
  done := by
    intro X hP hw hK hc i pins s σ H E I hf st hg
    subst hP hw hK
    obtain ⟨⟨old, he⟩, hit, hne⟩ := st
    obtain ⟨xs, hq, hx⟩ := hg
    obtain ⟨its, rv, p, hz⟩ := I.tuple hq
    obtain ⟨f0, f1, f2, f3, f4, f5⟩ := hf it (by simp)
    have hl := rv.length
    have hai : a ≠ it := by
      intro z
      subst z
      obtain ⟨o, h1, h2, _⟩ := p
      obtain ⟨o', h3, h4, _⟩ := hit
      rw [h1] at h3
      cases h3
      rw [h2] at h4
      simp at h4
    exact next_enumT_end (I.ok.hd hc) he hit (show s.heap.IsTuple a its.toArray from p) (by simp; omega) fun h' eb => ⟨rfl, I.turned (t' := s.toks) (fun b o hb q => eb b o hb q) f0 f1 f3 f4 f5⟩
  self := fun A i s Q E st h => let ⟨⟨_, he⟩, _⟩ := st; wpAny_pyIter_enum he h
def iEnumT (K : PySem.W.Frag) (ta : TA) : TI := fun σ H R => ta σ H fun vs H1 => ∃ a xs, vs = [.ref a] ∧ SqT K H1 a xs ∧ R (IteT K a) H1
theorem pi_enumT {X : Cx} {e : Expr} {ta : TA} {p pos tpos : Pos} {elts : List Expr} {kk : Nat} (hg : Gl X "enumerate") (hm : X.mg "enumerate" = none) (ha : PA X [e] ta) (hs : starEach [e] X.env = [(false, eval e X.env)] := by rfl) :
    PI X (.Tuple elts kk tpos) (.Call (.Name "enumerate" p) [e] [] pos) (iEnumT X.K ta) := by
  refine ⟨fun pins s σ H R I h => ?_⟩
  refine Call_ (ld_blt I hg hm boot_enumerate (PyProof.Rows.callWith_type1 (thn (ha.run pos pins s σ H _ I h) fun us s1 ⟨vs, H1, I1, r1, q1⟩ => ?_) hs rfl))
  obtain ⟨a, xs, ex, hq, q⟩ := q1
  subst ex
  cases r1 with
  | cons r rr =>
    cases rr
    cases r
    obtain ⟨its, rv, p', hz⟩ := I1.tuple hq
    refine call_enumT (show s1.heap.IsTuple a its.toArray from p') fun h' he hit hsz hk => wpAny_pyIter_enum he ?_
    have I2 : Inv X pins σ H1 { s1 with heap := h' } := I1.kept (t' := s1.toks) hk
    refine ⟨s1.heap.objs.size + 1, [s1.heap.objs.size + 1, s1.heap.objs.size], _, _, H1, rfl, I2, turn_enumT a (s1.heap.objs.size + 1) s1.heap.objs.size, ⟨⟨.none, he⟩, hit, Nat.succ_ne_self _⟩, fun b hb => ?_, q⟩
    have e' : b = s1.heap.objs.size + 1 ∨ b = s1.heap.objs.size := by simpa using hb
    have hle : s1.heap.objs.size ≤ b := by
      rcases e' with z | z
      · rw [z]; exact Nat.le_add_right _ _
      · rw [z]; exact Nat.le_refl _
    exact I1.fpOk hle (I1.hok.fresh hle)
end Mi

set_option maxHeartbeats 4000000
namespace Mi
open PySem PySem.Spec PyProof.Rows L2

/-- as le, whatever stands aside -/
structure Gm.lf (G G' : Gm) : Prop where
  n : G.n ≤ G'.n
  mu : ∀ i, i < G.n → G'.mu i = G.mu i
  F : Same G.F G'.F
theorem Gm.le.lf {G G' : Gm} (h : G.le G') : G.lf G' := ⟨h.n, h.mu, h.F⟩
theorem Gm.lf.trans {G G' G'' : Gm} (a : G.lf G') (b : G'.lf G'') : G.lf G'' :=
  ⟨Nat.le_trans a.n b.n, fun i h => (b.mu i (Nat.lt_of_lt_of_le h a.n)).trans (a.mu i h), a.F.trans b.F⟩
theorem Gm.lf.le {G G' : Gm} (h : G.lf G') : Gm.le { G with B := G'.B } G' := ⟨h.n, h.mu, h.F, rfl⟩
theorem RepV.monof {K : PySem.W.Frag} {G G' : Gm} {v : V} {d : DV} (h : RepV K G v d) (l : G.lf G') : RepV K G' v d := (RepV.reB (B' := G'.B) h).mono l.le
theorem RepVs.monof {K : PySem.W.Frag} {G G' : Gm} {v : List V} {d : List DV} (h : RepVs K G v d) (l : G.lf G') : RepVs K G' v d := (RepVs.reB (B' := G'.B) h).mono l.le
theorem RepKs.monof {K : PySem.W.Frag} {G G' : Gm} {v : List (Key × V)} {d : List (Key × DV)} (h : RepKs K G v d) (l : G.lf G') : RepKs K G' v d := (RepKs.reB (B' := G'.B) h).mono l.le

/-! ### what is walked -/
inductive Src where
  | vals (xs : List DV) | cell (n : Nat) | ecell (n : Nat)
def srcAt (s : Src) (i : Nat) (st : Store) : Option (Option DV) := match s with
  | .vals xs => some xs[i]?
  | .cell n => (match st[n]? with
    | some (.lst xs) => some xs[i]?
    | _ => none)
  | .ecell n => (match st[n]? with
    | some (.lst xs) => some (xs[i]?.map fun x => .tup [.int i, x])
    | _ => none)
def SrcOk (K : PySem.W.Frag) (ca : Str → Addr) (G0 : Gm) (J : It) (s : Src) : Prop :=
  ∀ i G σ ρ st H, G0.lf G → RelS K ca G σ ρ st H → match srcAt s i st with
    | some (some d) => J.go i H ∧ ∀ x H', J.yld i H x H' → ∃ G', G.le G' ∧ RelS K ca G' σ ρ st H' ∧ RepV K G' x d
    | some none => J.stop i H
    | none => True
structure PIm (X : Cx) (tg iter : Expr) (wi : TI) : Prop where
  ok : PI X tg iter wi
section
variable {X : Cx} {tg e : Expr} {w w' : TI}
theorem pi_weak (h : PI X tg e w) (k : ∀ σ H R, w' σ H R → w σ H R) : PI X tg e w' := ⟨fun pins s σ H R I q => h.run pins s σ H R I (k σ H R q)⟩
theorem pi_or (h : PI X tg e w) (h' : PI X tg e w') : PI X tg e (fun σ H R => w σ H R ∨ w' σ H R) := ⟨fun pins s σ H R I q => q.elim (h.run pins s σ H R I) (h'.run pins s σ H R I)⟩
end
section
variable {K : PySem.W.Frag} {ca : Str → Addr} {G0 : Gm}
theorem src_list {a : Addr} {vs : List V} {xs : List DV} (h : ∀ H, Same G0.F H → SqL K H a vs) (r : RepVs K G0 vs xs) : SrcOk K ca G0 (Itl K a) (.vals xs) := fun i G σ ρ st H le R => by
  have hs : SqL K H a vs := h H (le.F.trans R.sub)
  show match (some xs[i]? : Option (Option DV)) with
    | some (some d) => _
    | some none => _
    | none => True
  cases e : xs[i]? with
  | some d =>
    obtain ⟨v, h1, h2⟩ := r.get e
    refine ⟨⟨vs, v, hs, h1⟩, fun x H' y => ?_⟩
    obtain ⟨rfl, y⟩ := y
    have hx := y vs hs
    rw [h1] at hx
    cases hx
    exact ⟨G, Gm.le.refl _, R, h2.monof le⟩
  | none => exact ⟨vs, hs, by rw [r.len]; exact List.getElem?_eq_none_iff.mp e⟩
theorem src_tup {a : Addr} {vs : List V} {xs : List DV} (h : SqT K G0.F a vs) (r : RepVs K G0 vs xs) : SrcOk K ca G0 (Itt K a) (.vals xs) := fun i G σ ρ st H le R => by
  have hs : SqT K H a vs := seqT_mono (le.F.trans R.sub) h
  show match (some xs[i]? : Option (Option DV)) with
    | some (some d) => _
    | some none => _
    | none => True
  cases e : xs[i]? with
  | some d =>
    obtain ⟨v, h1, h2⟩ := r.get e
    refine ⟨⟨vs, v, hs, h1⟩, fun x H' y => ?_⟩
    obtain ⟨rfl, y⟩ := y
    have hx := y vs hs
    rw [h1] at hx
    cases hx
    exact ⟨G, Gm.le.refl _, R, h2.monof le⟩
  | none => exact ⟨vs, hs, by rw [r.len]; exact List.getElem?_eq_none_iff.mp e⟩
theorem src_cell {n : Nat} (hn : n < G0.n) : SrcOk K ca G0 (Itl K (G0.mu n)) (.cell n) := fun i G σ ρ st H le R => by
  rw [← le.mu n hn]
  show match (match st[n]? with
    | some (.lst xs) => some xs[i]?
    | _ => none : Option (Option DV)) with
    | some (some d) => _
    | some none => _
    | none => True
  cases e0 : st[n]? with
  | none => trivial
  | some c =>
    cases c with
    | lst xs =>
      obtain ⟨vs, hv, r⟩ := R.cells n _ e0
      have hs : SqL K H (G.mu n) vs := .of hv
      simp only
      cases e : xs[i]? with
      | some d =>
        obtain ⟨v, h1, h2⟩ := r.get e
        refine ⟨⟨vs, v, hs, h1⟩, fun x H' y => ?_⟩
        obtain ⟨rfl, y⟩ := y
        have hx := y vs hs
        rw [h1] at hx
        cases hx
        exact ⟨G, Gm.le.refl _, R, h2⟩
      | none => exact ⟨vs, hs, by rw [r.len]; exact List.getElem?_eq_none_iff.mp e⟩
    | _ => trivial
/-- a new pair of the place and the item -/
theorem pair_ok {σ : St} {ρ : Ev} {st : Store} {H : Hp} {G : Gm} {T : Addr} {i : Nat} {v : V} {d : DV} (R : RelS K ca G σ ρ st H) (hT : H T = none) (r : RepV K G v d) :
    ∃ G', G.le G' ∧ RelS K ca G' σ ρ st (upd H T (.tup [.int (i : Nat), v])) ∧ RepV K G' (.ref T) (.tup [.int (i : Nat), d]) := newT_ok R hT (.cons (.int _) (.cons r .nil))
theorem src_enum {a : Addr} {vs : List V} {xs : List DV} (h : ∀ H, Same G0.F H → SqL K H a vs) (r : RepVs K G0 vs xs) : SrcOk K ca G0 (Ite K a) (.vals (xs.mapIdx fun i x => .tup [.int i, x])) := fun i G σ ρ st H le R => by
  have hs : SqL K H a vs := h H (le.F.trans R.sub)
  show match (some (xs.mapIdx fun i x => DV.tup [.int i, x])[i]? : Option (Option DV)) with
    | some (some d) => _
    | some none => _
    | none => True
  rw [List.getElem?_mapIdx]
  cases e : xs[i]? with
  | some d =>
    obtain ⟨v, h1, h2⟩ := r.get e
    refine ⟨⟨vs, v, hs, h1⟩, fun x H' y => ?_⟩
    obtain ⟨T, x', rfl, hT, rfl, y⟩ := y
    have hx := y vs hs
    rw [h1] at hx
    cases hx
    exact pair_ok R hT (h2.monof le)
  | none => exact ⟨vs, hs, by rw [r.len]; exact List.getElem?_eq_none_iff.mp e⟩
theorem src_enumT {a : Addr} {vs : List V} {xs : List DV} (h : SqT K G0.F a vs) (r : RepVs K G0 vs xs) : SrcOk K ca G0 (IteT K a) (.vals (xs.mapIdx fun i x => .tup [.int i, x])) := fun i G σ ρ st H le R => by
  have hs : SqT K H a vs := seqT_mono (le.F.trans R.sub) h
  show match (some (xs.mapIdx fun i x => DV.tup [.int i, x])[i]? : Option (Option DV)) with
    | some (some d) => _
    | some none => _
    | none => True
  rw [List.getElem?_mapIdx]
  cases e : xs[i]? with
  | some d =>
    obtain ⟨v, h1, h2⟩ := r.get e
    refine ⟨⟨vs, v, hs, h1⟩, fun x H' y => ?_⟩
    obtain ⟨T, x', rfl, hT, rfl, y⟩ := y
    have hx := y vs hs
    rw [h1] at hx
    cases hx
    exact pair_ok R hT (h2.monof le)
  | none => exact ⟨vs, hs, by rw [r.len]; exact List.getElem?_eq_none_iff.mp e⟩
theorem src_ecell {n : Nat} (hn : n < G0.n) : SrcOk K ca G0 (Ite K (G0.mu n)) (.ecell n) := fun i G σ ρ st H le R => by
  rw [← le.mu n hn]
  show match (match st[n]? with
    | some (.lst xs) => some (xs[i]?.map fun x => .tup [.int i, x])
    | _ => none : Option (Option DV)) with
    | some (some d) => _
    | some none => _
    | none => True
  cases e0 : st[n]? with
  | none => trivial
  | some c =>
    cases c with
    | lst xs =>
      obtain ⟨vs, hv, r⟩ := R.cells n _ e0
      have hs : SqL K H (G.mu n) vs := .of hv
      simp only
      cases e : xs[i]? with
      | some d =>
        obtain ⟨v, h1, h2⟩ := r.get e
        refine ⟨⟨vs, v, hs, h1⟩, fun x H' y => ?_⟩
        obtain ⟨T, x', rfl, hT, rfl, y⟩ := y
        have hx := y vs hs
        rw [h1] at hx
        cases hx
        exact pair_ok R hT h2
      | none => exact ⟨vs, hs, by rw [r.len]; exact List.getElem?_eq_none_iff.mp e⟩
    | _ => trivial
theorem src_range (lo : Int) (n : Nat) : SrcOk K ca G0 (Itr lo n) (.vals ((List.range n).map fun i => .int (lo + (i : Nat)))) := fun i G σ ρ st H le R => by
  show match (some ((List.range n).map fun i => DV.int (lo + (i : Nat)))[i]? : Option (Option DV)) with
    | some (some d) => _
    | some none => _
    | none => True
  rw [List.getElem?_map]
  by_cases hi : i < n
  · rw [List.getElem?_range hi]
    refine ⟨hi, fun x H' y => ?_⟩
    obtain ⟨rfl, rfl⟩ := y
    exact ⟨G, Gm.le.refl _, R, .int _⟩
  · rw [List.getElem?_eq_none (by simpa using hi)]
    exact Nat.le_of_not_lt hi
end
/-- a list, a tuple walked -/
def xIter (m : XM DV) : XM Src := xBind m fun d ρ st => match d with
  | .tup xs => .ok (.vals xs, st)
  | .lst xs => .ok (.vals xs, st)
  | .scr ns => .ok (.vals ns, st)
  | .ref n => (match st[n]? with
    | some (.lst _) => .ok (.cell n, st)
    | _ => .bad)
  | _ => .bad
def xEnum (m : XM (List DV)) : XM Src := xBind m fun ds ρ st => match ds with
  | [.lst xs] => .ok (.vals (xs.mapIdx fun i x => .tup [.int i, x]), st)
  | [.scr ns] => .ok (.vals (ns.mapIdx fun i x => .tup [.int i, x]), st)
  | [.tup ns] => .ok (.vals (ns.mapIdx fun i x => .tup [.int i, x]), st)
  | [.ref n] => (match st[n]? with
    | some (.lst _) => .ok (.ecell n, st)
    | _ => .bad)
  | _ => .bad
def rgOk (i : Int) : Bool := decide (-(2 ^ 62) ≤ i) && decide (i < 2 ^ 62)
def xRange (m : XM (List DV)) : XM Src := xBind m fun ds => match ds with
  | [.int j] => if rgOk j then xPure (.vals ((List.range j.toNat).map fun i => .int (0 + (i : Nat)))) else xBad
  | [.int i, .int j] => if rgOk i && rgOk j then xPure (.vals ((List.range (j - i).toNat).map fun k => .int (i + (k : Nat)))) else xBad
  | _ => xBad
def rgNum (i j c : Int) : Nat := (Builtin.Range.rangeSize i j c).toNat
def rg3Ok (i j c : Int) : Bool := decide (c ≠ 0) && decide (c.natAbs < 1073741824) && Builtin.Range.small i j c && decide (0 ≤ Builtin.Range.rangeSize i j c)
def rg3 (ds : List DV) : Option (List DV) := match ds with
  | [.int i, .int j, .int c] => if rg3Ok i j c then some ((List.range (rgNum i j c)).map fun k => .int (i + (k : Nat) * c)) else none
  | _ => none
def xRange3 (m : XM (List DV)) : XM Src := xBind m fun ds => match rg3 ds with
  | some xs => xPure (.vals xs)
  | none => xBad
theorem rg3Ok_ok {i j c : Int} (h : rg3Ok i j c = true) : RgC i j c (rgNum i j c) := by
  unfold rg3Ok at h
  rw [Bool.and_eq_true, Bool.and_eq_true, Bool.and_eq_true, decide_eq_true_eq, decide_eq_true_eq, decide_eq_true_eq] at h
  exact ⟨h.1.1.1, h.1.1.2, h.1.2, (Int.toNat_of_nonneg h.2).symm⟩
section
variable {X : Cx} {ca : Str → Addr} {W : WX} {tg : Expr}
abbrev rdI (K : PySem.W.Frag) (ca : Str → Addr) (W : WX) (m : XM Src) : TI := rd K ca (SrcOk K ca) W m
theorem ri_seq {e : Expr} {m : XM DV} (h : PE X e (rdE X.K ca W m)) : PI X tg e (rdI X.K ca W (xIter m)) := pi_weak (pi_or (pi_list h) (pi_tup h)) fun σ H P q => by
  obtain ⟨G, ρ, st, R, o⟩ := q
  cases e1 : m ρ st with
  | bad => unfold xIter xBind at o; rw [e1] at o; exact o.elim
  | exc c v r s =>
    unfold xIter xBind at o; rw [e1] at o
    exact .inl ⟨G, ρ, st, R, by rw [e1]; exact o⟩
  | ok p =>
    obtain ⟨d, st1⟩ := p
    unfold xIter xBind at o; rw [e1] at o
    simp only at o
    cases d with
    | tup xs =>
      refine .inr ⟨G, ρ, st, R, ?_⟩
      rw [e1]
      intro G1 H1 v le R1 r
      cases r with
      | tup h hs => exact ⟨_, rfl, ⟨_, seqT_mono R1.sub h⟩, o G1 H1 _ le R1 (src_tup h hs)⟩
    | lst xs =>
      refine .inl ⟨G, ρ, st, R, ?_⟩
      rw [e1]
      intro G1 H1 v le R1 r
      cases r with
      | lst h hs => exact ⟨_, rfl, ⟨_, .of (R1.sub _ _ h)⟩, o G1 H1 _ le R1 (src_list (fun H s => .of (s _ _ h)) hs)⟩
    | scr ns =>
      refine .inl ⟨G, ρ, st, R, ?_⟩
      rw [e1]
      intro G1 H1 v le R1 r
      cases r with
      | scr h hs => exact ⟨_, rfl, ⟨_, R1.sub.seq h⟩, o G1 H1 _ le R1 (src_list (fun H s => s.seq h) hs)⟩
    | ref n =>
      refine .inl ⟨G, ρ, st, R, ?_⟩
      rw [e1]
      intro G1 H1 v le R1 r
      cases r with
      | ref h =>
        simp only at o
        cases e2 : st1[n]? with
        | none => rw [e2] at o; exact o.elim
        | some c =>
          rw [e2] at o
          cases c with
          | lst xs =>
            obtain ⟨vs, hv, _⟩ := R1.cells n _ e2
            exact ⟨_, rfl, ⟨_, .of hv⟩, o G1 H1 _ le R1 (src_cell h)⟩
          | _ => exact o.elim
    | _ => exact o.elim
theorem ri_enum {e : Expr} {m : XM (List DV)} {p pos tpos : Pos} {elts : List Expr} {kk : Nat} (hg : Gl X "enumerate") (hm : X.mg "enumerate" = none) (ha : PA X [e] (rdA X.K ca W m)) (hs : starEach [e] X.env = [(false, eval e X.env)]) :
    PI X (.Tuple elts kk tpos) (.Call (.Name "enumerate" p) [e] [] pos) (rdI X.K ca W (xEnum m)) := pi_weak (pi_or (pi_enum hg hm ha hs) (pi_enumT hg hm ha hs)) fun σ H P q => by
  obtain ⟨G, ρ, st, R, o⟩ := q
  cases e1 : m ρ st with
  | bad => unfold xEnum xBind at o; rw [e1] at o; exact o.elim
  | exc c v r s =>
    unfold xEnum xBind at o; rw [e1] at o
    exact .inl ⟨G, ρ, st, R, by rw [e1]; exact o⟩
  | ok p =>
    obtain ⟨ds, st1⟩ := p
    unfold xEnum xBind at o; rw [e1] at o
    simp only at o
    match ds, o with
    | [.lst xs], o =>
      refine .inl ⟨G, ρ, st, R, ?_⟩
      rw [e1]
      intro G1 H1 v le R1 r
      obtain ⟨v', rfl, r'⟩ := rep1 r
      cases r' with
      | lst h hs => exact ⟨_, _, rfl, .of (R1.sub _ _ h), o G1 H1 _ le R1 (src_enum (fun H s => .of (s _ _ h)) hs)⟩
    | [.scr xs], o =>
      refine .inl ⟨G, ρ, st, R, ?_⟩
      rw [e1]
      intro G1 H1 v le R1 r
      obtain ⟨v', rfl, r'⟩ := rep1 r
      cases r' with
      | scr h hs => exact ⟨_, _, rfl, R1.sub.seq h, o G1 H1 _ le R1 (src_enum (fun H s => s.seq h) hs)⟩
    | [.tup xs], o =>
      refine .inr ⟨G, ρ, st, R, ?_⟩
      rw [e1]
      intro G1 H1 v le R1 r
      obtain ⟨v', rfl, r'⟩ := rep1 r
      cases r' with
      | tup h hs => exact ⟨_, _, rfl, seqT_mono R1.sub h, o G1 H1 _ le R1 (src_enumT h hs)⟩
    | [.ref n], o =>
      refine .inl ⟨G, ρ, st, R, ?_⟩
      rw [e1]
      intro G1 H1 v le R1 r
      obtain ⟨v', rfl, r'⟩ := rep1 r
      cases r' with
      | ref h =>
        simp only at o
        cases e2 : st1[n]? with
        | none => rw [e2] at o; exact o.elim
        | some c =>
          rw [e2] at o
          cases c with
          | lst xs =>
            obtain ⟨vs, hv, _⟩ := R1.cells n _ e2
            exact ⟨_, _, rfl, .of hv, o G1 H1 _ le R1 (src_ecell h)⟩
          | _ => exact o.elim
    | [], o => exact o.elim
    | [.non], o => exact o.elim
    | [.bl _], o => exact o.elim
    | [.int _], o => exact o.elim
    | [.str _], o => exact o.elim
    | [.dct _], o => exact o.elim
    | d :: _ :: _, o => cases d <;> exact o.elim
theorem rgOk_ok {i : Int} (h : rgOk i = true) : -(2 ^ 62) ≤ i ∧ i < 2 ^ 62 := by
  unfold rgOk at h
  rw [Bool.and_eq_true, decide_eq_true_eq, decide_eq_true_eq] at h
  exact h
theorem ri_range1 {a : Expr} {m : XM (List DV)} {p pos : Pos} (hg : Gl X "range") (hm : X.mg "range" = none) (ha : PA X [a] (rdA X.K ca W m)) (hs : starEach [a] X.env = [(false, eval a X.env)])
    (h1 : ∀ ρ st ds st', m ρ st = .ok (ds, st') → ds.length = 1) : PI X tg (.Call (.Name "range" p) [a] [] pos) (rdI X.K ca W (xRange m)) := pi_weak (pi_range1 hg hm ha hs) fun σ H P q => by
  obtain ⟨G, ρ, st, R, o⟩ := q
  refine ⟨G, ρ, st, R, ?_⟩
  cases e : m ρ st with
  | bad => unfold xRange xBind at o; rw [e] at o; exact o
  | exc c v r s => unfold xRange xBind at o; rw [e] at o; exact o
  | ok p =>
    obtain ⟨ds, st1⟩ := p
    unfold xRange xBind at o; rw [e] at o
    simp only at o
    have hl := h1 _ _ _ _ e
    match ds, hl, o with
    | [d], _, o =>
      cases d with
      | int j =>
        simp only at o
        split at o
        · rename_i hj
          intro G1 H1 v le R1 r
          obtain ⟨v', rfl, r'⟩ := rep1 r
          cases r'
          have z := o G1 H1 (Itr 0 j.toNat) le R1 (src_range 0 j.toNat)
          exact ⟨j, rfl, (rgOk_ok hj).1, (rgOk_ok hj).2, z⟩
        · exact o.elim
      | _ => exact o.elim
theorem ri_range2 {a b : Expr} {m : XM (List DV)} {p pos : Pos} (hg : Gl X "range") (hm : X.mg "range" = none) (ha : PA X [a, b] (rdA X.K ca W m)) (hs : starEach [a, b] X.env = [(false, eval a X.env), (false, eval b X.env)]) (hs2 : starEach [b] X.env = [(false, eval b X.env)])
    (h1 : ∀ ρ st ds st', m ρ st = .ok (ds, st') → ds.length = 2) : PI X tg (.Call (.Name "range" p) [a, b] [] pos) (rdI X.K ca W (xRange m)) := pi_weak (pi_range2 hg hm ha hs hs2) fun σ H P q => by
  obtain ⟨G, ρ, st, R, o⟩ := q
  refine ⟨G, ρ, st, R, ?_⟩
  cases e : m ρ st with
  | bad => unfold xRange xBind at o; rw [e] at o; exact o
  | exc c v r s => unfold xRange xBind at o; rw [e] at o; exact o
  | ok p =>
    obtain ⟨ds, st1⟩ := p
    unfold xRange xBind at o; rw [e] at o
    simp only at o
    have hl := h1 _ _ _ _ e
    match ds, hl, o with
    | [d, d'], _, o =>
      cases d with
      | int i =>
        cases d' with
        | int j =>
          simp only at o
          split at o
          · rename_i hj
            rw [Bool.and_eq_true] at hj
            intro G1 H1 v le R1 r
            obtain ⟨v', w', rfl, r', r''⟩ := rep2 r
            cases r'
            cases r''
            have z := o G1 H1 (Itr i (j - i).toNat) le R1 (src_range i (j - i).toNat)
            exact ⟨i, j, rfl, ⟨(rgOk_ok hj.1).1, (rgOk_ok hj.1).2, (rgOk_ok hj.2).1, (rgOk_ok hj.2).2⟩, z⟩
          · exact o.elim
        | _ => exact o.elim
      | _ => exact o.elim
theorem src_rangeC {K : PySem.W.Frag} {G0 : Gm} (lo c : Int) (n : Nat) : SrcOk K ca G0 (Itc lo c n) (.vals ((List.range n).map fun i => .int (lo + (i : Nat) * c))) := fun i G σ ρ st H le R => by
  show match (some ((List.range n).map fun i => DV.int (lo + (i : Nat) * c))[i]? : Option (Option DV)) with
    | some (some d) => _
    | some none => _
    | none => True
  rw [List.getElem?_map]
  by_cases hi : i < n
  · rw [List.getElem?_range hi]
    refine ⟨hi, fun x H' y => ?_⟩
    obtain ⟨rfl, rfl⟩ := y
    exact ⟨G, Gm.le.refl _, R, .int _⟩
  · rw [List.getElem?_eq_none (by simpa using hi)]
    exact Nat.le_of_not_lt hi
theorem ri_range3 {a b c : Expr} {m : XM (List DV)} {p pos : Pos} (hg : Gl X "range") (hm : X.mg "range" = none) (ha : PA X [a, b, c] (rdA X.K ca W m)) (hs : starEach [a, b, c] X.env = (false, eval a X.env) :: starEach [b, c] X.env) (hpl : (backTo pos (starEach [b, c] X.env)).any (·.1) = false) :
    PI X tg (.Call (.Name "range" p) [a, b, c] [] pos) (rdI X.K ca W (xRange3 m)) := pi_weak (pi_range3 hg hm ha hs hpl) fun σ H P q => by
  refine rd_bind q fun G ρ st H1 vs ds R r o => ?_
  cases e : rg3 ds with
  | none => rw [e] at o; exact o.elim
  | some xs =>
    rw [e] at o
    unfold rg3 at e
    split at e
    · rename_i i j k
      split at e
      · rename_i hj
        cases e
        cases r with
        | cons r1 r =>
          cases r with
          | cons r2 r =>
            cases r with
            | cons r3 r =>
              cases r
              cases r1
              cases r2
              cases r3
              exact ⟨i, j, k, rgNum i j k, rfl, rg3Ok_ok hj, o G H1 _ (Gm.le.refl _) R (src_rangeC i k _)⟩
      · cases e
    · cases e
end
end Mi

set_option maxHeartbeats 4000000
namespace Mi
open PySem PySem.Spec PyProof.Rows L2

/-! ### statements -/
inductive Fl where
  | nx | bk | ct | rt (d : DV)
abbrev SM := Ev → Store → Res (Fl × Ev × Store)
section
variable (K : PySem.W.Frag) (ca : Str → Addr)
def EndsAt (D : Ends) (G : Gm) (σ : St) (H : Hp) : Fl → Prop
  | .nx => D.nx σ H
  | .bk => D.bk σ H
  | .ct => D.ct σ H
  | .rt d => ∀ v, RepV K G v d → D.rt v H
def OutS (W : WX) (D : Ends) (G : Gm) : Res (Fl × Ev × Store) → Prop
  | .ok a => ∀ G' σ' H', G.le G' → RelS K ca G' σ' a.2.1 a.2.2 H' → EndsAt K D G' σ' H' a.1
  | .exc c v ρ' st' => ExcOut K ca W G c v ρ' st'
  | .bad => False
def rdS (W : WX) (m : SM) : TS := fun D σ H => ∃ G ρ st, RelS K ca G σ ρ st H ∧ OutS K ca W D G (m ρ st)
end
theorem ps_weak {X : Cx} {s : Stmt} {t t' : TS} (h : PS X s t) (w : ∀ D σ H, t' D σ H → t D σ H) : PS X s t' := ⟨fun pins s σ H D I q => h.run pins s σ H D I (w D σ H q)⟩
theorem pss_weak {X : Cx} {s : List Stmt} {t t' : TS} (h : PSs X s t) (w : ∀ D σ H, t' D σ H → t D σ H) : PSs X s t' := ⟨fun pins s σ H D I q => h.run pins s σ H D I (w D σ H q)⟩
theorem ps_orr {X : Cx} {s : Stmt} {t t' : TS} (h : PS X s t) (h' : PS X s t') : PS X s (fun D σ H => t D σ H ∨ t' D σ H) := ⟨fun pins s σ H D I q => q.elim (h.run pins s σ H D I) (h'.run pins s σ H D I)⟩
def sBad : SM := fun _ _ => .bad
def sNx : SM := fun ρ st => .ok (.nx, ρ, st)
def sBk : SM := fun ρ st => .ok (.bk, ρ, st)
def sCt : SM := fun ρ st => .ok (.ct, ρ, st)
def sBind {β : Type} (a : XM β) (f : β → SM) : SM := fun ρ st => match a ρ st with
  | .ok (d, st1) => f d ρ st1
  | .exc c v r s => .exc c v r s
  | .bad => .bad
def sSeq (a b : SM) : SM := fun ρ st => match a ρ st with
  | .ok (.nx, ρ1, st1) => b ρ1 st1
  | r => r
def sDrop (a : XM DV) : SM := sBind a fun _ => sNx
def sRet (a : XM DV) : SM := sBind a fun d ρ st => .ok (.rt d, ρ, st)
def sRetN : SM := fun ρ st => .ok (.rt .non, ρ, st)
def sIf (c : XM Bool) (a b : SM) : SM := sBind c fun k => if k then a else b
section
variable {K : PySem.W.Frag} {ca : Str → Addr} {W : WX} {D : Ends} {G : Gm} {σ : St} {ρ : Ev} {st : Store} {H : Hp}
theorem OutS.le {G1 : Gm} {r : Res (Fl × Ev × Store)} (h : OutS K ca W D G r) (l : G.le G1) : OutS K ca W D G1 r := by
  cases r with
  | ok a => exact fun G' σ' H' le R => h G' σ' H' (l.trans le) R
  | exc c v ρ' st' => exact ExcOut.le h l
  | bad => exact h
theorem outS_bind {α β : Type} {Rp : Gm → α → β → Prop} {Q1 : α → Hp → Prop} {a : XM β} {f : β → SM}
    (o : OutS K ca W D G (sBind a f ρ st))
    (k : ∀ G1 H1 v d st1, G.le G1 → RelS K ca G1 σ ρ st1 H1 → Rp G1 v d → OutS K ca W D G1 (f d ρ st1) → Q1 v H1) : Out K ca Rp W G σ ρ Q1 (a ρ st) := by
  unfold sBind at o
  cases h : a ρ st with
  | ok p =>
    obtain ⟨d, st1⟩ := p
    rw [h] at o
    exact fun G1 H1 v le R p => k G1 H1 v d st1 le R p (OutS.le o le)
  | exc c v r s =>
    rw [h] at o
    exact o
  | bad =>
    rw [h] at o
    exact o
theorem rs_bind {α β : Type} {Rp : Gm → α → β → Prop} {Q1 : α → Hp → Prop} {a : XM β} {f : β → SM} (h : rdS K ca W (sBind a f) D σ H)
    (k : ∀ G ρ st H1 v d, RelS K ca G σ ρ st H1 → Rp G v d → OutS K ca W D G (f d ρ st) → Q1 v H1) : rd K ca Rp W a σ H Q1 := by
  obtain ⟨G, ρ, st, R, o⟩ := h
  exact ⟨G, ρ, st, R, outS_bind o fun G1 H1 v d st1 le R1 p o1 => k G1 ρ st1 H1 v d R1 p o1⟩
theorem rs_nx (h : rdS K ca W sNx D σ H) : D.nx σ H := by
  obtain ⟨G, ρ, st, R, o⟩ := h
  exact o G σ H (Gm.le.refl _) R
theorem rs_seq {a b : SM} (h : rdS K ca W (sSeq a b) D σ H) : tSeq (rdS K ca W a) (rdS K ca W b) D σ H := by
  obtain ⟨G, ρ, st, R, o⟩ := h
  refine ⟨G, ρ, st, R, ?_⟩
  unfold sSeq at o
  cases e : a ρ st with
  | bad => rw [e] at o; exact o
  | exc c v r s => rw [e] at o; exact o
  | ok p =>
    obtain ⟨f, ρ1, st1⟩ := p
    rw [e] at o
    cases f with
    | nx => exact fun G' σ' H' le R' => ⟨G', ρ1, st1, R', OutS.le o le⟩
    | bk => exact o
    | ct => exact o
    | rt d => exact o
end
section
variable {X : Cx} {ca : Str → Addr} {W : WX} {e : Expr} {pos : Pos}
theorem rs_bad {K : PySem.W.Frag} {D : Ends} {σ : St} {H : Hp} (h : rdS K ca W sBad D σ H) : False := by
  obtain ⟨_, _, _, _, o⟩ := h
  exact o
theorem ps_badS {s : Stmt} : PS X s (rdS X.K ca W sBad) := ps_weak ps_never fun _ _ _ h => rs_bad h
theorem pss_badS {s : List Stmt} : PSs X s (rdS X.K ca W sBad) := pss_weak pss_never fun _ _ _ h => rs_bad h
theorem psm_nil : PSs X [] (rdS X.K ca W sNx) := pss_weak pss_nil fun _ _ _ h => rs_nx h
theorem psm_cons {s : Stmt} {r : List Stmt} {a b : SM} (h1 : PS X s (rdS X.K ca W a)) (h2 : PSs X r (rdS X.K ca W b)) : PSs X (s :: r) (rdS X.K ca W (sSeq a b)) := pss_weak (pss_cons h1 h2) fun _ _ _ h => rs_seq h
theorem psm_pass : PS X (.Pass pos) (rdS X.K ca W sNx) := ps_weak ps_pass fun _ _ _ h => rs_nx h
theorem psm_doc {x : Str} {j : Nat} {p p' : Pos} : PS X (.Expr (.Constant (.str x) j p) p') (rdS X.K ca W sNx) := ps_weak ps_doc fun _ _ _ h => rs_nx h
theorem psm_break : PS X (.Break pos) (rdS X.K ca W sBk) := ps_weak ps_break fun D σ H h => by
  obtain ⟨G, ρ, st, R, o⟩ := h
  exact o G σ H (Gm.le.refl _) R
theorem psm_continue : PS X (.Continue pos) (rdS X.K ca W sCt) := ps_weak ps_continue fun D σ H h => by
  obtain ⟨G, ρ, st, R, o⟩ := h
  exact o G σ H (Gm.le.refl _) R
theorem psm_expr {m : XM DV} (he : PE X e (rdE X.K ca W m)) (hs : swapsWith e none pos.line X.env = pure false) : PS X (.Expr e pos) (rdS X.K ca W (sDrop m)) := ps_weak (ps_expr he hs) fun D σ H h =>
  rs_bind h fun G ρ st H1 v d R r o => o G σ H1 (Gm.le.refl _) R
theorem psm_ret {m : XM DV} (he : PE X e (rdE X.K ca W m)) : PS X (.Return (some e) pos) (rdS X.K ca W (sRet m)) := ps_weak (ps_ret he) fun D σ H h =>
  rs_bind h fun G ρ st H1 v d R r o => o G σ H1 (Gm.le.refl _) R v r
theorem psm_retN : PS X (.Return none pos) (rdS X.K ca W sRetN) := ps_weak ps_retN fun D σ H h => by
  obtain ⟨G, ρ, st, R, o⟩ := h
  exact o G σ H (Gm.le.refl _) R .non .non
theorem psm_if {c : Expr} {p q : List Stmt} {mc : XM Bool} {a b : SM} (hc : PT X c (rdT X.K ca W mc)) (ha : PSs X p (rdS X.K ca W a)) (hb : PSs X q (rdS X.K ca W b)) : PS X (.If c p q pos) (rdS X.K ca W (sIf mc a b)) :=
  ps_weak (ps_if hc ha hb) fun D σ H h => rs_bind h fun G ρ st H1 k k' R r o => by
    obtain rfl : k = k' := r
    cases k with
    | true => exact ⟨G, ρ, st, R, o⟩
    | false => exact ⟨G, ρ, st, R, o⟩
end

/-! ### targets -/
abbrev TM := DV → Ev → Option Ev
def tmName (i : Nat) : TM := fun d ρ => some (ρ.set i (some d))
def tmBad : TM := fun _ _ => none
abbrev TMs := List DV → Ev → Option Ev
def tmNil : TMs := fun ds ρ => match ds with
  | [] => some ρ
  | _ => none
def tmCons (a : TM) (r : TMs) : TMs := fun ds ρ => match ds with
  | d :: ds => (match a d ρ with
    | some ρ1 => r ds ρ1
    | none => none)
  | _ => none
def tmTup (n : Nat) (r : TMs) : TM := fun d ρ => match d with
  | .tup ds => if ds.length = n then r ds ρ else none
  | _ => none
def Ag (P : Nat → Prop) (σ' σ : St) : Prop := σ'.length = σ.length ∧ ∀ j, ¬ P j → σ'[j]? = σ[j]?
section
variable (K : PySem.W.Frag) (ca : Str → Addr)
/-- P: the slots that may be written -/
def rdG (P : Nat → Prop) (m : TM) : TG := fun v σ H Q => ∃ G ρ st d ρ', RelS K ca G σ ρ st H ∧ RepV K G v d ∧ m d ρ = some ρ' ∧ ∀ σ', RelS K ca G σ' ρ' st H → Ag P σ' σ → Q σ' H
def rdGs (P : Nat → Prop) (m : TMs) : TGs := fun vs σ H Q => ∃ G ρ st ds ρ', RelS K ca G σ ρ st H ∧ RepVs K G vs ds ∧ m ds ρ = some ρ' ∧ ∀ σ', RelS K ca G σ' ρ' st H → Ag P σ' σ → Q σ' H
end
section
variable {X : Cx} {ca : Str → Addr} {pos : Pos} {P : Nat → Prop}
theorem pg_weak {e : Expr} {t t' : TG} (h : PG X e t) (w : ∀ v σ H Q, t' v σ H Q → t v σ H Q) : PG X e t' := ⟨fun pins s σ H v u Q I r q => h.run pins s σ H v u Q I r (w v σ H Q q)⟩
theorem pgs_weak {e : List Expr} {t t' : TGs} (h : PGs X e t) (w : ∀ v σ H Q, t' v σ H Q → t v σ H Q) : PGs X e t' := ⟨fun pins s σ H v u Q I r q => h.run pins s σ H v u Q I r (w v σ H Q q)⟩
theorem pgm_bad {e : Expr} : PG X e (rdG X.K ca P tmBad) := ⟨fun _ _ _ _ _ _ _ _ _ h => by
  obtain ⟨_, _, _, _, _, _, _, h, _⟩ := h
  cases h⟩
theorem pgm_name {i : Nat} {x : Str} (hN : X.N.Nodup) (hi : X.N[i]? = some x) (hx : Loc X.env.scope x) (hf : X.fn x = true ∨ X.env.scope.names.lookup x = some .local) (hP : P i) : PG X (.Name x pos) (rdG X.K ca P (tmName i)) := pg_weak (pg_name hN hi hx hf) fun v σ H Q h => by
  obtain ⟨G, ρ, st, d, ρ', R, r, e, q⟩ := h
  cases e
  exact q _ (R.set r i) ⟨List.length_set .., fun j hj => List.getElem?_set_ne (fun z : i = j => hj (by rw [← z]; exact hP))⟩
theorem pgsm_nil : PGs X [] (rdGs X.K ca P tmNil) := pgs_weak pgs_nil fun v σ H Q h => by
  obtain ⟨G, ρ, st, d, ρ', R, r, e, q⟩ := h
  cases r with
  | nil => cases e; exact ⟨rfl, q σ R ⟨rfl, fun _ _ => rfl⟩⟩
  | cons _ _ => cases e
theorem pgsm_cons {e : Expr} {es : List Expr} {a : TM} {r : TMs} (h1 : PG X e (rdG X.K ca P a)) (h2 : PGs X es (rdGs X.K ca P r)) (hs : (assignEach (e :: es) X.env).map (·.2) = assign e X.env :: (assignEach es X.env).map (·.2)) : PGs X (e :: es) (rdGs X.K ca P (tmCons a r)) :=
  pgs_weak (pgs_cons h1 h2 hs) fun v σ H Q h => by
    obtain ⟨G, ρ, st, d, ρ', R, rr, e, q⟩ := h
    cases rr with
    | nil => cases e
    | @cons v d vs ds r1 r2 =>
      unfold tmCons at e
      simp only at e
      cases e1 : a d ρ with
      | none => rw [e1] at e; cases e
      | some ρ1 =>
        rw [e1] at e
        exact ⟨v, vs, rfl, G, ρ, st, d, ρ1, R, r1, e1, fun σ1 R1 a1 => ⟨G, ρ1, st, ds, ρ', R1, r2, e, fun σ2 R2 a2 => q σ2 R2 ⟨a2.1.trans a1.1, fun j hj => (a2.2 j hj).trans (a1.2 j hj)⟩⟩⟩
theorem pgm_tup {es : List Expr} {k n : Nat} {r : TMs} (hc : X.calm = true) (h : PGs X es (rdGs X.K ca P r)) (hn : (assignEach es X.env).length = n) (hst : (assignEach es X.env).findIdx? (·.1) = none) : PG X (.Tuple es k pos) (rdG X.K ca P (tmTup n r)) :=
  pg_weak (pg_tup hc h hn hst) fun v σ H Q h => by
    obtain ⟨G, ρ, st, d, ρ', R, rr, e, q⟩ := h
    unfold tmTup at e
    split at e
    · rename_i ds
      split at e
      · rename_i hl
        cases rr with
        | @tup a vs _ h1 h2 => exact ⟨a, vs, rfl, seqT_mono R.sub h1, by rw [h2.len]; exact hl, G, ρ, st, ds, ρ', R, h2, e, q⟩
      · cases e
    · cases e
end
def sAsg (a : XM DV) (t : TM) : SM := sBind a fun d ρ st => match t d ρ with
  | some ρ' => .ok (.nx, ρ', st)
  | none => .bad
section
variable {X : Cx} {ca : Str → Addr} {W : WX} {e : Expr} {pos : Pos}
theorem psm_asg {tg : Expr} {m : XM DV} {g : TM} (he : PE X e (rdE X.K ca W m)) (hg : PG X tg (rdG X.K ca (fun _ => True) g)) (hs : swapsWithSole [tg] e pos.line X.env = pure false) (hw : swappedStores [tg] e X.env = pure none)
    (h1 : (assignEach [tg] X.env).map (·.2) = [assign tg X.env]) : PS X (.Assign [tg] e pos) (rdS X.K ca W (sAsg m g)) := ps_weak (ps_asg he hg hs hw h1) fun D σ H h =>
  rs_bind h fun G ρ st H1 v d R r o => by
    cases e1 : g d ρ with
    | none => rw [e1] at o; exact o.elim
    | some ρ' =>
      rw [e1] at o
      exact ⟨G, ρ, st, d, ρ', R, r, e1, fun σ' R' _ => o G σ' H1 (Gm.le.refl _) R'⟩
theorem tAsg_name {i : Nat} {m : XM DV} {K : PySem.W.Frag} {D : Ends} {σ : St} {H : Hp} (h : rdS K ca W (sAsg m (tmName i)) D σ H) : tAsg (rdE K ca W m) (gName i) D σ H :=
  rs_bind h fun G ρ st H1 v d R r o => o G _ H1 (Gm.le.refl _) (R.set r i)
theorem psm_set {i : Nat} {x : Str} {m : XM DV} {p : Pos} (hN : X.N.Nodup) (hi : X.N[i]? = some x) (hx : Loc X.env.scope x) (hf : X.fn x = true ∨ X.env.scope.names.lookup x = some .local) (he : PE X e (rdE X.K ca W m)) (hs : swapsWith e (some (.Name x p)) pos.line X.env = pure false) :
    PS X (.Assign [.Name x p] e pos) (rdS X.K ca W (sAsg m (tmName i))) := ps_weak (ps_set hN hi hx he hs hf) fun D σ H h => tAsg_name h
/-- a, b = x, y -/
def sPar2 (i j : Nat) (a : XM (List DV)) : SM := sBind a fun ds ρ st => match ds with
  | [x, y] => .ok (.nx, (ρ.set i (some x)).set j (some y), st)
  | _ => .bad
def sPar3 (i j k : Nat) (a : XM (List DV)) : SM := sBind a fun ds ρ st => match ds with
  | [x, y, z] => .ok (.nx, ((ρ.set i (some x)).set j (some y)).set k (some z), st)
  | _ => .bad
theorem psm_par2 {i j : Nat} {x y : Str} {a b : Expr} {ma : XM (List DV)} {px py pt : Pos} {kt k2 : Nat} {pt2 : Pos} (hc : X.calm = true) (hN : X.N.Nodup) (hi : X.N[i]? = some x) (hj : X.N[j]? = some y) (hij : i ≠ j)
    (hx : X.env.scope.names.lookup x = some .local) (hy : X.env.scope.names.lookup y = some .local) (ha : PA X [a, b] (rdA X.K ca W ma))
    (hw : swappedStores [.Tuple [.Name x px, .Name y py] kt pt] (.Tuple [a, b] k2 pt2) X.env = pure (some [x, y]))
    (hs : swapsWithSole [.Tuple [.Name x px, .Name y py] kt pt] (.Tuple [a, b] k2 pt2) pos.line X.env = pure false) :
    PS X (.Assign [.Tuple [.Name x px, .Name y py] kt pt] (.Tuple [a, b] k2 pt2) pos) (rdS X.K ca W (sPar2 i j ma)) := ps_weak (ps_par hc hN hi hj hij hx hy ha hw hs) fun D σ H h =>
  rs_bind h fun G ρ st H1 vs ds R r o => by
    split at o
    · obtain ⟨v, w, rfl, r1, r2⟩ := rep2 r
      exact ⟨v, w, rfl, o G _ H1 (Gm.le.refl _) ((R.set r1 i).set r2 j)⟩
    · exact o.elim
theorem psm_par3 {i j l : Nat} {x y z : Str} {a b c : Expr} {ma : XM (List DV)} {px py pz pt : Pos} {kt k2 : Nat} {pt2 : Pos} (hc : X.calm = true) (hN : X.N.Nodup) (hi : X.N[i]? = some x) (hj : X.N[j]? = some y) (hl : X.N[l]? = some z) (hij : i ≠ j) (hil : i ≠ l) (hjl : j ≠ l)
    (hx : X.env.scope.names.lookup x = some .local) (hy : X.env.scope.names.lookup y = some .local) (hz : X.env.scope.names.lookup z = some .local) (ha : PA X [a, b, c] (rdA X.K ca W ma))
    (hw : swappedStores [.Tuple [.Name x px, .Name y py, .Name z pz] kt pt] (.Tuple [a, b, c] k2 pt2) X.env = pure (some [x, y, z]))
    (hs : swapsWithSole [.Tuple [.Name x px, .Name y py, .Name z pz] kt pt] (.Tuple [a, b, c] k2 pt2) pos.line X.env = pure false) :
    PS X (.Assign [.Tuple [.Name x px, .Name y py, .Name z pz] kt pt] (.Tuple [a, b, c] k2 pt2) pos) (rdS X.K ca W (sPar3 i j l ma)) := ps_weak (ps_par3 hc hN hi hj hl hij hil hjl hx hy hz ha hw hs) fun D σ H h =>
  rs_bind h fun G ρ st H1 vs ds R r o => by
    split at o
    · cases r with
      | cons r1 r =>
        obtain ⟨v, w, rfl, r2, r3⟩ := rep2 r
        exact ⟨_, v, w, rfl, o G _ H1 (Gm.le.refl _) (((R.set r1 i).set r2 j).set r3 l)⟩
    · exact o.elim
/-- o.f = value -/
def insAt (d : DV) (st : Store) : Option (Nat × Str × List (Str × DV)) := match d with
  | .ref n => (match st[n]? with
    | some (.ins c fs) => some (n, c, fs)
    | _ => none)
  | _ => none
def sFldM (at_ : Str → Bool) (f : Str) (v o : XM DV) : SM := sBind v fun y => sBind o fun x ρ st => match insAt x st with
  | some (n, c, fs) => if at_ c && decide (fs.length < 1000) then .ok (.nx, ρ, st.set n (.ins c (putN f y fs))) else .bad
  | none => .bad
theorem insAt_ok {K : PySem.W.Frag} {G : Gm} {σ : St} {ρ : Ev} {st : Store} {H : Hp} {v : V} {d : DV} (R : RelS K ca G σ ρ st H) (r : RepV K G v d) {n : Nat} {c : Str} {fs : List (Str × DV)} (h : insAt d st = some (n, c, fs)) :
    ∃ dx fv, d = .ref n ∧ v = .ref (G.mu n) ∧ st[n]? = some (.ins c fs) ∧ H (G.mu n) = some (.ins (ca c) dx fv) ∧ RepFs K G fv fs := by
  cases r with
  | @ref k hk =>
    have h1 : (match st[k]? with
      | some (.ins c fs) => some (k, c, fs)
      | _ => none) = some (n, c, fs) := h
    cases e : st[k]? with
    | none => rw [e] at h1; cases h1
    | some cc =>
      rw [e] at h1
      cases cc with
      | ins c' fs' =>
        cases h1
        obtain ⟨dx, fv, e2, rs⟩ := R.cells _ _ e
        exact ⟨dx, fv, rfl, rfl, e, e2, rs⟩
      | _ => cases h1
  | _ => cases h
theorem psm_fld {o value : Expr} {f : Str} {p : Pos} {mo mv : XM DV} {at_ : Str → Bool} (ok : AttrOk X.K ca f at_) (ha : PE X o (rdE X.K ca W mo)) (hv : PE X value (rdE X.K ca W mv)) :
    PS X (.Assign [.Attribute o f p] value pos) (rdS X.K ca W (sFldM at_ f mv mo)) := ps_weak (ps_fld ha hv (swaps_other fun _ _ h => by cases h)) fun D σ H h =>
  rs_bind h fun G ρ st H1 y dy R ry o1 => by
    refine rd_of R (outS_bind o1 fun G1 H2 x dx st1 le R1 rx o2 => ?_)
    cases e1 : insAt dx st1 with
    | none => simp only [e1] at o2; exact o2.elim
    | some p =>
      obtain ⟨n, c, fs⟩ := p
      simp only [e1] at o2
      split at o2
      · rename_i hk
        rw [Bool.and_eq_true, decide_eq_true_eq] at hk
        obtain ⟨xd, fv, rfl, rfl, e2, e3, e4⟩ := insAt_ok R1 rx e1
        obtain ⟨k1, k2⟩ := ok c hk.1
        exact ⟨_, ca c, xd, fv, rfl, e3, k1, k2, by rw [e4.len]; exact hk.2, o2 G1 σ _ (Gm.le.refl _) (R1.write e2 trivial ⟨xd, _, upd_same, e4.put (ry.mono le)⟩ trivial)⟩
      · exact o2.elim
end
/-- o[i] = value -/
def sSub (v o i : XM DV) : SM := sBind v fun y => sBind o fun x => sBind i fun j ρ st => match mlst x st, mdct x st with
  | some (n, xs), _ => (match j with
    | .int k => (match ixN xs.length k with
      | some q => .ok (.nx, ρ, st.set n (.lst (xs.set q y)))
      | none => .bad)
    | _ => .bad)
  | none, some (n, kvs) => (match keyOf j with
    | some k => if kvs.length < sizeLine then .ok (.nx, ρ, st.set n (.dct (putKD kvs k y))) else .bad
    | none => .bad)
  | none, none => .bad
section
variable {X : Cx} {ca : Str → Addr} {W : WX} {pos : Pos}
theorem asg_sub {o i : Expr} {p : Pos} {env : Env} (h : noSl i = true) : ∀ v, assign (.Subscript o i p) env v = (do
      let ov ← holding [v] (eval o env)
      let iv ← holding [v, ov] (eval i env)
      standAt p
      holding [v, ov, iv] (setItem ov iv v)
      release [v, ov, iv] []) := fun v => by
  cases i <;> first | rfl | cases h
theorem psm_sub {o i value : Expr} {p : Pos} {mo mi mv : XM DV} (hu : X.A.units + 1 < cLine) (ho : PE X o (rdE X.K ca W mo)) (hi : PE X i (rdE X.K ca W mi)) (hv : PE X value (rdE X.K ca W mv))
    (hn : noSl i = true) (hw : swappedStores [.Subscript o i p] value X.env = pure none) (hs : swapsWithSole [.Subscript o i p] value pos.line X.env = pure false) :
    PS X (.Assign [.Subscript o i p] value pos) (rdS X.K ca W (sSub mv mo mi)) := by
  refine ps_weak (ps_asg hv (pg_sub ho hi (t := fun o i v H Q => rSetL o i v H Q ∨ rSetD o i v H Q) (fun pins s σ H o i v ov iv u Q I ro ri rv h =>
    h.elim (set_list pins s σ H o i v ov iv u Q I ro ri rv) (set_dict hu pins s σ H o i v ov iv u Q I ro ri rv)) (asg_sub hn)) hs hw) fun D σ H h => ?_
  refine rs_bind h fun G ρ st H1 y dy R ry o1 => ?_
  refine rd_of R (outS_bind o1 fun G1 H2 x dx st1 le1 R1 rx o2 => ?_)
  refine rd_of R1 (outS_bind o2 fun G2 H3 j dj st2 le2 R2 rj o3 => ?_)
  have rx := rx.mono le2
  have ry := ry.mono (le1.trans le2)
  cases e1 : mlst dx st2 with
  | some p =>
    obtain ⟨n, xs⟩ := p
    simp only [e1] at o3
    cases rj with
    | int k =>
      simp only at o3
      cases e2 : ixN xs.length k with
      | none => rw [e2] at o3; exact o3.elim
      | some q =>
        rw [e2] at o3
        obtain ⟨vs, rfl, rfl, e3, e4, e5⟩ := mlst_ok R2 rx e1
        exact .inl ⟨_, vs, k, q, rfl, rfl, e4, by rw [e5.len]; exact e2, o3 G2 σ _ (Gm.le.refl _) (setL_ok R2 e3 (e5.set ry q))⟩
    | _ => exact o3.elim
  | none =>
    cases e2 : mdct dx st2 with
    | none => simp only [e1, e2] at o3; exact o3.elim
    | some p =>
      obtain ⟨n, kvs⟩ := p
      simp only [e1, e2] at o3
      cases e3 : keyOf dj with
      | none => rw [e3] at o3; exact o3.elim
      | some k =>
        rw [e3] at o3
        simp only at o3
        split at o3
        · rename_i hz
          obtain ⟨vs, rfl, rfl, e4, e5, e6⟩ := mdct_ok R2 rx e2
          have ek := keyOf_ok rj e3
          subst ek
          exact .inr ⟨_, _, rfl, DPut.k e5 (by rw [e6.len]; exact hz), o3 G2 σ _ (Gm.le.refl _) (setD_ok R2 e4 (e6.put ry))⟩
        · exact o3.elim
end

/-! ### loops -/
def srcLen (s : Src) (st : Store) : Nat := match s with
  | .vals xs => xs.length
  | .cell n => (match st[n]? with
    | some (.lst xs) => xs.length
    | _ => 0)
  | .ecell n => (match st[n]? with
    | some (.lst xs) => xs.length
    | _ => 0)
def sLoop (s : Src) (tg : TM) (body : SM) : Nat → Nat → SM
  | 0, _ => sBad
  | n + 1, i => fun ρ st => match srcAt s i st with
    | some none => .ok (.nx, ρ, st)
    | some (some d) => (match tg d ρ with
      | some ρ1 => (match body ρ1 st with
        | .ok (.nx, ρ2, st2) => sLoop s tg body n (i + 1) ρ2 st2
        | .ok (.ct, ρ2, st2) => sLoop s tg body n (i + 1) ρ2 st2
        | .ok (.bk, ρ2, st2) => .ok (.nx, ρ2, st2)
        | r => r)
      | none => .bad)
    | none => .bad
def sFor (src : XM Src) (tg : TM) (body : SM) : SM := sBind src fun s ρ st => sLoop s tg body (srcLen s st + 1) 0 ρ st
def sWhl (c : XM Bool) (body : SM) : Nat → SM
  | 0 => sBad
  | n + 1 => sBind c fun k => if k then (fun ρ st => match body ρ st with
      | .ok (.nx, ρ2, st2) => sWhl c body n ρ2 st2
      | .ok (.ct, ρ2, st2) => sWhl c body n ρ2 st2
      | .ok (.bk, ρ2, st2) => .ok (.nx, ρ2, st2)
      | r => r) else sNx
section
variable {X : Cx} {ca : Str → Addr} {W : WX} {pos : Pos}
theorem psm_for {tg iter : Expr} {body : List Stmt} {ms : XM Src} {g : TM} {b : SM} (hp : PassesOwn (model X.prog X.w) X.A X.env X.xe) (hc : X.calm = true) (hi : PI X tg iter (rdI X.K ca W ms)) (hg : PG X tg (rdG X.K ca (fun _ => True) g)) (hb : PSs X body (rdS X.K ca W b))
    (hs : ∀ x, foldedSetIterable iter X.env x = pure x) : PS X (.For tg iter body [] pos) (rdS X.K ca W (sFor ms g b)) := ps_weak (ps_for hp hc hi hg hb hs) fun D σ H h => by
  refine rs_bind h fun G0 ρ0 st0 H0 J s R0 sk o0 => ?_
  refine ⟨fun i m σ H => ∃ G ρ st, G0.le G ∧ RelS X.K ca G σ ρ st H ∧ OutS X.K ca W D G (sLoop s g b m i ρ st), ⟨_, G0, ρ0, st0, Gm.le.refl _, R0, o0⟩, ?_⟩
  rintro i m σ H ⟨G, ρ, st, le, R, o⟩
  cases m with
  | zero => exact o.elim
  | succ m =>
    have sk' := sk i G σ ρ st H le.lf R
    unfold sLoop at o
    cases e1 : srcAt s i st with
    | none => rw [e1] at o; exact o.elim
    | some x =>
      rw [e1] at o sk'
      cases x with
      | none => exact .inl ⟨sk', o G σ H (Gm.le.refl _) R⟩
      | some d =>
        simp only at o sk'
        refine .inr ⟨sk'.1, fun σ' H' => ∃ G' ρ' st', G0.le G' ∧ RelS X.K ca G' σ' ρ' st' H' ∧ OutS X.K ca W D G' (sLoop s g b m (i + 1) ρ' st'), fun σ' H' z => ⟨m, Nat.lt_succ_self _, z⟩, fun x H' y => ?_⟩
        obtain ⟨G1, le1, R1, r1⟩ := sk'.2 x H' y
        cases e2 : g d ρ with
        | none => rw [e2] at o; exact o.elim
        | some ρ1 =>
          rw [e2] at o
          simp only at o
          refine ⟨G1, ρ, st, d, ρ1, R1, r1, e2, fun σ2 R2 _ => ⟨G1, ρ1, st, R2, ?_⟩⟩
          cases e3 : b ρ1 st with
          | bad => rw [e3] at o; exact o.elim
          | exc c v r s' => rw [e3] at o; exact ExcOut.le o le1
          | ok p =>
            obtain ⟨f, ρ2, st2⟩ := p
            rw [e3] at o
            cases f with
            | nx => exact fun G' σ' H'' le' R' => ⟨G', ρ2, st2, le.trans (le1.trans le'), R', OutS.le o (le1.trans le')⟩
            | ct => exact fun G' σ' H'' le' R' => ⟨G', ρ2, st2, le.trans (le1.trans le'), R', OutS.le o (le1.trans le')⟩
            | bk => exact fun G' σ' H'' le' R' => o G' σ' H'' (le1.trans le') R'
            | rt d => exact fun G' σ' H'' le' R' => o G' σ' H'' (le1.trans le') R'
theorem psm_while {c : Expr} {body : List Stmt} {mc : XM Bool} {b : SM} (n : Nat) (hp : PassesOwn (model X.prog X.w) X.A X.env X.xe) (hc : PT X c (rdT X.K ca W mc)) (hb : PSs X body (rdS X.K ca W b)) : PS X (.While c body [] pos) (rdS X.K ca W (sWhl mc b n)) := ps_weak (ps_while hp hc hb) fun D σ H h => by
  obtain ⟨G0, ρ0, st0, R0, o0⟩ := h
  refine ⟨fun m σ H => ∃ G ρ st, RelS X.K ca G σ ρ st H ∧ OutS X.K ca W D G (sWhl mc b m ρ st), ⟨_, G0, ρ0, st0, R0, o0⟩, ?_⟩
  rintro m σ H ⟨G, ρ, st, R, o⟩
  cases m with
  | zero => exact o.elim
  | succ m =>
    unfold sWhl at o
    refine rd_of R (outS_bind (Rp := EqB) o fun G1 H1 k k' st1 le1 R1 e o1 => ?_)
    obtain rfl : k = k' := e
    cases k with
    | false =>
      rw [if_neg (by simp)]
      exact o1 G1 σ H1 (Gm.le.refl _) R1
    | true =>
      rw [if_pos rfl]
      rw [if_pos rfl] at o1
      refine ⟨fun σ' H' => ∃ G' ρ' st', RelS X.K ca G' σ' ρ' st' H' ∧ OutS X.K ca W D G' (sWhl mc b m ρ' st'), fun σ' H' z => ⟨m, Nat.lt_succ_self _, z⟩, G1, ρ, st1, R1, ?_⟩
      cases e3 : b ρ st1 with
      | bad => rw [e3] at o1; exact o1.elim
      | exc c v r s' => rw [e3] at o1; exact o1
      | ok p =>
        obtain ⟨f, ρ2, st2⟩ := p
        rw [e3] at o1
        cases f with
        | nx => exact fun G' σ' H'' le' R' => ⟨G', ρ2, st2, R', OutS.le o1 le'⟩
        | ct => exact fun G' σ' H'' le' R' => ⟨G', ρ2, st2, R', OutS.le o1 le'⟩
        | bk => exact o1
        | rt d => exact o1
end
end Mi

set_option maxHeartbeats 4000000
namespace Mi
open PySem PySem.Spec PyProof.Rows L2

/-! ### list comprehensions -/
def wipeD (ρ : Ev) : List Nat → Ev
  | [] => ρ
  | v :: vs => (wipeD ρ vs).set v none
def lcGo (s : Src) (tg : TM) (tt : XM Bool) (te : XM DV) (ρ : Ev) : Nat → Nat → List DV → Store → Option (List DV × Store)
  | 0, _, _, _ => none
  | n + 1, i, acc, st => match srcAt s i st with
    | none => none
    | some none => some (acc, st)
    | some (some d) => (match tg d ρ with
      | none => none
      | some ρ1 => (match tt ρ1 st with
        | .ok (true, st1) => (match te ρ1 st1 with
          | .ok (y, st2) => if i < sizeLine then lcGo s tg tt te ρ n (i + 1) (y :: acc) st2 else none
          | _ => none)
        | .ok (false, st1) => lcGo s tg tt te ρ n (i + 1) acc st1
        | _ => none))
def xLc (mu : Bool) (src : XM Src) (tg : TM) (tt : XM Bool) (te : XM DV) (vs : List Nat) : XM DV := xBind src fun s ρ st =>
  match lcGo s tg tt te (wipeD ρ vs) (srcLen s st + 1) 0 [] st with
  | some (acc, st') => .ok (newL mu acc.reverse st')
  | none => .bad
def W0 : WX := fun _ _ _ _ => False
section
variable {K : PySem.W.Frag} {ca : Str → Addr} {G : Gm} {σ σ' : St} {ρ : Ev} {st : Store} {H : Hp}
theorem wipeD_len (ρ : Ev) : ∀ vs : List Nat, (wipeD ρ vs).length = ρ.length
  | [] => rfl
  | v :: vs => by unfold wipeD; rw [List.length_set, wipeD_len ρ vs]
theorem wipeD_some {ρ : Ev} {i : Nat} {x : DV} : ∀ {vs : List Nat}, (wipeD ρ vs)[i]? = some (some x) → ρ[i]? = some (some x) ∧ i ∉ vs
  | [], h => ⟨h, by simp⟩
  | v :: vs, h => by
    unfold wipeD at h
    by_cases hi : v = i
    · subst hi
      by_cases hv : v < (wipeD ρ vs).length
      · rw [List.getElem?_set_self hv] at h; cases h
      · rw [List.getElem?_eq_none (by simpa using hv)] at h; cases h
    · rw [List.getElem?_set_ne hi] at h
      obtain ⟨h1, h2⟩ := wipeD_some h
      exact ⟨h1, fun m => (List.mem_cons.mp m).elim (fun e => hi e.symm) h2⟩
theorem RelS.wipe (R : RelS K ca G σ ρ st H) (vs : List Nat) : RelS K ca G (L2.wipe σ vs) (wipeD ρ vs) st H := R.envs (by rw [wipe_length, wipeD_len, R.len]) fun i d e => by
  obtain ⟨h1, h2⟩ := wipeD_some e
  obtain ⟨v, h3, h4⟩ := R.env i d h1
  exact ⟨v, by rw [wipe_out h2]; exact h3, h4⟩
theorem wipe_in {σ : St} {i : Nat} : ∀ {vs : List Nat}, i ∈ vs → i < σ.length → (L2.wipe σ vs)[i]? = some none
  | v :: vs, h, hl => by
    unfold L2.wipe
    by_cases e : v = i
    · subst e
      rw [List.getElem?_set_self (by rw [wipe_length]; exact hl)]
    · rw [List.getElem?_set_ne e]
      exact wipe_in ((List.mem_cons.mp h).resolve_left (Ne.symm e)) hl
theorem wipe_agree {vs : List Nat} (hl : σ'.length = σ.length) (h : ∀ j, ¬ j ∈ vs → σ'[j]? = σ[j]?) : L2.wipe σ' vs = L2.wipe σ vs := by
  apply List.ext_getElem?
  intro j
  by_cases hj : j ∈ vs
  · by_cases hk : j < σ.length
    · rw [wipe_in hj hk, wipe_in hj (by rw [hl]; exact hk)]
    · rw [List.getElem?_eq_none (by rw [wipe_length, hl]; omega), List.getElem?_eq_none (by rw [wipe_length]; omega)]
  · rw [wipe_out hj, wipe_out hj, h j hj]
/-- behind a comprehension: the new list is taken from aside -/
theorem back_list (mu : Bool) {G0 : Gm} {D : Addr} {vs : List V} {ds : List DV} {σw : St} {ρw : Ev} {st0 : Store} {H0 : Hp} (hB : G.B = upd G0.B D (.lst vs)) (h0 : G0.B D = none) (le : Gm.le { G0 with B := G.B } G) (R0 : RelS K ca G0 σ ρ st0 H0)
    (R : RelS K ca G σw ρw st H) (r : RepVs K G vs ds) : ∃ G', G0.le G' ∧ RelS K ca G' σ ρ (newL mu ds st).2 H ∧ RepV K G' (.ref D) (newL mu ds st).1 := by
  have eG : G = { G with B := upd G0.B D (.lst vs) } := by rw [← hB]
  rw [eG] at R
  obtain ⟨R1, e1, e2, e3⟩ := R.back1 h0
  have le1 : G0.le { G with B := G0.B } := ⟨le.n, le.mu, le.F, rfl⟩
  have R2 : RelS K ca { G with B := G0.B } σ ρ st H := R1.envs R0.len fun i d e => by
    obtain ⟨v, h1, h2⟩ := R0.env i d e
    exact ⟨v, h1, h2.mono le1⟩
  have r2 : RepVs K { G with B := G0.B } vs ds := r.reB
  cases mu with
  | false =>
    obtain ⟨le3, R3⟩ := R2.froz1 e1 e2 h0 e3
    exact ⟨_, le1.trans le3, R3, .lst upd_same (r2.mono le3)⟩
  | true =>
    obtain ⟨le3, R3, r3⟩ := R2.cell1 (.lst ds) e1 e2 h0 e3 fun G' le' => ⟨vs, e1, r2.mono le'⟩
    exact ⟨_, le1.trans le3, R3, r3⟩
end
section
variable {X : Cx} {ca : Str → Addr} {W : WX} {tg iter elt : Expr} {ifs : List Expr} {pos : Pos}
theorem tLc_ok {K : PySem.W.Frag} {mu : Bool} {src : XM Src} {g : TM} {tt : XM Bool} {te : XM DV} {vs : List Nat} {σ : St} {H : Hp} {Q : VK} (h : rdE K ca W (xLc mu src g tt te vs) σ H Q) :
    tLc (rdI K ca W src) (rdG K ca (· ∈ vs) g) (rdT K ca W0 tt) (rdE K ca W0 te) vs σ H Q := by
  refine rd_bind h fun G0 ρ st0 H0 J s R0 sk o0 => ?_
  intro D hD
  cases e0 : lcGo s g tt te (wipeD ρ vs) (srcLen s st0 + 1) 0 [] st0 with
  | none => simp only [e0] at o0; exact o0.elim
  | some res =>
    obtain ⟨racc, stE⟩ := res
    simp only [e0] at o0
    have hB0 : G0.B D = none := R0.gh.free hD
    refine ⟨fun i m H => ∃ G st accV acc, G.B = upd G0.B D (.lst accV) ∧ Gm.le { G0 with B := G.B } G ∧ RelS K ca G (L2.wipe σ vs) (wipeD ρ vs) st H ∧ RepVs K G accV acc.reverse ∧ acc.length ≤ i ∧ lcGo s g tt te (wipeD ρ vs) m i acc st = some (racc, stE),
      ⟨_, { G0 with B := upd G0.B D (.lst []) }, st0, [], [], rfl, Gm.le.refl _, (R0.put _ hD).wipe vs, .nil, Nat.le_refl _, e0⟩, ?_⟩
    rintro i m H1 ⟨G, st, accV, acc, hB, le, R, ra, hlen, e⟩
    cases m with
    | zero => cases e
    | succ m =>
      have sk' := sk i G _ _ st H1 ⟨le.n, le.mu, le.F⟩ R
      unfold lcGo at e
      cases e1 : srcAt s i st with
      | none => rw [e1] at e; cases e
      | some x =>
        rw [e1] at e sk'
        cases x with
        | none =>
          simp only at e sk'
          cases e
          obtain ⟨G', le', R', r'⟩ := back_list mu hB hB0 le R0 R ra
          exact .inl ⟨sk', o0 G' H1 _ le' R' r'⟩
        | some d =>
          simp only at e sk'
          refine .inr ⟨sk'.1, fun H' => ∃ G st accV acc, G.B = upd G0.B D (.lst accV) ∧ Gm.le { G0 with B := G.B } G ∧ RelS K ca G (L2.wipe σ vs) (wipeD ρ vs) st H' ∧ RepVs K G accV acc.reverse ∧ acc.length ≤ i + 1 ∧ lcGo s g tt te (wipeD ρ vs) m (i + 1) acc st = some (racc, stE),
            fun H' z => ⟨m, Nat.lt_succ_self _, z⟩, fun x H' y => ?_⟩
          obtain ⟨G1, le1, R1, r1⟩ := sk'.2 x H' y
          cases e2 : g d (wipeD ρ vs) with
          | none => rw [e2] at e; cases e
          | some ρ1 =>
            rw [e2] at e
            simp only at e
            refine ⟨G1, wipeD ρ vs, st, d, ρ1, R1, r1, e2, fun σ2 R2 ag => ?_⟩
            have hw : L2.wipe σ2 vs = L2.wipe σ vs := by
              rw [wipe_agree (vs := vs) ag.1 ag.2]
              exact wipe_agree (wipe_length _ _) fun j hj => wipe_out hj
            refine ⟨hw, ?_⟩
            have hG1 : G1.B = upd G0.B D (.lst accV) := le1.B.trans hB
            have le01 : Gm.le { G0 with B := G1.B } G1 := ⟨Nat.le_trans le.n le1.n, fun i h => (le1.mu i (Nat.lt_of_lt_of_le h le.n)).trans (le.mu i h), le.F.trans le1.F, rfl⟩
            have again : ∀ {G2 : Gm} {st2 : Store} {H2 : Hp}, G1.le G2 → RelS K ca G2 σ2 ρ1 st2 H2 → RelS K ca G2 (L2.wipe σ vs) (wipeD ρ vs) st2 H2 := fun {G2 st2 H2} le2 R' => R'.envs R.len fun i d e => by
              obtain ⟨v, h1, h2⟩ := R1.env i d e
              exact ⟨v, h1, h2.mono le2⟩
            refine ⟨G1, ρ1, st, R2, ?_⟩
            cases e3 : tt ρ1 st with
            | bad => rw [e3] at e; cases e
            | exc c v r s' => rw [e3] at e; cases e
            | ok p =>
              obtain ⟨b', st1⟩ := p
              rw [e3] at e
              intro G2 H2 b le2 R2' eb
              obtain rfl : b = b' := eb
              have le02 : Gm.le { G0 with B := G2.B } G2 := ⟨Nat.le_trans le01.n le2.n, fun i h => (le2.mu i (Nat.lt_of_lt_of_le h le01.n)).trans (le01.mu i h), le01.F.trans le2.F, rfl⟩
              cases b with
              | false =>
                simp only at e
                rw [if_neg (by simp)]
                exact ⟨G2, st1, accV, acc, le2.B.trans hG1, le02, again le2 R2', ra.mono (le1.trans le2), Nat.le_succ_of_le hlen, e⟩
              | true =>
                simp only at e
                rw [if_pos rfl]
                refine ⟨G2, ρ1, st1, R2', ?_⟩
                cases e4 : te ρ1 st1 with
                | bad => rw [e4] at e; cases e
                | exc c v r s' => rw [e4] at e; cases e
                | ok p =>
                  obtain ⟨yd, st2⟩ := p
                  rw [e4] at e
                  simp only at e
                  split at e
                  · rename_i hi
                    intro G3 H3 yv le3 R3 ry
                    have hG3 : G3.B = upd G0.B D (.lst accV) := le3.B.trans (le2.B.trans hG1)
                    have le03 : Gm.le { G0 with B := G3.B } G3 := ⟨Nat.le_trans le02.n le3.n, fun i h => (le3.mu i (Nat.lt_of_lt_of_le h le02.n)).trans (le02.mu i h), le02.F.trans le3.F, rfl⟩
                    have eG : G3 = { G3 with B := upd G0.B D (.lst accV) } := by rw [← hG3]
                    have R4 := again (le2.trans le3) R3
                    have hD3 : H3 D = some (.lst accV) := R4.gh _ _ (by rw [hG3]; exact upd_same)
                    have la : accV.length = acc.length := by rw [ra.len, List.length_reverse]
                    refine ⟨accV, hD3, by rw [la]; omega, ?_⟩
                    have R5 : RelS K ca { G3 with B := upd G0.B D (.lst (accV ++ [yv])) } (L2.wipe σ vs) (wipeD ρ vs) st2 (upd H3 D (.lst (accV ++ [yv]))) := by
                      rw [eG] at R4
                      exact R4.turn
                    refine ⟨{ G3 with B := upd G0.B D (.lst (accV ++ [yv])) }, st2, accV ++ [yv], yd :: acc, rfl, ⟨le03.n, le03.mu, le03.F, rfl⟩, R5, ?_, Nat.succ_le_succ hlen, e⟩
                    rw [List.reverse_cons]
                    exact RepVs.reB (B' := upd G0.B D (.lst (accV ++ [yv]))) ((ra.mono (le1.trans (le2.trans le3))).append (.cons ry .nil))
                  · cases e
theorem re_lc {scope : Scope} {own : List (Str × Nat)} {mu : Bool} {src : XM Src} {g : TM} {tt : XM Bool} {te : XM DV} (hc : X.calm = true) (hN : X.N.Nodup) (hi : PI X tg iter (rdI X.K ca W src)) (ok : BlkOk X.N X.env.scope scope own)
    (hg : ∀ (s : Shared) (H : Hp) (C : Addr) (cl : List (Str × Addr)) (fp : List Addr), PG (X.blk s H scope (compEnvC scope cl C X.env) fp) tg (rdG X.K ca (· ∈ own.map (·.2)) g)) (ht : ∀ (s : Shared) (H : Hp) (C : Addr) (cl : List (Str × Addr)) (fp : List Addr), PTs (X.blk s H scope (compEnvC scope cl C X.env) fp) ifs (rdT X.K ca W0 tt))
    (he : ∀ (s : Shared) (H : Hp) (C : Addr) (cl : List (Str × Addr)) (fp : List Addr), PE (X.blk s H scope (compEnvC scope cl C X.env) fp) elt (rdE X.K ca W0 te)) (hs : ∀ x, foldedSetIterable iter X.env x = pure x) :
    PE X (.ListComp elt [⟨tg, iter, ifs, 0⟩] scope pos) (rdE X.K ca W (xLc mu src g tt te (own.map (·.2)))) := pe_weak (pe_lc hc hN hi ok hg ht he hs) fun σ H Q q => tLc_ok q
theorem psm_lc {i : Nat} {y : Str} {py spos : Pos} {scope : Scope} {own : List (Str × Nat)} {mu : Bool} {src : XM Src} {g : TM} {tt : XM Bool} {te : XM DV} (hc : X.calm = true) (hN : X.N.Nodup) (hy : X.N[i]? = some y) (hyl : X.env.scope.names.lookup y = some .local)
    (hsw : swapsWith (.ListComp elt [⟨tg, iter, ifs, 0⟩] scope pos) (some (.Name y py)) spos.line X.env = pure true) (hi : PI X tg iter (rdI X.K ca W src)) (ok : BlkOk X.N X.env.scope scope own)
    (hg : ∀ (s : Shared) (H : Hp) (C : Addr) (cl : List (Str × Addr)) (fp : List Addr), PG (X.blk s H scope (compEnvC scope cl C X.env) fp) tg (rdG X.K ca (· ∈ own.map (·.2)) g)) (ht : ∀ (s : Shared) (H : Hp) (C : Addr) (cl : List (Str × Addr)) (fp : List Addr), PTs (X.blk s H scope (compEnvC scope cl C X.env) fp) ifs (rdT X.K ca W0 tt))
    (he : ∀ (s : Shared) (H : Hp) (C : Addr) (cl : List (Str × Addr)) (fp : List Addr), PE (X.blk s H scope (compEnvC scope cl C X.env) fp) elt (rdE X.K ca W0 te)) (hs : ∀ x, foldedSetIterable iter X.env x = pure x) :
    PS X (.Assign [.Name y py] (.ListComp elt [⟨tg, iter, ifs, 0⟩] scope pos) spos) (rdS X.K ca W (sAsg (xLc mu src g tt te (own.map (·.2))) (tmName i))) := ps_weak (ps_setLc hc hN hy hyl hsw hi ok hg ht he hs) fun D σ H q => by
  have q' : rdE X.K ca W (xLc mu src g tt te (own.map (·.2))) σ H (fun x H1 => gName i x σ H1 D.nx) := tAsg_name q
  exact tLc_ok q'
end
end Mi

set_option maxHeartbeats 4000000
namespace Mi
open PySem PySem.Spec PyProof.Rows L2

/-! ### in, of dicts -/
def oInD (neg : Bool) : V2 := fun x y st => match keyOf x, hdct y st with
  | some k, some kvs => some (.bl (if neg then !(valD k kvs).isSome else (valD k kvs).isSome), st)
  | _, _ => none
def rInD (neg : Bool) : R2 := fun y x H Q => ∃ a o, x = .ref a ∧ DGet H a y o ∧ Q (.bl (if neg then !o.isSome else o.isSome)) H
section
variable {X : Cx} {K : PySem.W.Frag} {ca : Str → Addr}
theorem op_inD (hu : X.A.units + 1 < cLine) : OpR X (compareOp .In) (rInD false) := by
  intro pins s σ H x y v u Q I rx ry h
  obtain ⟨a, o, rfl, g, q⟩ := h
  obtain rfl : u = Value.ref a := ry
  exact d_in hu I g rx fun s3 I3 => ⟨.bl o.isSome, H, I3, rfl, q⟩
theorem op_notInD (hu : X.A.units + 1 < cLine) : OpR X (compareOp .NotIn) (rInD true) := by
  intro pins s σ H x y v u Q I rx ry h
  obtain ⟨a, o, rfl, g, q⟩ := h
  obtain rfl : u = Value.ref a := ry
  exact d_notIn hu I g rx fun s3 I3 => ⟨.bl (!o.isSome), H, I3, rfl, q⟩
theorem snd_inD (neg : Bool) : Snd2 K ca (rInD neg) (oInD neg) := by
  intro G σ ρ st H vx vy x y d st' Q R rx ry e q
  unfold oInD at e
  cases h1 : keyOf x with
  | none => rw [h1] at e; cases e
  | some k =>
    cases h2 : hdct y st with
    | none => rw [h1, h2] at e; cases e
    | some kvs =>
      rw [h1, h2] at e
      cases e
      obtain ⟨a, vs, rfl, e2, e3⟩ := hdct_ok R ry h2
      have ek := keyOf_ok rx h1
      subst ek
      have z := q G H _ (Gm.le.refl _) R (.bl _)
      have eo : (valD k kvs).isSome = (valV vs k).isSome := by
        cases h3 : valD k kvs with
        | none =>
          rw [valD_none e3 h3]
          rfl
        | some d' =>
          obtain ⟨v, h4, _⟩ := valD_some e3 h3
          rw [h4]
          rfl
      rw [eo] at z
      exact ⟨a, _, rfl, DGet.k e2, z⟩
end
/-! ### chains -/
def xChain (m m' : V2) (a b c : XM DV) : XM DV := xBind a fun x => xBind b fun y ρ st => match m x y st with
  | some (.bl true, st1) => xBind c (fun z => xV (m' y z)) ρ st1
  | some (.bl false, st1) => .ok (.bl false, st1)
  | _ => .bad
/-! ### truth -/
def truD (d : DV) (st : Store) : Option Bool := match d with
  | .non => some false
  | .bl b => some b
  | .int i => some (i != 0)
  | .str z => if z.length ≤ sizeLine then some ((z.length : Int) != 0) else none
  | d => match rseq d st with
    | some xs => some (!xs.isEmpty)
    | none => match hdct d st with
      | some kvs => some (!kvs.isEmpty)
      | none => none
def xTru (a : XM DV) : XM Bool := xBind a fun d ρ st => match truD d st with
  | some b => .ok (b, st)
  | none => .bad
section
variable {X : Cx} {K : PySem.W.Frag} {ca : Str → Addr} {W : WX} {G : Gm} {σ : St} {ρ : Ev} {st : Store} {H : Hp} {a b c : Expr} {ma mb mc : XM DV} {pos : Pos}
theorem rd_chain {r r' : R2} {m m' : V2} {Q : VK} (s : Snd2 K ca r m) (s' : Snd2 K ca r' m') (h : rdE K ca W (xChain m m' ma mb mc) σ H Q) : tChain r r' (rdE K ca W ma) (rdE K ca W mb) (rdE K ca W mc) σ H Q := by
  refine rd_bind h fun G ρ st H1 vx x R rx o => ?_
  refine rd_of R (out_bind o fun G1 H2 vy y st1 le R1 ry o1 => ?_)
  cases e : m x y st1 with
  | none => simp only [e] at o1; exact o1.elim
  | some p =>
    obtain ⟨d, st2⟩ := p
    refine s G1 σ ρ st1 H2 vx vy x y d st2 _ R1 (rx.mono le) ry e fun G2 H3 v le2 R2 r2 => ?_
    simp only [e] at o1
    cases d with
    | bl k =>
      cases r2
      refine ⟨k, rfl, ?_⟩
      cases k with
      | false =>
        rw [if_neg (by simp)]
        exact o1 G2 H3 _ le2 R2 (.bl _)
      | true =>
        rw [if_pos rfl]
        refine rd_of R2 (out_bind (Out.le o1 le2) fun G3 H4 vz z st3 le3 R3 rz o3 => ?_)
        obtain ⟨d', st', e', q⟩ := out_xV o3
        exact s' G3 σ ρ st3 H4 vy vz y z d' st' Q R3 (ry.mono (le2.trans le3)) rz e' q
    | _ => exact o1.elim
theorem re_chain {op op' : CmpOp} {r r' : R2} {m m' : V2} (ho : OpR X (compareOp op) r) (ho' : OpR X (compareOp op') r') (s : Snd2 X.K ca r m) (s' : Snd2 X.K ca r' m') (ha : PE X a (rdE X.K ca W ma)) (hb : PE X b (rdE X.K ca W mb)) (hc : PE X c (rdE X.K ca W mc))
    (hm : lastMarks [op, op'] [b, c] = false) : PE X (.Compare a [op, op'] [b, c] pos) (rdE X.K ca W (xChain m m' ma mb mc)) := pe_weak (pe_chain ho ho' ha hb hc hm) fun _ _ _ q => rd_chain s s' q
theorem rt_chain {op op' : CmpOp} {r r' : R2} {m m' : V2} (ho : OpR X (compareOp op) r) (ho' : OpR X (compareOp op') r') (s : Snd2 X.K ca r m) (s' : Snd2 X.K ca r' m') (ha : PE X a (rdE X.K ca W ma)) (hb : PE X b (rdE X.K ca W mb)) (hc : PE X c (rdE X.K ca W mc))
    (hm : lastMarks [op, op'] [b, c] = false) : PT X (.Compare a [op, op'] [b, c] pos) (rdT X.K ca W (xAsB (xChain m m' ma mb mc))) := pt_weak (pt_chain ho ho' ha hb hc hm) fun _ _ _ q => rd_chain s s' (rd_asB q)
theorem rt_cmp {op : CmpOp} {r : R2} {m : V2} (ho : OpR X (compareOp op) r) (s : Snd2 X.K ca r m) (ha : PE X a (rdE X.K ca W ma)) (hb : PE X b (rdE X.K ca W mb)) (hm : behindInMarks op b = false) :
    PT X (.Compare a [op] [b] pos) (rdT X.K ca W (xAsB (x2 ma mb m))) := pt_weak (pt_cmpR ho ha hb hm) fun _ _ _ q => rd_x2 s (rd_asB q)
theorem RepVs.empty {vs : List V} {ds : List DV} (r : RepVs K G vs ds) : vs.isEmpty = ds.isEmpty := by
  cases r <;> rfl
theorem RepKs.empty {vs : List (Key × V)} {ds : List (Key × DV)} (r : RepKs K G vs ds) : vs.isEmpty = ds.isEmpty := by
  cases r <;> rfl
theorem truD_ok {v : V} {d : DV} {k : Bool} (R : RelS K ca G σ ρ st H) (r : RepV K G v d) (h : truD d st = some k) : TruV K v H k := by
  have big : (match rseq d st with
    | some xs => some (!xs.isEmpty)
    | none => match hdct d st with
      | some kvs => some (!kvs.isEmpty)
      | none => none) = some k → TruV K v H k := fun h => by
    cases e1 : rseq d st with
    | some xs =>
      rw [e1] at h
      obtain ⟨a, vs, rfl, e2, e3⟩ := rseq_ok R r e1
      have hk : (!xs.isEmpty) = k := by simpa using h
      rcases e2 with e2 | e2
      · exact .inl ⟨vs, e2, by rw [e3.empty]; exact hk.symm⟩
      · exact .inr (.inl ⟨vs, e2, by rw [e3.empty]; exact hk.symm⟩)
    | none =>
      rw [e1] at h
      cases e2 : hdct d st with
      | none => rw [e2] at h; cases h
      | some kvs =>
        rw [e2] at h
        obtain ⟨a, vs, rfl, e3, e4⟩ := hdct_ok R r e2
        have hk : (!kvs.isEmpty) = k := by simpa using h
        exact .inr (.inr ⟨vs, e3, by rw [e4.empty]; exact hk.symm⟩)
  cases r with
  | non => cases h; rfl
  | bl b => cases h; rfl
  | int i => cases h; rfl
  | str z =>
    unfold truD at h
    split at h <;> first | (rename_i hz; cases h; exact ⟨hz, rfl⟩) | skip
    all_goals simp_all
    all_goals first | exact ⟨h.1, h.2.symm⟩ | skip
  | _ => exact big h
theorem rt_tru (ha : PE X a (rdE X.K ca W ma)) (he : ∀ whole, isTrue a X.env whole = (do let v ← whole; standAt a.pos; holding [v] (truthy v))) : PT X a (rdT X.K ca W (xTru ma)) := pt_weak (pt_truth ha he) fun σ H Q q => by
  refine rd_bind q fun G ρ st H1 v d R r o => ?_
  cases e : truD d st with
  | none => simp only [e] at o; exact o.elim
  | some k =>
    simp only [e] at o
    exact ⟨k, truD_ok R r e, o G H1 k (Gm.le.refl _) R rfl⟩
end
/-! ### dict displays -/
def xPairs : List (XM DV × XM DV) → XM (List (DV × DV))
  | [] => xPure []
  | (k, v) :: r => xBind k fun x => xBind v fun y => xBind (xPairs r) fun ps => xPure ((x, y) :: ps)
def kvOf : List (DV × DV) → Option (List (Key × DV))
  | [] => some []
  | (k, v) :: r => match keyOf k, kvOf r with
    | some k', some r' => some ((k', v) :: r')
    | _, _ => none
def xDisp (mu : Bool) (prs : List (XM DV × XM DV)) : XM DV := xBind (xPairs prs) fun ps ρ st => match kvOf ps with
  | some kvs => if kvs.length ≤ 15 then .ok (newD mu (mergeKD [] kvs) st) else .bad
  | none => .bad
def xDict0 (mu : Bool) : XM DV := fun _ st => .ok (newD mu [] st)
inductive RepPs (K : PySem.W.Frag) (G : Gm) : List (V × V) → List (DV × DV) → Prop
  | nil : RepPs K G [] []
  | cons {k v : V} {x y : DV} {vs : List (V × V)} {ds : List (DV × DV)} : RepV K G k x → RepV K G v y → RepPs K G vs ds → RepPs K G ((k, v) :: vs) ((x, y) :: ds)
section
variable {X : Cx} {K : PySem.W.Frag} {ca : Str → Addr} {W : WX} {G : Gm} {σ : St} {ρ : Ev} {st : Store} {H : Hp} {pos : Pos}
theorem rd_pairs : ∀ {prs : List (XM DV × XM DV)} {σ : St} {H : Hp} {Q : List (V × V) → Hp → Prop}, rd K ca (RepPs K) W (xPairs prs) σ H Q → tPairs (prs.map fun p => (rdE K ca W p.1, rdE K ca W p.2)) σ H Q
  | [], σ, H, Q, h => by
    obtain ⟨G, ρ, st, R, o⟩ := h
    exact o G H [] (Gm.le.refl _) R .nil
  | (k, v) :: r, σ, H, Q, h => by
    refine rd_bind h fun G ρ st H1 vk x R rk o => ?_
    refine rd_of R (out_bind o fun G1 H2 vv y st1 le R1 rv o1 => ?_)
    refine rd_pairs (prs := r) (rd_of R1 (out_bind o1 fun G2 H3 ps ds st2 le2 R2 rp o2 => ?_))
    exact o2 G2 H3 _ (Gm.le.refl _) R2 (.cons (rk.mono (le.trans le2)) (rv.mono le2) rp)
theorem RepPs.kv : ∀ {vs : List (V × V)} {ds : List (DV × DV)} {kvs : List (Key × DV)}, RepPs K G vs ds → kvOf ds = some kvs → ∃ ws : List (Key × V), vs = ws.map (fun kv => (kV kv.1, kv.2)) ∧ RepKs K G ws kvs
  | _, _, _, .nil, h => by
    cases h
    exact ⟨[], rfl, .nil⟩
  | _, _, _, .cons (x := x) (ds := ds) a b c, h => by
    unfold kvOf at h
    cases e1 : keyOf x with
    | none => rw [e1] at h; cases h
    | some k =>
      cases e2 : kvOf ds with
      | none => rw [e1, e2] at h; cases h
      | some r =>
        rw [e1, e2] at h
        cases h
        obtain ⟨ws, rfl, h2⟩ := RepPs.kv c e2
        rw [keyOf_ok a e1]
        exact ⟨(k, _) :: ws, rfl, .cons b h2⟩
theorem ExcOut.aside {c : Str} {v : DV} {ρ' : Ev} {st' : Store} {p : Addr} {o : HO} (h : ExcOut K ca W G c v ρ' st') (hB : G.B p = none) : ExcOut K ca W { G with B := upd G.B p o } c v ρ' st' := fun G' σ' H' dd x le R b e r => by
  have hb : G.B dd = none := by
    have eB : G'.B = upd G.B p o := le.B
    have b' : upd G.B p o dd = none := by rw [← eB]; exact b
    by_cases z : dd = p
    · rw [z]; exact hB
    · rw [upd_ne z] at b'; exact b'
  have eG : G' = { G' with B := upd G.B p o } := by rw [← (show G'.B = upd G.B p o from le.B)]
  rw [eG] at R
  obtain ⟨R1, _, _, _⟩ := R.back1 hB
  exact h { G' with B := G.B } σ' H' dd x ⟨le.n, le.mu, le.F, rfl⟩ R1 hb e r.reB
/-- what stands aside is a dict from then on -/
theorem back_dict (mu : Bool) {G0 : Gm} {D : Addr} {vs : List (Key × V)} {ds : List (Key × DV)} {o : HO} (hB : G.B = upd G0.B D o) (h0 : G0.B D = none) (le : Gm.le { G0 with B := G.B } G)
    (R : RelS K ca G σ ρ st H) (r : RepKs K G vs ds) : ∃ G', G0.le G' ∧ RelS K ca G' σ ρ (newD mu ds st).2 (upd H D (.dK vs)) ∧ RepV K G' (.ref D) (newD mu ds st).1 := by
  have eG : G = { G with B := upd G0.B D o } := by rw [← hB]
  rw [eG] at R
  obtain ⟨R1, e1, e2, e3⟩ := (R.turn (o' := .dK vs)).back1 h0
  have le1 : G0.le { G with B := G0.B } := ⟨le.n, le.mu, le.F, rfl⟩
  have r2 : RepKs K { G with B := G0.B } vs ds := r.reB
  cases mu with
  | false =>
    obtain ⟨le3, R3⟩ := R1.froz1 e1 e2 h0 e3
    exact ⟨_, le1.trans le3, R3, .dct upd_same (r2.mono le3)⟩
  | true =>
    obtain ⟨le3, R3, r3⟩ := R1.cell1 (.dct ds) e1 e2 h0 e3 fun G' le' => ⟨vs, e1, r2.mono le'⟩
    exact ⟨_, le1.trans le3, R3, r3⟩
theorem rd_disp {mu : Bool} {prs : List (XM DV × XM DV)} {Q : VK} (h : rdE K ca W (xDisp mu prs) σ H Q) : tDisp (prs.map fun p => (rdE K ca W p.1, rdE K ca W p.2)) σ H Q := by
  obtain ⟨G, ρ, st, R, o⟩ := h
  intro p hp
  have hB : G.B p = none := R.gh.free hp
  refine rd_pairs ⟨{ G with B := upd G.B p (.dK []) }, ρ, st, R.put _ hp, ?_⟩
  unfold xDisp xBind at o
  cases e : xPairs prs ρ st with
  | bad => rw [e] at o; exact o
  | exc c v ρ' st' => rw [e] at o; exact ExcOut.aside o hB
  | ok q =>
    obtain ⟨ps, st1⟩ := q
    rw [e] at o
    intro G' H' vps le R' rp
    simp only at o
    cases e2 : kvOf ps with
    | none => rw [e2] at o; exact o.elim
    | some kvs =>
      rw [e2] at o
      simp only at o
      split at o
      · rename_i hl
        obtain ⟨ws, rfl, rk⟩ := rp.kv e2
        have hB' : G'.B = upd G.B p (.dK []) := le.B
        refine ⟨R'.gh _ _ (by rw [hB']; exact upd_same), ws, rfl, by rw [rk.len]; exact hl, ?_⟩
        obtain ⟨G2, le2, R2, r2⟩ := back_dict mu (G0 := G) hB' hB ⟨le.n, le.mu, le.F, rfl⟩ R' (RepKs.merge rk .nil)
        exact o G2 _ _ le2 R2 r2
      · exact o.elim
theorem re_dict0 {mu : Bool} : PE X (.Dict [] [] pos) (rdE X.K ca W (xDict0 mu)) := pe_weak pe_dnewK fun σ H Q q => by
  obtain ⟨G, ρ, st, R, o⟩ := q
  intro p hp
  obtain ⟨G', le, R', r'⟩ := newD_ok R mu hp (.nil : RepKs X.K G [] [])
  exact o G' _ _ le R' r'
theorem re_disp {mu : Bool} {keys : List (Option Expr)} {values : List Expr} {prs : List (XM DV × XM DV)} (h : PPs X pos keys values (prs.map fun p => (rdE X.K ca W p.1, rdE X.K ca W p.2))) (hall : keys.all (·.isSome) = true) (hl : keys.length = values.length) (h0 : keys ≠ [])
    (h15 : keys.length ≤ 15) : PE X (.Dict keys values pos) (rdE X.K ca W (xDisp mu prs)) := pe_weak (pe_disp h hall hl h0 h15) fun _ _ _ q => rd_disp q
end
end Mi

set_option maxHeartbeats 4000000
namespace Mi
open PySem PySem.Spec PyProof.Rows L2

/-! ### equality of data, with dicts -/
def allO : List (Option Bool) → Option Bool
  | [] => some true
  | none :: _ => none
  | some b :: r => match allO r with
    | some c => some (b && c)
    | none => none
def zipO (f : PyData → PyData → Option Bool) : List PyData → List PyData → List (Option Bool)
  | x :: xs, y :: ys => f x y :: zipO f xs ys
  | _, _ => []
def keyP : PyData → Option Key
  | .int i => some (.inl i)
  | .str s => some (.inr s)
  | _ => none
def valP (k : Key) : List (PyData × PyData) → Option PyData
  | [] => none
  | (k', v) :: r => if keyP k' = some k then some v else valP k r
def hitO (f : PyData → PyData → Option Bool) (ys : List (PyData × PyData)) : List (PyData × PyData) → Option Bool
  | [] => some true
  | (k, v) :: r => match keyP k, hitO f ys r with
    | some k, some b => (match valP k ys with
      | none => some false
      | some w => (match f v w with
        | some e => some (e && b)
        | none => none))
    | _, _ => none
def plainTo (n : Nat) (p : PyData) : Bool := p.plain && decide (p.depth ≤ n)
def cmpP : Nat → PyData → PyData → Option Bool
  | 0, _, _ => none
  | n + 1, p, q => if plainTo (n + 1) p && plainTo (n + 1) q then some (PyData.eqv p q) else match p, q with
    | .list xs, .list ys => if xs.length = ys.length then allO (zipO (cmpP n) xs ys) else some false
    | .tuple xs, .tuple ys => if xs.length = ys.length then allO (zipO (cmpP n) xs ys) else none
    | .dict xs, .dict ys => (match hitO (cmpP n) ys xs with
      | some b => some (decide (xs.length = ys.length) && b)
      | none => none)
    | _, _ => none
theorem keyP_PD (k : Key) : keyP (keyPD k) = some k := by
  cases k <;> rfl
section
variable {X : Cx} {pins : List (Addr × Obj)} {σ : St} {H : Hp} {s : Shared}
theorem Inv.dct (I : Inv X pins σ H s) {a : Addr} {kvs : List (Key × V)} (h : H a = some (.dK kvs)) : ∃ vs, KV kvs vs ∧ (a == sysModules) = false ∧ s.heap.DictOf (mixKind X.prog X.w) a vs := by
  obtain ⟨_, y, vs, r, d⟩ := (show ObjOk X.prog X.w H s.heap a (.dK kvs) from I.hok a _ h)
  exact ⟨vs, r, y, d⟩
theorem KV.keys : ∀ {kvs : List (Key × V)} {vs : List (Key × Value)}, KV kvs vs → kvs.map (·.1) = vs.map (·.1) := by
  intro kvs vs r
  unfold KV at r
  induction r with
  | nil => rfl
  | cons h _ ih => rw [List.map_cons, List.map_cons, h.1, ih]
theorem Inv.nodup (I : Inv X pins σ H s) {a : Addr} {kvs : List (Key × V)} (h : H a = some (.dK kvs)) : (kvs.map (·.1)).Nodup := by
  obtain ⟨vs, r, _, _, _, _, _, _, _, _, _, hn⟩ := Inv.dct I h
  rw [KV.keys r]
  exact hn
/-- one value reads in one way -/
theorem listTup_no (I : Inv X pins σ H s) {a : Addr} {xs ys : List V} (h : SqL X.K H a xs) (h' : SqT X.K H a ys) : False := by
  obtain ⟨its, r, ⟨o, n, e, c, _, _⟩, _⟩ := I.list h
  obtain ⟨its', r', ⟨o', e', c', _⟩, _⟩ := I.tuple h'
  rw [e] at e'
  cases e'
  rw [c] at c'
  simp at c'
theorem listDct_no (I : Inv X pins σ H s) {a : Addr} {xs : List V} {ys : List (Key × V)} (h : SqL X.K H a xs) (h' : H a = some (.dK ys)) : False := by
  obtain ⟨its, r, ⟨o, n, e, c, _, d⟩, _⟩ := I.list h
  obtain ⟨vs, _, _, o', es, ep, e', _, d', _⟩ := Inv.dct I h'
  rw [e] at e'
  cases e'
  rw [d] at d'
  cases d'
theorem tupDct_no (I : Inv X pins σ H s) {a : Addr} {xs : List V} {ys : List (Key × V)} (h : SqT X.K H a xs) (h' : H a = some (.dK ys)) : False := by
  obtain ⟨its, r, ⟨o, e, c, n, d⟩, _⟩ := I.tuple h
  obtain ⟨vs, _, _, o', es, ep, e', _, d', _⟩ := Inv.dct I h'
  rw [e] at e'
  cases e'
  rw [d] at d'
  cases d'
mutual
theorem Dq.one (I : Inv X pins σ H s) : ∀ {v : V} {p q : PyData}, Dq X.K H v p → Dq X.K H v q → p = q
  | _, _, _, .non, h => by cases h; rfl
  | _, _, _, .bl b, h => by cases h; rfl
  | _, _, _, .int i, h => by cases h; rfl
  | _, _, _, .str z, h => by cases h; rfl
  | _, _, _, .lst e rs, h => by
    cases h with
    | lst e' rs' =>
      obtain rfl := I.list_inj e e'
      rw [Dqs.one I rs rs']
    | tup e' _ => exact (listTup_no I e e').elim
    | dct e' _ => exact (listDct_no I e e').elim
  | _, _, _, .tup e rs, h => by
    cases h with
    | tup e' rs' =>
      obtain rfl := I.tuple_inj e e'
      rw [Dqs.one I rs rs']
    | lst e' _ => exact (listTup_no I e' e).elim
    | dct e' _ => exact (tupDct_no I e e').elim
  | _, _, _, .dct e rs, h => by
    cases h with
    | dct e' rs' =>
      rw [e] at e'
      cases e'
      rw [Dqk.one I rs rs']
    | lst e' _ => exact (listDct_no I e' e).elim
    | tup e' _ => exact (tupDct_no I e' e).elim
theorem Dqs.one (I : Inv X pins σ H s) : ∀ {v : List V} {p q : List PyData}, Dqs X.K H v p → Dqs X.K H v q → p = q
  | _, _, _, .nil, h => by cases h; rfl
  | _, _, _, .cons a b, h => by
    cases h with
    | cons a' b' => rw [Dq.one I a a', Dqs.one I b b']
theorem Dqk.one (I : Inv X pins σ H s) : ∀ {v : List (Key × V)} {p q : List (PyData × PyData)}, Dqk X.K H v p → Dqk X.K H v q → p = q
  | _, _, _, .nil, h => by cases h; rfl
  | _, _, _, .cons a b, h => by
    cases h with
    | cons a' b' => rw [Dq.one I a a', Dqk.one I b b']
end
theorem Dqs.len : ∀ {vs : List V} {ps : List PyData}, Dqs X.K H vs ps → vs.length = ps.length
  | _, _, .nil => rfl
  | _, _, .cons _ b => congrArg Nat.succ (Dqs.len b)
theorem Dqk.len : ∀ {vs : List (Key × V)} {ps : List (PyData × PyData)}, Dqk X.K H vs ps → vs.length = ps.length
  | _, _, .nil => rfl
  | _, _, .cons _ b => congrArg Nat.succ (Dqk.len b)
theorem Dqk.val {k : Key} : ∀ {vs : List (Key × V)} {ps : List (PyData × PyData)}, Dqk X.K H vs ps → (∀ p, valP k ps = some p → ∃ v, valV vs k = some v ∧ Dq X.K H v p) ∧ (valP k ps = none → valV vs k = none)
  | _, _, .nil => ⟨fun p h => (by cases h), fun _ => rfl⟩
  | _, _, .cons (k := k') (v := v) (d := d) a b => by
    obtain ⟨i1, i2⟩ := Dqk.val (k := k) b
    by_cases e : k' = k
    · refine ⟨fun p h => ?_, fun h => ?_⟩
      · unfold valP at h
        rw [keyP_PD, if_pos (by rw [e])] at h
        cases h
        exact ⟨_, valV_pos e, a⟩
      · unfold valP at h
        rw [keyP_PD, if_pos (by rw [e])] at h
        cases h
    · have ne : ¬ (some k' = some k) := fun z => e (Option.some.inj z)
      refine ⟨fun p h => ?_, fun h => ?_⟩
      · unfold valP at h
        rw [keyP_PD, if_neg ne] at h
        obtain ⟨w, h1, h2⟩ := i1 p h
        exact ⟨w, by rw [valV_neg e]; exact h1, h2⟩
      · unfold valP at h
        rw [keyP_PD, if_neg ne] at h
        rw [valV_neg e]
        exact i2 h
theorem valP_mem {k : Key} {d : PyData} : ∀ {vs : List (Key × V)} {ps : List (PyData × PyData)}, Dqk X.K H vs ps → (vs.map (·.1)).Nodup → (keyPD k, d) ∈ ps → valP k ps = some d
  | _, _, .nil, _, h => by cases h
  | _, _, .cons (k := k') (v := v) (vs := vs) (d := d') (ds := ds) a b, hn, h => by
    rw [List.map_cons, List.nodup_cons] at hn
    unfold valP
    rw [keyP_PD]
    rcases List.mem_cons.mp h with e | h
    · have e1 : keyPD k = keyPD k' := congrArg Prod.fst e
      have e2 : d = d' := congrArg Prod.snd e
      have ek : k = k' := by
        have z := congrArg keyP e1
        rw [keyP_PD, keyP_PD] at z
        exact Option.some.inj z
      rw [ek, e2, if_pos rfl]
    · have ne : k' ≠ k := fun e => hn.1 (by
        subst e
        have mem : ∀ {vs : List (Key × V)} {ps : List (PyData × PyData)}, Dqk X.K H vs ps → (keyPD k', d) ∈ ps → k' ∈ vs.map (·.1) := by
          intro vs ps hq
          induction ps generalizing vs with
          | nil => intro h; cases h
          | cons p ps ih =>
            intro h
            cases hq with
            | cons a b =>
              rw [List.map_cons]
              rcases List.mem_cons.mp h with e | h
              · have e1 := congrArg keyP (congrArg Prod.fst e)
                rw [keyP_PD] at e1
                simp only [keyP_PD] at e1
                rw [Option.some.inj e1]
                exact List.mem_cons_self
              · exact List.mem_cons_of_mem _ (ih b h)
        exact mem b h)
      rw [if_neg fun z => ne (Option.some.inj z)]
      exact valP_mem b hn.2 h
theorem plainTo_ok {n : Nat} {p : PyData} (h : plainTo n p = true) : p.plain = true ∧ p.depth ≤ n := by
  unfold plainTo at h
  rw [Bool.and_eq_true, decide_eq_true_eq] at h
  exact h
theorem allO_same {f : PyData → PyData → Option Bool} {vs : List V} {ps : List PyData} (ih : ∀ v p b, Dq X.K H v p → f p p = some b → b = true) (h : Dqs X.K H vs ps) : ∀ {b : Bool}, allO (zipO f ps ps) = some b → b = true := by
  induction ps generalizing vs with
  | nil => intro b e; cases e; rfl
  | cons p ps ihl =>
    intro b e
    cases h with
    | cons a c =>
      unfold zipO allO at e
      cases e1 : f p p with
      | none => rw [e1] at e; cases e
      | some x =>
        cases e2 : allO (zipO f ps ps) with
        | none => simp only [e1, e2] at e; cases e
        | some y =>
          simp only [e1, e2] at e
          cases e
          rw [ih _ p x a e1, ihl c e2]
          rfl
theorem hitO_same {f : PyData → PyData → Option Bool} {ys : List (PyData × PyData)} (ih : ∀ v p b, Dq X.K H v p → f p p = some b → b = true) : ∀ {vs : List (Key × V)} {ps : List (PyData × PyData)}, Dqk X.K H vs ps →
    (∀ k d, (keyPD k, d) ∈ ps → valP k ys = some d) → ∀ {b : Bool}, hitO f ys ps = some b → b = true
  | _, _, .nil, _, _, e => by cases e; rfl
  | _, _, .cons (k := k) (v := v) (d := d) (ds := ds) a c, hm, b, e => by
    unfold hitO at e
    rw [keyP_PD] at e
    cases e2 : hitO f ys ds with
    | none => simp only [e2] at e; cases e
    | some y =>
      simp only [e2, hm k d List.mem_cons_self] at e
      cases e1 : f d d with
      | none => rw [e1] at e; cases e
      | some x =>
        rw [e1] at e
        cases e
        rw [ih _ d x a e1, hitO_same ih c (fun k d h => hm k d (List.mem_cons_of_mem _ h)) e2]
        rfl
theorem cmp_same (I : Inv X pins σ H s) : ∀ (n : Nat) (v : V) (p : PyData) (b : Bool), Dq X.K H v p → cmpP n p p = some b → b = true
  | 0, _, _, _, _, e => by cases e
  | n + 1, v, p, b, h, e => by
    unfold cmpP at e
    split at e
    · rename_i hp
      rw [Bool.and_eq_true] at hp
      cases e
      exact SeqAt.eqv_refl_plain p (plainTo_ok hp.1).1
    · cases h with
      | lst _ rs =>
        simp only [if_pos] at e
        exact allO_same (cmp_same I n) rs e
      | tup _ rs =>
        simp only [if_pos] at e
        exact allO_same (cmp_same I n) rs e
      | @dct a kvs ds ea rs =>
        simp only at e
        cases e2 : hitO (cmpP n) ds ds with
        | none => rw [e2] at e; cases e
        | some y =>
          rw [e2] at e
          cases e
          rw [hitO_same (cmp_same I n) rs (fun k d hm => valP_mem rs (Inv.nodup I ea) hm) e2]
          simp
      | _ => cases e
end

section
variable {X : Cx} {pins : List (Addr × Obj)} {σ : St} {H : Hp} {s : Shared}
mutual
theorem Dq.dpp {K : PySem.W.Frag} {H : Hp} : ∀ {v : V} {p : PyData}, Dq K H v p → p.plain = true → Dp K H v p
  | _, _, .non, _ => .non
  | _, _, .bl b, _ => .bl b
  | _, _, .int i, _ => .int i
  | _, _, .str s, _ => .str s
  | _, _, .lst e rs, h => .lst e (Dqs.dpp rs (by simpa [PyData.plain] using h))
  | _, _, .tup e rs, h => .tup e (Dqs.dpp rs (by simpa [PyData.plain] using h))
  | _, _, .dct e rs, h => by simp [PyData.plain] at h
theorem Dqs.dpp {K : PySem.W.Frag} {H : Hp} : ∀ {vs : List V} {ps : List PyData}, Dqs K H vs ps → PyData.plainAll ps = true → DpAll K H vs ps
  | _, _, .nil, _ => .nil
  | _, _, .cons (d := d) (ds := ds) a b, h => by
    have h' : d.plain = true ∧ PyData.plainAll ds = true := by simpa [PyData.plainAll] using h
    exact .cons (Dq.dpp a h'.1) (Dqs.dpp b h'.2)
end
theorem allO_e {f : PyData → PyData → Option Bool} : ∀ {xs ys : List PyData} {k : Bool}, xs.length = ys.length → allO (zipO f xs ys) = some k →
    ∃ e : Nat → Bool, (∀ (j : Nat) (p q : PyData), xs[j]? = some p → ys[j]? = some q → f p q = some (e j)) ∧ (List.range xs.length).all e = k
  | [], [], k, _, h => by
    cases h
    exact ⟨fun _ => true, fun j p q h => by simp at h, rfl⟩
  | [], y :: ys, k, hl, _ => by cases hl
  | x :: xs, [], k, hl, _ => by cases hl
  | x :: xs, y :: ys, k, hl, h => by
    unfold zipO allO at h
    cases e1 : f x y with
    | none => rw [e1] at h; cases h
    | some b =>
      cases e2 : allO (zipO f xs ys) with
      | none => simp only [e1, e2] at h; cases h
      | some c =>
        simp only [e1, e2] at h
        cases h
        obtain ⟨e, h1, h2⟩ := allO_e (Nat.succ.inj hl) e2
        refine ⟨fun j => match j with
          | 0 => b
          | j + 1 => e j, fun j p q hp hq => ?_, ?_⟩
        · cases j with
          | zero =>
            simp at hp hq
            subst hp hq
            exact e1
          | succ j => exact h1 j p q (by simpa using hp) (by simpa using hq)
        · rw [List.length_cons, List.range_succ_eq_map, List.all_cons, List.all_map, ← h2]
          rfl
theorem vals_at {K : PySem.W.Frag} : ∀ {xs : List V} {us : List Value} {ps : List PyData} {j : Nat}, Vals xs us → Dqs K H xs ps → (h : j < us.length) → ∃ x p, RelV x us[j] ∧ ps[j]? = some p ∧ Dq K H x p
  | _, _, _, _, .nil, _, h => by simp at h
  | _, _, _, 0, .cons r _, .cons d _, h => ⟨_, _, r, rfl, d⟩
  | _, _, _, j + 1, .cons _ r, .cons _ d, h => by
    obtain ⟨x, p, h1, h2, h3⟩ := vals_at (j := j) r d (by simpa using h)
    exact ⟨x, p, by simpa using h1, by simpa using h2, h3⟩
open PySem.SeqAt (EqIn EqAt rcIn_lists rcIn_tuples)
theorem hits_in {A : Around} {f : PyData → PyData → Option Bool} (ih : ∀ (p q : PyData) (b : Bool) (x y : V) (v u : Value), Dq X.K H x p → Dq X.K H y q → RelV x v → RelV y u → f p q = some b → EqIn X.prog X.w A s v u b)
    {ls : List (Key × V)} {vb : List (Key × Value)} {ys : List (PyData × PyData)} (rb : KV ls vb) (db : Dqk X.K H ls ys) : ∀ {ks : List (Key × V)} {va : List (Key × Value)} {xs : List (PyData × PyData)} {r : Bool}, KV ks va → Dqk X.K H ks xs → hitO f ys xs = some r →
      PySem.W.KeqHitsIn X.prog X.w A s vb va r := by
  intro ks va xs r ra
  unfold KV at ra
  induction ra generalizing xs r with
  | nil =>
    intro dx h
    cases dx
    cases h
    exact .nil
  | @cons p q ps qs h t k =>
    intro dx e
    obtain ⟨key, v⟩ := q
    obtain ⟨key', x⟩ := p
    obtain ⟨h1, h2⟩ := h
    have h1' : key' = key := h1
    subst h1'
    cases dx with
    | cons a c =>
      rename_i dd ds
      unfold hitO at e
      rw [keyP_PD] at e
      cases e2 : hitO f ys ds with
      | none => simp only [e2] at e; cases e
      | some b =>
        simp only [e2] at e
        obtain ⟨i1, i2⟩ := Dqk.val (k := key') db
        have rr : RelO (valV ls key') (valueAt vb key') := rb.val key'
        cases e3 : valP key' ys with
        | none =>
          rw [e3] at e
          cases e
          rw [i2 e3] at rr
          refine .miss ?_
          cases e4 : valueAt vb key' with
          | none => rfl
          | some z =>
            rw [e4] at rr
            exact absurd rr (by intro z; cases z)
        | some w =>
          rw [e3] at e
          simp only at e
          cases e4 : f dd w with
          | none => rw [e4] at e; cases e
          | some z =>
            rw [e4] at e
            cases e
            obtain ⟨y, h3, h4⟩ := i1 w e3
            rw [h3] at rr
            obtain ⟨u, hu, ru⟩ := rr.some_of
            exact .hit hu (ih dd w z x y v u a h4 h2 ru e4) (k c e2)
theorem cmp_rc (I : Inv X pins σ H s) {A : Around} {n : Nat} (hu : A.units < cLine) (ih : ∀ (p q : PyData) (b : Bool) (x y : V) (v u : Value), Dq X.K H x p → Dq X.K H y q → RelV x v → RelV y u → cmpP n p q = some b → EqIn X.prog X.w A.in1 s v u b)
    {a b : Addr} {p q : PyData} {k : Bool} (hx : Dq X.K H (.ref a) p) (hy : Dq X.K H (.ref b) q) (hp : ¬ (plainTo (n + 1) p && plainTo (n + 1) q) = true) (e : cmpP (n + 1) p q = some k) (E Q : Value → Shared → Prop) (h : Q (.bool k) s) :
    wpAny (model X.prog X.w) A (compareOp .Eq (.ref a) (.ref b)) Q E s := by
  unfold cmpP at e
  rw [if_neg hp] at e
  cases hx with
  | @lst _ xs ps ea ra =>
    cases hy with
    | @lst _ ys qs eb rb =>
      simp only at e
      obtain ⟨us, r1, p1, _⟩ := I.list ea
      obtain ⟨ws, r2, p2, _⟩ := I.list eb
      have l1 := r1.length
      have l2 := r2.length
      have l3 := ra.len
      have l4 := rb.len
      split at e
      · rename_i hl
        obtain ⟨ef, h1, h2⟩ := allO_e hl e
        refine rcIn_lists (e := ef) p1.isList p2.isList (by rw [List.size_toArray, List.size_toArray]; omega) hu (fun j hj1 hj2 => ?_) ?_
        · obtain ⟨x, pp, m1, m2, m3⟩ := vals_at (j := j) r1 ra (by simpa using hj1)
          obtain ⟨y, qq, m4, m5, m6⟩ := vals_at (j := j) r2 rb (by simpa using hj2)
          have z := ih pp qq _ x y _ _ m3 m6 m1 m4 (h1 j pp qq m2 m5)
          simpa using z
        · rw [List.size_toArray, ← l1, l3, h2]
          exact h
      · rename_i hl
        cases e
        exact PySem.SeqAt.RcAt.lists_lengths p1.isList p2.isList (by rw [List.size_toArray, List.size_toArray]; simp; omega) hu X.prog X.w E Q h
    | _ => cases e
  | @tup _ xs ps ea ra =>
    cases hy with
    | @tup _ ys qs eb rb =>
      simp only at e
      obtain ⟨us, r1, p1, _⟩ := I.tuple ea
      obtain ⟨ws, r2, p2, _⟩ := I.tuple eb
      have l1 := r1.length
      have l2 := r2.length
      have l3 := ra.len
      have l4 := rb.len
      split at e
      · rename_i hl
        obtain ⟨ef, h1, h2⟩ := allO_e hl e
        refine rcIn_tuples (e := ef) p1 p2 hu (fun j hj1 hj2 => ?_) ?_
        · obtain ⟨x, pp, m1, m2, m3⟩ := vals_at (j := j) r1 ra (by simpa using hj1)
          obtain ⟨y, qq, m4, m5, m6⟩ := vals_at (j := j) r2 rb (by simpa using hj2)
          have z := ih pp qq _ x y _ _ m3 m6 m1 m4 (h1 j pp qq m2 m5)
          simpa using z
        · have e1 : min us.toArray.size ws.toArray.size = ps.length := by rw [List.size_toArray, List.size_toArray]; omega
          have e2 : (us.toArray.size == ws.toArray.size) = true := by rw [List.size_toArray, List.size_toArray]; simp; omega
          rw [e1, e2, h2, Bool.and_true]
          exact h
      · cases e
    | _ => cases e
  | @dct _ xs ps ea ra =>
    cases hy with
    | @dct _ ys qs eb rb =>
      simp only at e
      obtain ⟨va, r1, s1, d1⟩ := Inv.dct I ea
      obtain ⟨vb, r2, s2, d2⟩ := Inv.dct I eb
      cases e2 : hitO (cmpP n) qs ps with
      | none => rw [e2] at e; cases e
      | some r =>
        rw [e2] at e
        cases e
        refine PySem.W.keq_eqIn (knd := mixKind X.prog X.w) (r := r) s1 s2 d1 d2 hu (fun _ => hits_in ih r2 rb r1 ra e2) ?_
        have l1 := r1.length
        have l2 := r2.length
        have l3 := ra.len
        have l4 := rb.len
        have e3 : (va.length == vb.length) = decide (ps.length = qs.length) := by
          rw [← l1, ← l2, l3, l4]
          exact Bool.beq_eq_decide_eq _ _
        rw [e3]
        exact h
    | _ => cases e
theorem cmp_in (I : Inv X pins σ H s) : ∀ (n : Nat) (A : Around), A.units + n < cLine → ∀ (p q : PyData) (b : Bool) (x y : V) (v u : Value), Dq X.K H x p → Dq X.K H y q → RelV x v → RelV y u → cmpP n p q = some b → EqIn X.prog X.w A s v u b
  | 0, _, _, _, _, _, _, _, _, _, _, _, _, _, e => by cases e
  | n + 1, A, hu, p, q, b, x, y, v, u, hx, hy, rx, ry, e => by
    by_cases hp : (plainTo (n + 1) p && plainTo (n + 1) q) = true
    · unfold cmpP at e
      rw [if_pos hp] at e
      cases e
      rw [Bool.and_eq_true] at hp
      obtain ⟨h1, h2⟩ := plainTo_ok hp.1
      obtain ⟨h3, h4⟩ := plainTo_ok hp.2
      obtain ⟨as, r1⟩ := Dp.reads I p x v (hx.dpp h1) rx
      obtain ⟨bs, r2⟩ := Dp.reads I q y u (hy.dpp h3) ry
      exact (PySem.SeqAt.eqAt_plain p q A s v u as bs r1 r2 h1 h3 (by omega)).inModel _ _
    · have refs : ∃ a c, x = .ref a ∧ y = .ref c := by
        have e' := e
        unfold cmpP at e'
        rw [if_neg hp] at e'
        cases hx <;> first
          | (cases hy <;> first | exact ⟨_, _, rfl, rfl⟩ | cases e')
          | cases e'
      obtain ⟨a, c, rfl, rfl⟩ := refs
      cases (show v = Value.ref a from rx)
      cases (show u = Value.ref c from ry)
      by_cases hac : a = c
      · subst hac
        obtain rfl := Dq.one I hx hy
        rw [cmp_same I _ _ _ _ hx e]
        exact (PySem.SeqAt.EqAt.same _).inModel _ _
      · exact PySem.SeqAt.EqIn.of_refs hac fun E Q h => cmp_rc I (by omega) (cmp_in I n A.in1 (by show A.units + 1 + n < cLine; omega)) hx hy hp e E Q h
end
/-! ### == and != -/
def oEq : V2 := fun x y st => match toPD 40 st x, toPD 40 st y with
  | some p, some q => (match cmpP 50 p q with
    | some b => some (.bl b, st)
    | none => none)
  | _, _ => none
def isDct : PyData → Bool
  | .dict _ => true
  | _ => false
def oNe : V2 := fun x y st => match toPD 40 st x, toPD 40 st y with
  | some p, some q => if (plainTo 50 p && plainTo 50 q) || (isDct p && isDct q) then (match cmpP 50 p q with
    | some b => some (.bl (!b), st)
    | none => none) else none
  | _, _ => none
def rEqP (K : PySem.W.Frag) : R2 := fun x y H Q => ∃ p q b, Dq K H x p ∧ Dq K H y q ∧ cmpP 50 p q = some b ∧ Q (.bl b) H
def rNeP (K : PySem.W.Frag) : R2 := fun x y H Q => ∃ p q b, Dq K H x p ∧ Dq K H y q ∧ ((plainTo 50 p && plainTo 50 q) || (isDct p && isDct q)) = true ∧ cmpP 50 p q = some b ∧ Q (.bl (!b)) H
section
variable {X : Cx} {K : PySem.W.Frag} {ca : Str → Addr}
theorem op_eqP (hu : X.A.units + 64 < cLine) : OpR X (compareOp .Eq) (rEqP X.K) := by
  intro pins s σ H x y v u Q I rx ry h
  obtain ⟨p, q, b, hx, hy, e, h⟩ := h
  by_cases hp : (plainTo 50 p && plainTo 50 q) = true
  · unfold cmpP at e
    rw [if_pos hp] at e
    cases e
    rw [Bool.and_eq_true] at hp
    obtain ⟨h1, h2⟩ := plainTo_ok hp.1
    obtain ⟨h3, h4⟩ := plainTo_ok hp.2
    obtain ⟨as, r1⟩ := Dp.reads I p x v (hx.dpp h1) rx
    obtain ⟨bs, r2⟩ := Dp.reads I q y u (hy.dpp h3) ry
    exact PySem.SeqAt.eq_plain r1 r2 h1 h3 (by omega) ⟨.bl _, H, I, rfl, h⟩
  · have refs : ∃ a c, x = .ref a ∧ y = .ref c := by
      have e' := e
      unfold cmpP at e'
      rw [if_neg hp] at e'
      cases hx <;> first
        | (cases hy <;> first | exact ⟨_, _, rfl, rfl⟩ | cases e')
        | cases e'
    obtain ⟨a, c, rfl, rfl⟩ := refs
    cases (show v = Value.ref a from rx)
    cases (show u = Value.ref c from ry)
    exact cmp_rc I (by omega) (cmp_in I 49 X.A.in1 (by show X.A.units + 1 + 49 < cLine; omega)) hx hy hp e _ _ ⟨.bl _, H, I, rfl, h⟩
theorem kne_in {prog : Program} {w : World} {κ : Type} [DecidableEq κ] {knd : KeyKind prog w κ} {A : Around} {E : Value → Shared → Prop} {s : Shared} {a b : Addr} {ka kb : List (κ × Value)} {r : Bool} {Q : Value → Shared → Prop} (ha : (a == sysModules) = false) (hb : (b == sysModules) = false)
    (da : s.heap.DictOf knd a ka) (db : s.heap.DictOf knd b kb) (hu : A.units < cLine) (hits : ka.length = kb.length → PySem.W.KeqHitsIn prog w A.in1 s kb ka r) (h : Q (.bool (!(ka.length == kb.length && r))) s) :
    wpAny (model prog w) A (compareOp .NotEq (.ref a) (.ref b)) Q E s := by
  refine wpAny_richCompare_same_room (op := .NotEq) da.typeIs db.typeIs PySem.F.slot_dict_ne (wpAny_call_entry PySem.F.slot_dict_ne da.typeIs PySem.F.entry_dict_ne ?_ (PySem.F.args_dict_ne_2 _ _)) hu
  show wpAny _ _ (Builtin.Dict.dictSlotArgs "__ne__" ⟨[.ref a, .ref b], []⟩ >>= _) _ _ s
  refine wpAny_bind ?_
  unfold Builtin.Dict.dictSlotArgs
  refine wpAny_bind (wpAny_notOrdered_dict da.typeIs ?_)
  show wpAny _ _ (pure (Value.ref a, Value.ref b)) _ _ s
  refine wpAny_pure ?_
  refine wpAny_bind (wpAny_isInstance (T := "dict") db.typeIs PySem.F.sub_dict_dict ?_)
  simp only [Bool.not_true, Bool.false_eq_true, if_false]
  refine wpAny_bind (wpAny_pure (wpAny_bind (wpAny_pure ?_)))
  refine wpAny_bind (PySem.W.keq_samePairsIn ha hb da db hits ?_)
  refine wpAny_pure ⟨_, rfl, ?_, ?_⟩
  · exact fun x => nomatch x
  · simpa using h
theorem op_neP (hu : X.A.units + 64 < cLine) : OpR X (compareOp .NotEq) (rNeP X.K) := by
  intro pins s σ H x y v u Q I rx ry h
  obtain ⟨p, q, b, hx, hy, hc, e, h⟩ := h
  by_cases hp : (plainTo 50 p && plainTo 50 q) = true
  · unfold cmpP at e
    rw [if_pos hp] at e
    cases e
    rw [Bool.and_eq_true] at hp
    obtain ⟨h1, h2⟩ := plainTo_ok hp.1
    obtain ⟨h3, h4⟩ := plainTo_ok hp.2
    obtain ⟨as, r1⟩ := Dp.reads I p x v (hx.dpp h1) rx
    obtain ⟨bs, r2⟩ := Dp.reads I q y u (hy.dpp h3) ry
    exact PySem.SeqAt.ne_plain r1 r2 h1 h3 (by omega) ⟨.bl _, H, I, rfl, h⟩
  · have hd : (isDct p && isDct q) = true := by
      rcases Bool.or_eq_true_iff.mp hc with z | z
      · exact absurd z hp
      · exact z
    rw [Bool.and_eq_true] at hd
    unfold cmpP at e
    rw [if_neg hp] at e
    cases hx with
    | @dct a xs ps ea ra =>
      cases hy with
      | @dct c ys qs eb rb =>
        simp only at e
        cases (show v = Value.ref a from rx)
        cases (show u = Value.ref c from ry)
        obtain ⟨va, r1, s1, d1⟩ := Inv.dct I ea
        obtain ⟨vb, r2, s2, d2⟩ := Inv.dct I eb
        cases e2 : hitO (cmpP 49) qs ps with
        | none => rw [e2] at e; cases e
        | some r =>
          rw [e2] at e
          cases e
          refine kne_in (knd := mixKind X.prog X.w) (r := r) s1 s2 d1 d2 (by omega) (fun _ => hits_in (cmp_in I 49 X.A.in1 (by show X.A.units + 1 + 49 < cLine; omega)) r2 rb r1 ra e2) ?_
          have l1 := r1.length
          have l2 := r2.length
          have l3 := ra.len
          have l4 := rb.len
          have e3 : (va.length == vb.length) = decide (ps.length = qs.length) := by
            rw [← l1, ← l2, l3, l4]
            exact Bool.beq_eq_decide_eq _ _
          rw [e3]
          exact ⟨.bl _, H, I, rfl, h⟩
      | _ => cases hd.2
    | _ => cases hd.1
theorem snd_eqP : Snd2 K ca (rEqP K) oEq := by
  intro G σ ρ st H vx vy x y d st' Q R rx ry e q
  unfold oEq at e
  cases hx : toPD 40 st x with
  | none => rw [hx] at e; cases e
  | some p =>
    cases hy : toPD 40 st y with
    | none => rw [hx, hy] at e; cases e
    | some p' =>
      rw [hx, hy] at e
      simp only at e
      cases ec : cmpP 50 p p' with
      | none => rw [ec] at e; cases e
      | some b =>
        rw [ec] at e
        cases e
        exact ⟨p, p', b, toPD_ok R 40 x vx p hx rx, toPD_ok R 40 y vy p' hy ry, ec, q G H _ (Gm.le.refl _) R (.bl _)⟩
theorem snd_neP : Snd2 K ca (rNeP K) oNe := by
  intro G σ ρ st H vx vy x y d st' Q R rx ry e q
  unfold oNe at e
  cases hx : toPD 40 st x with
  | none => rw [hx] at e; cases e
  | some p =>
    cases hy : toPD 40 st y with
    | none => rw [hx, hy] at e; cases e
    | some p' =>
      rw [hx, hy] at e
      simp only at e
      split at e
      · rename_i hc
        cases ec : cmpP 50 p p' with
        | none => rw [ec] at e; cases e
        | some b =>
          rw [ec] at e
          cases e
          exact ⟨p, p', b, toPD_ok R 40 x vx p hx rx, toPD_ok R 40 y vy p' hy ry, hc, ec, q G H _ (Gm.le.refl _) R (.bl _)⟩
      · cases e
end
end Mi

set_option maxHeartbeats 4000000
namespace Mi
open PySem PySem.Spec PyProof.Rows L2

/-! ### in, of data; of a sign in a text -/
def itemsP : PyData → Option (List PyData)
  | .list xs => some xs
  | .tuple xs => some xs
  | _ => none
def oInP (neg : Bool) : V2 := fun x y st => match toPD 40 st x, toPD 40 st y with
  | some d, some c => (match itemsP c with
    | some xs => if PyData.plainAll xs && decide (PyData.depthAll xs ≤ 50) && d.plain then some (.bl (if neg then !(xs.any fun y => PyData.eqv y d) else xs.any fun y => PyData.eqv y d), st) else none
    | none => none)
  | _, _ => none
def rInP (K : PySem.W.Frag) (neg : Bool) : R2 := fun x y H Q => ∃ d c xs, Dq K H x d ∧ Dq K H y c ∧ itemsP c = some xs ∧ PyData.plainAll xs = true ∧ PyData.depthAll xs ≤ 50 ∧ d.plain = true ∧ Q (.bl (if neg then !(xs.any fun y => PyData.eqv y d) else xs.any fun y => PyData.eqv y d)) H
def oInC (neg : Bool) : V2 := fun x y st => match x, y with
  | .str ⟨⟨[c]⟩⟩, .str z => some (.bl (if neg then !decide (c ∈ z.cps.toList) else decide (c ∈ z.cps.toList)), st)
  | _, _ => none
def rInC (neg : Bool) : R2 := fun x y H Q => ∃ (c : Nat) (z : Str), x = .str ⟨#[c]⟩ ∧ y = .str z ∧ Q (.bl (if neg then !decide (c ∈ z.cps.toList) else decide (c ∈ z.cps.toList))) H
section
variable {X : Cx} {K : PySem.W.Frag} {ca : Str → Addr}
theorem items_plain {c : PyData} {xs : List PyData} (h : itemsP c = some xs) (p : PyData.plainAll xs = true) : c.plain = true := by
  cases c <;> first | (cases h; simpa [PyData.plain] using p) | cases h
theorem op_inP (hu : X.A.units + 64 < cLine) : OpR X (compareOp .In) (rInP X.K false) := by
  intro pins s σ H x y v u Q I rx ry h
  obtain ⟨d, c, xs, hx, hy, hi, hp, hd, pd, q⟩ := h
  obtain ⟨as, r1⟩ := Dp.reads I d x v (hx.dpp pd) rx
  obtain ⟨bs, r2⟩ := Dp.reads I c y u (hy.dpp (items_plain hi hp)) ry
  cases c with
  | list ys => cases hi; exact PySem.SeqAt.in_list_data r2 r1 hp pd (by omega) ⟨.bl _, H, I, rfl, q⟩
  | tuple ys => cases hi; exact PySem.SeqAt.in_tuple_data r2 r1 hp pd (by omega) ⟨.bl _, H, I, rfl, q⟩
  | _ => cases hi
theorem op_notInP (hu : X.A.units + 64 < cLine) : OpR X (compareOp .NotIn) (rInP X.K true) := by
  intro pins s σ H x y v u Q I rx ry h
  obtain ⟨d, c, xs, hx, hy, hi, hp, hd, pd, q⟩ := h
  obtain ⟨as, r1⟩ := Dp.reads I d x v (hx.dpp pd) rx
  obtain ⟨bs, r2⟩ := Dp.reads I c y u (hy.dpp (items_plain hi hp)) ry
  cases c with
  | list ys => cases hi; exact PySem.SeqAt.notIn_list_data r2 r1 hp pd (by omega) ⟨.bl _, H, I, rfl, q⟩
  | tuple ys => cases hi; exact PySem.SeqAt.notIn_tuple_data r2 r1 hp pd (by omega) ⟨.bl _, H, I, rfl, q⟩
  | _ => cases hi
theorem snd_inP (neg : Bool) : Snd2 K ca (rInP K neg) (oInP neg) := by
  intro G σ ρ st H vx vy x y d st' Q R rx ry e q
  unfold oInP at e
  cases hx : toPD 40 st x with
  | none => rw [hx] at e; cases e
  | some p =>
    cases hy : toPD 40 st y with
    | none => rw [hx, hy] at e; cases e
    | some c =>
      rw [hx, hy] at e
      simp only at e
      cases hi : itemsP c with
      | none => rw [hi] at e; cases e
      | some xs =>
        rw [hi] at e
        simp only at e
        split at e
        · rename_i hc
          rw [Bool.and_eq_true, Bool.and_eq_true, decide_eq_true_eq] at hc
          cases e
          exact ⟨p, c, xs, toPD_ok R 40 x vx p hx rx, toPD_ok R 40 y vy c hy ry, hi, hc.1.1, hc.1.2, hc.2, q G H _ (Gm.le.refl _) R (.bl _)⟩
        · cases e
theorem snd_inC (neg : Bool) : Snd2 K ca (rInC neg) (oInC neg) := by
  intro G σ ρ st H vx vy x y d st' Q R rx ry e q
  unfold oInC at e
  split at e
  · rename_i c z
    cases e
    cases rx
    cases ry
    exact ⟨c, z, rfl, rfl, q G H _ (Gm.le.refl _) R (.bl _)⟩
  · cases e
theorem op_inC : OpR X (compareOp .In) (rInC false) := op_inS
theorem op_notInC : OpR X (compareOp .NotIn) (rInC true) := op_notInS
/-! ### comparisons by the sign -/
def oCmp (op : CmpOp) : Option V2 := match op with
  | .Lt => some (oI (fun _ _ => true) fun i j => .bl (decide (i < j)))
  | .LtE => some (oI (fun _ _ => true) fun i j => .bl (decide (i ≤ j)))
  | .Gt => some (oI (fun _ _ => true) fun i j => .bl (decide (j < i)))
  | .GtE => some (oI (fun _ _ => true) fun i j => .bl (decide (j ≤ i)))
  | .Eq => some oEq
  | .NotEq => some oNe
  | .In => some (((oInP false).or (oInD false)).or (oInC false))
  | .NotIn => some (((oInP true).or (oInD true)).or (oInC true))
  | .Is => some (oIs false)
  | .IsNot => some (oIs true)
theorem oCmp_ok (hu : X.A.units + 64 < cLine) {op : CmpOp} {m : V2} (h : oCmp op = some m) : ∃ r, OpR X (compareOp op) r ∧ Snd2 X.K ca r m := by
  have hu1 : X.A.units + 1 < cLine := by omega
  cases op with
  | Lt => cases h; exact ⟨_, op_lt, snd_rI0 fun G i j => .bl _⟩
  | LtE => cases h; exact ⟨_, op_le, snd_rI0 fun G i j => .bl _⟩
  | Gt => cases h; exact ⟨_, op_gt, snd_rI0 fun G i j => .bl _⟩
  | GtE => cases h; exact ⟨_, op_ge, snd_rI0 fun G i j => .bl _⟩
  | Eq => cases h; exact ⟨_, op_eqP hu, snd_eqP⟩
  | NotEq => cases h; exact ⟨_, op_neP hu, snd_neP⟩
  | In => cases h; exact ⟨_, ((op_inP hu).or (op_inD hu1)).or op_inC, ((snd_inP false).or (snd_inD false)).or (snd_inC false)⟩
  | NotIn => cases h; exact ⟨_, ((op_notInP hu).or (op_notInD hu1)).or op_notInC, ((snd_inP true).or (snd_inD true)).or (snd_inC true)⟩
  | Is => cases h; exact ⟨_, op_isN, snd_is false⟩
  | IsNot => cases h; exact ⟨_, op_notN, snd_is true⟩
/-! ### signs in front -/
def oUn (op : UnaryOp) : Option (DV → Store → Option (DV × Store)) := match op with
  | .USub => some fun x st => match x with
    | .int i => some (.int (-i), st)
    | _ => none
  | _ => none
end
end Mi

set_option maxHeartbeats 4000000
namespace Mi
open PySem PySem.Spec PyProof.Rows L2
open PySem.W (kxs_mw KxsFacts)

/-! ### code that asks who runs it -/
structure PEA (X : Cx) (c : Code) (e : Expr) (t : TE) : Prop where
  run : ∀ (pins : List (Addr × Obj)) (s : Shared) (σ : L2.St) (H : Hp) (Q : VK), Inv X pins σ H s → t σ H Q → PySem.wpAt (model X.prog X.w) X.A c (eval e X.env) (EP X pins σ Q) X.xe s
structure PSA (X : Cx) (c : Code) (st : Stmt) (t : TS) : Prop where
  run : ∀ (pins : List (Addr × Obj)) (s : Shared) (σ : L2.St) (H : Hp) (D : Ends), Inv X pins σ H s → t D σ H → PySem.wpAt (model X.prog X.w) X.A c (exec st X.env) (SP X pins D) X.xe s
structure PSsA (X : Cx) (c : Code) (st : List Stmt) (t : TS) : Prop where
  run : ∀ (pins : List (Addr × Obj)) (s : Shared) (σ : L2.St) (H : Hp) (D : Ends), Inv X pins σ H s → t D σ H → PySem.wpAt (model X.prog X.w) X.A c (execs st X.env) (SP X pins D) X.xe s
section
variable {X : Cx} {c : Code} {st : Stmt} {rest : List Stmt} {t u : TS} {e : Expr} {te : TE} {pos : Pos}
theorem psA_of (h : PS X st t) : PSA X c st t := ⟨fun pins s σ H D I q => wpAt_of_wpAny (h.run pins s σ H D I q)⟩
theorem pssA_of (h : PSs X rest t) : PSsA X c rest t := ⟨fun pins s σ H D I q => wpAt_of_wpAny (h.run pins s σ H D I q)⟩
theorem pssA_cons (h1 : PSA X c st t) (h2 : PSsA X c rest u) : PSsA X c (st :: rest) (tSeq t u) := ⟨fun pins s σ H D I h => by
  refine ks_wpAt_execs_cons (ks_wpAt_mono (h1.run pins s σ H { D with nx := u D } I h) (fun f s1 q => ?_) fun _ _ x => x)
  cases f with
  | next =>
    obtain ⟨σ', H', I', q⟩ := q
    exact h2.run pins s1 σ' H' D I' q
  | ret v => exact q
  | brk => exact q
  | cont => exact q⟩
theorem psA_expr (he : PEA X c e te) (hs : swapsWith e none pos.line X.env = pure false) : PSA X c (.Expr e pos) (tDrop te) := ⟨fun pins s σ H D I h =>
  ks_wpAt_Expr_any (ks_wpAt_mono (he.run pins s σ H _ I h) (fun v s1 ⟨x, H1, I1, r1, q1⟩ => ⟨σ, H1, I1, q1⟩) fun _ _ x => x) I.quiet hs⟩
theorem psA_ret (he : PEA X c e te) : PSA X c (.Return (some e) pos) (tRet te) := ⟨fun pins s σ H D I h =>
  ks_wpAt_Return_some (ks_wpAt_mono (he.run pins s σ H _ I h) (fun v s1 ⟨x, H1, I1, r1, q1⟩ => ⟨x, σ, H1, I1, r1, q1⟩) fun _ _ x => x)⟩
theorem psA_set {i : Nat} {x : Str} {p : Pos} (hN : X.N.Nodup) (hi : X.N[i]? = some x) (hx : Loc X.env.scope x) (he : PEA X c e te) (hs : swapsWith e (some (.Name x p)) pos.line X.env = pure false) (hf : X.fn x = true ∨ X.env.scope.names.lookup x = some .local) :
    PSA X c (.Assign [.Name x p] e pos) (tAsg te (gName i)) := ⟨fun pins s σ H D I h =>
  ks_wpAt_Assign_Name (ks_wpAt_mono (he.run pins s σ H _ I h) (fun v s1 ⟨y, H1, I1, r1, q1⟩ => store_ok I1 hN hi hx r1 (fun s2 I2 => ⟨_, H1, I2, q1⟩) hf) fun _ _ x => x) hs⟩
end
/-- a def that closes over its class -/
structure ClD (P : Program) (K : PySem.W.Frag) (x qual : Str) (params : Arguments) (body : List Stmt) (scope : Scope) (D f cda cc : Addr) (fd : FuncData) : Prop where
  fn : ∃ oc od doc pm an ct osl kV, fd = PySem.W.fnX x qual params body scope [("__class__", cc)] .none kV doc pm an (.ref cda) ct ∧ K.lookup f = some ⟨oc, od, .func fd, osl⟩
  cd : PySem.W.codeIn K (.ref cda) qual = true
  file : ∃ ccl cdd vs ccs file tf, K.lookup cda = some ⟨ccl, cdd, .fields vs, ccs⟩ ∧ vs[2]? = some (.str file tf) ∧ ((P.main.file : Str) == file) = true
  cell : ∃ cl cld csl, K.lookup cc = some ⟨cl, cld, .cell (some (.ref D)), csl⟩
  cls : ∃ cdD, PySem.W.clsIn K D = some cdD
  sup : PySem.W.nsIn K mainGlobals "super" = some none
  top : (P.main.scope.names.lookup ("super" : Str)).isSome = false
  kp : PySem.W.keepIn K (.ref f) = true
abbrev nfOf (x qual : Str) (params : Arguments) (body : List Stmt) (scope : Scope) (cda cc : Addr) : NdefX.NF := ⟨x, qual, params, body, scope, [("__class__", cc)], cda⟩
section
variable {P : Program} {w : World} {K : PySem.W.Frag} {mg : Str → Option Value} {base : Heap} {x qual : Str} {params : Arguments} {body : List Stmt} {scope : Scope} {D f cda cc : Addr} {fd : FuncData} {CX : CXT} {N ps : List Str} {k : Nat} {sp : Sp}
/-- THE RULE for such a def -/
theorem ClD.run (F : ClD P K x qual params body scope D f cda cc fd) (S : NdefX.NScope N ps ["__class__"] scope) (len : ∀ vs H Q E, sp vs H Q E → vs.length = ps.length) {A : Around} {outer : List Env} {s : Shared} {H : Hp} {args : Args} {us : List Value} {vs : List V} {Q : VK} {E : XK}
    (hr : Room (k + 1) A) (e0 : Env0 P w K mg base A outer s H) (hb : BindsTo s fd args (ps.zip us)) (r : Vals vs us) (hsp : sp vs H Q E)
    (hbody : Room k (A.deeper (NdefX.envF (nfOf x qual params body scope cda cc) f s.heap.objs.size)) →
      ∃ t, PSsA (NdefX.ncx CX P w K mg base N (nfOf x qual params body scope cda cc) f A outer s H E) (.func body (NdefX.envF (nfOf x qual params body scope cda cc) f s.heap.objs.size)) body t ∧ t { nx := fun _ H' => Q .non H', rt := Q } (NdefX.startF N vs [none]) H) :
    codeAny (model P w) A (.call (.ref f) args) (CR CX outer P w H s Q E) s := by
  obtain ⟨oc, od, doc, pm, an, ct, osl, kV, rfl, lk⟩ := F.fn
  have hl := len _ _ _ _ hsp
  have KX : K.In s.heap := e0.mod.kin.keeps fun b o e => (e0.bs b o e).1
  have lim : s.heap.NoLimit := e0.mod.nolimit.keeps fun b o e => (e0.bs b o e).1
  obtain ⟨t, ht, hq⟩ := hbody (hr.deeper _)
  refine ks_codeAny_call_defAt hr.depth (KX _ _ lk) rfl lim (PySem.W.codeRec_of KX F.cd) rfl hb S.nocell (fun ⟨n, v⟩ hy => S.par n (List.of_mem_zip hy).1) (fun h₁ hns kp => ?_) S.co S.gen S.kind
  obtain ⟨cl, cld, csl, hcell⟩ := F.cell
  have hcc := KX _ _ hcell
  have hn : H cc = none := (e0.bs cc _ (e0.mod.kin _ _ hcell)).2
  have C : NdefX.CellsAt (nfOf x qual params body scope cda cc).cl ["__class__"] [none] s.heap H := by
    have one : ∀ {y : Str} {c : Addr}, List.lookup y [(("__class__" : Str), cc)] = some c → y = "__class__" ∧ c = cc := fun {y c} e => by
      rw [List.lookup_cons] at e
      cases hy : y == ("__class__" : Str) with
      | true => rw [hy] at e; exact ⟨beq_iff_eq.mp hy, (Option.some.inj e).symm⟩
      | false => rw [hy] at e; cases e
    refine ⟨rfl, fun y c e => ?_, fun y z c e1 e2 => ?_, fun i y e => ?_⟩
    · obtain ⟨rfl, rfl⟩ := one e
      exact ⟨hn, _, ⟨_, hcc, rfl⟩⟩
    · rw [(one e1).1, (one e2).1]
    · cases i with
      | zero =>
        cases e
        exact ⟨cc, by simp [List.lookup], fun v z => by cases z⟩
      | succ i => simp at e
  have I : Inv (NdefX.ncx CX P w K mg base N (nfOf x qual params body scope cda cc) f A outer s H E) [] (NdefX.startF N vs [none]) H { s with heap := h₁, toks := s.toks + (ps.zip us).length } := NdefX.inv_startN S hr.hd e0 hl r C hns kp
  refine ks_wpAt_mono (ht.run [] _ (NdefX.startF N vs [none]) H _ I hq) (fun fl s' hs => ?_) fun e s' hs => hs
  have fin : ∀ {σ' : L2.St} {H' : Hp} {v : V} {u : Value}, Inv (NdefX.ncx CX P w K mg base N (nfOf x qual params body scope cda cc) f A outer s H E) [] σ' H' s' → L2.RelV v u → Q v H' → CE outer P w H s Q u s' :=
    fun {σ' H' v u} J rv q => ⟨v, H', J.os, J.bare, J.base, J.hok, rv, q⟩
  cases fl with
  | ret u =>
    obtain ⟨v, σ', H', J, rv, q⟩ := hs
    exact fin J rv q
  | next =>
    obtain ⟨σ', H', J, q⟩ := hs
    exact fin (v := V.non) (u := Value.none) J rfl q
  | brk =>
    obtain ⟨_, _, _, q⟩ := hs
    exact False.elim q
  | cont =>
    obtain ⟨_, _, _, q⟩ := hs
    exact False.elim q
end
end Mi

set_option maxHeartbeats 4000000
namespace Mi
open PySem PySem.Spec PyProof.Rows L2
open PySem.W (kxs_mw KxsFacts ks_superObj)

/-! ### super() -/
/-- what the running context tells -/
structure SupAt (X : Cx) (body : List Stmt) (D f cda cc : Addr) (i : Nat) : Prop where
  def_ : ∃ x qual params scope fd ar, ClD X.prog X.K x qual params body scope D f cda cc fd ∧ (params.posonlyargs ++ params.args).head? = some ar ∧ X.N[i]? = some ar.arg ∧ X.env.scope.names.lookup ar.arg = some .local
  ks : X.env.kindOf "super" = some .globalImplicit
  kc : X.env.kindOf "__class__" = some .free
  fu : X.env.func = some f
  co : X.env.code = .ref cda
  ce : X.env.cells.lookup ("__class__" : Str) = some cc
  mg : X.mg "super" = none
section
variable {X : Cx} {body : List Stmt} {D f cda cc : Addr} {i : Nat} {pins : List (Addr × Obj)} {σ : L2.St} {H : Hp} {s : Shared}
theorem sup_base {p0 p1 : Pos} {attr : Str} {whole : Sem Value} {Q : Value → Shared → Prop} {a C : Addr} {ox : Obj} (U : SupAt X body D f cda cc i) (I : Inv X pins σ H s) (hat : (attr == ("__class__" : Str)) = false) (hs : σ[i]? = some (some (.ref a)))
    (hx : s.heap.get? a = some ox) (hxc : ox.cls = .ref C) (hno : PySem.W.notCls ox = true) (hsub : PySem.W.mroIn X.K C (.ref D) = some true)
    (h : ∀ so h' t', (∀ b o, s.heap.get? b = some o → h'.get? b = some o) → so = s.heap.objs.size → h'.get? so = some (ks_superObj D a C) → Q (.ref so) { s with heap := h', toks := t' }) :
    PySem.wpAt (model X.prog X.w) X.A (.func body X.env) (attributeBase (.Call (.Name "super" p0) [] [] p1) attr X.env whole) Q X.xe s := by
  obtain ⟨x, qual, params, scope, fd, ar, F, hp, hN, hl⟩ := U.def_
  obtain ⟨oc, od, doc, pm, an, ct, osl, kV, rfl, lk⟩ := F.fn
  obtain ⟨ccl, cdd, vs, ccs, file, tf, lc, hvs, hfile⟩ := F.file
  obtain ⟨cl, cld, csl, hcell⟩ := F.cell
  obtain ⟨cdD, hD⟩ := F.cls
  have KX : PySem.W.Frag.In X.K s.heap := I.kIn
  obtain ⟨oD, hD1, hD2⟩ : ∃ oD, s.heap.get? D = some oD ∧ oD.data = .cls cdD := by
    unfold PySem.W.clsIn at hD
    split at hD
    · rename_i c d cd' sl ho
      cases hD
      exact ⟨_, KX _ _ ho, rfl⟩
    · cases hD
  refine ks_wpAt_super_base (env := X.env) U.ks U.kc hat U.fu (KX _ _ lk) rfl hp U.co (KX _ _ lc) rfl hvs hfile F.top ?_
  obtain ⟨mb, b1, b2⟩ := I.mod.blt
  refine PySem.W.ks_loadName_global I.ok.kind U.ks (PySem.Calls.loadGlobal_builtin (by rw [I.ok.glob]; exact I.mod.glob.keeps I.bk) U.mg (by rw [I.ok.blt]; exact b1.keeps I.bk) ((b2 "super" (by decide)).trans (by first | rfl | kernel_rfl)) ⟨rfl, ?_⟩)
  refine wpAny_loadName_free I.ok.kind U.kc U.ce ⟨_, KX _ _ hcell, rfl⟩ ?_
  obtain ⟨m, hn, hlk⟩ := I.loc
  obtain ⟨u, ru, look⟩ := hlk i ar.arg (.ref a) hN hs (.inl hl)
  obtain rfl : u = Value.ref a := ru
  have hm : m ar.arg = some (.ref a) := by
    rcases look with ⟨_, hm⟩ | ⟨hk, _⟩
    · exact hm
    · have hl' : X.env.kindOf ar.arg = some .local := hl
      rcases hk with hk | hk <;> (rw [hl'] at hk; cases hk)
  refine wpAny_loadName_local I.ok.kind hl hn hm ?_
  refine ks_wpAny_isType_cls hD1 hD2 ⟨rfl, ?_⟩
  obtain ⟨hh, g, d, t, os⟩ := s
  refine ks_wpAny_call_super hD1 hD2 hx hxc (fun c e => ?_) (PySem.W.looks_mroIn KX hsub) (fun h' e k => h _ h' t k rfl e)
  unfold PySem.W.notCls at hno
  rw [e] at hno
  exact Bool.noConfusion hno
end
/-! ### super().__init__(..) of an exception over ValueError -/
structure OexS (K : PySem.W.Frag) (C D : Addr) : Prop where
  o : OexC K C
  mro : PySem.W.mroIn K C (.ref D) = some true
  sup : PySem.W.ks_superIn K C D "__init__" = some (some (.builtin "ValueError.__init__"))
  ve : PySem.W.subIn K (.ref C) (.type "ValueError") = some true
def tSupX (K : PySem.W.Frag) (i : Nat) (D : Addr) (ta : TA) : TE := fun σ H Q => ∃ a C : Addr, σ[i]? = some (some (.ref a)) ∧ H a = some (exo a C none) ∧ OexS K C D ∧ ta σ H fun vs H1 => vs.length ≤ 1000 ∧ H1 a = some (exo a C none) ∧ Q .non H1
section
variable {X : Cx} {body : List Stmt} {D f cda cc : Addr} {i : Nat}
theorem pea_supX {p0 p1 ap pos : Pos} {e : Expr} {es : List Expr} {ta : TA} (U : SupAt X body D f cda cc i) (ho : PySem.W.nsIn X.K PySem.cStatics "thirdparty.any" = some none) (ha : PA X (e :: es) ta)
    (he : starEach (e :: es) X.env = (false, eval e X.env) :: starEach es X.env) (hpl : (backTo pos (starEach es X.env)).any (·.1) = false)
    (hf : eval (.Call (.Attribute (.Call (.Name "super" p0) [] [] p1) "__init__" ap) (e :: es) [] pos) X.env = (do
      let ov ← attributeBase (.Call (.Name "super" p0) [] [] p1) "__init__" X.env (eval (.Call (.Name "super" p0) [] [] p1) X.env)
      standAt ap.atName
      let (f, first) ← holding [ov] (getMethod ov "__init__" (plOf (.Call (.Name "super" p0) [] [] p1) X.env))
      callWith pos f first (backTo pos (starEach (e :: es) X.env)) [])) :
    PEA X (.func body X.env) (.Call (.Attribute (.Call (.Name "super" p0) [] [] p1) "__init__" ap) (e :: es) [] pos) (tSupX X.K i D ta) := ⟨fun pins s σ H Q I h => by
  obtain ⟨a, C, hs, ea, O, h⟩ := h
  obtain ⟨t1, hoe⟩ := exo_at I.hok ea
  refine ks_wpAt_MethodCall (pl := plOf (.Call (.Name "super" p0) [] [] p1) X.env) ?_ hf
  refine sup_base U I (by decide) hs hoe rfl rfl O.mro fun so h' t' k hso hs' => ?_
  have I1 : Inv X pins σ H { s with heap := h', toks := t' } := I.kept k
  have KX := I1.kIn
  have hx1 : h'.get? a = some _ := k _ _ hoe
  obtain ⟨nm, q, N, bs, bm, sn, sub, ab, col, dd, k0, k1, k2, k3, k5, hC, hbm⟩ := O.o.cls
  have hcl : PySem.W.clsIn X.K C = some { name := nm, bases := bs, mro := .ref C :: bm, ns := N, qualname := q, hasDict := true, slotNames := sn, subclasses := sub, abstract := ab, collection := col, hasDel := false } := by unfold PySem.W.clsIn; rw [hC] <;> rfl
  have IA : PySem.W.InstAt h' a { cls := .ref C, dict := none, data := .fields #[.ref t1, .none, .none, .none, .bool false, .none] } C none := ⟨hx1, rfl, rfl, trivial⟩
  have hI : PySem.W.Looks (model X.prog X.w) h' (isInstance (.ref a) (.type "ValueError")) true := IA.type.andThen (PySem.W.looks_subIn KX O.ve)
  have hsup := O.sup
  unfold PySem.W.ks_superIn at hsup
  rw [hcl] at hsup
  obtain ⟨hh, g, d, tk, os⟩ := s
  refine PySem.W.kxs_getMethod PySem.W.kxs_ValueError hs' (PySem.W.looks_opaque KX ho) (l₀ := .ref C :: bm) ?_ rfl KX hsup hI (PySem.W.ks_ne KX IA hcl) (by decide) ?_
  · exact fun A Q E s k q => wpAny_bind ((PySem.W.looks_clsIn KX hcl) A _ E s k (wpAny_pure q))
  -- the wrapper stands; the arguments
  have k2' : ∀ b o, h'.get? b = some o → (h'.push (kxs_mw "ValueError.__init__" a)).get? b = some o := fun b o e => Heap.get?_push_of_some _ e
  have I2 : Inv X pins σ H ⟨h'.push (kxs_mw "ValueError.__init__" a), g, d, t' + 1, os⟩ := I1.kept (t' := t' + 1) k2'
  have hw : (h'.push (kxs_mw "ValueError.__init__" a)).get? h'.objs.size = some (kxs_mw "ValueError.__init__" a) := Heap.get?_push_at rfl rfl
  have fresh : H h'.objs.size = none := I1.hok.fresh (Nat.le_refl _)
  have FP := I1.fpOk (Nat.le_refl _) fresh
  have I3 : Inv X (pins ++ [(h'.objs.size, kxs_mw "ValueError.__init__" a)]) σ H ⟨h'.push (kxs_mw "ValueError.__init__" a), g, d, t' + 1, os⟩ := by
    refine I2.pins_of fun p hp => ?_
    rcases List.mem_append.mp hp with z | z
    · exact I2.pin p (List.mem_append_right _ z)
    · rcases List.mem_singleton.mp z with rfl
      obtain ⟨f0, f1, f2, _⟩ := FP
      exact ⟨hw, f0, f1, f2, fun v z => by cases z⟩
  have ht : ta σ H _ := h
  show wpAny _ _ (callWith pos (.ref h'.objs.size) [] (backTo pos (starEach (e :: es) X.env)) []) _ _ _
  rw [he]
  refine PySem.W.kxs_callWith (i := "ValueError.__init__") (x := a) (by show (false || (backTo pos (starEach es X.env)).any (·.1)) = false; rw [hpl]; rfl) ?_
  have hrun := ha.run pos _ _ σ H _ I3 ht
  rw [he] at hrun
  refine PySem.Calls.evalArgs_plain (thn hrun fun us s1 ⟨vs, H1, I4, rv, hz, ea1, q1⟩ => ?_)
  have hu := (I4.pin (h'.objs.size, kxs_mw "ValueError.__init__" a) (List.mem_append_right _ (List.mem_append_right _ (List.mem_singleton.mpr rfl)))).1
  refine ⟨hu, ?_⟩
  show wpAny _ _ (call (.ref h'.objs.size) us) _ _ _
  have I5 : Inv X pins σ H1 s1 := I4.pins_of fun p hp => I4.pin p (List.mem_append_right _ (List.mem_append_left _ hp))
  obtain ⟨t3, ho3⟩ := exo_at I5.hok ea1
  have hus : us.length ≤ sizeLine := by
    rw [← rv.length, sizeLine_eq]
    omega
  have hCC := I5.kIn _ _ hC
  obtain ⟨hh1, g1, d1, tk1, os1⟩ := s1
  refine wpAny_call (codeAny_of_tree ?_)
  show wpAny _ X.A.in1 (callAny (.ref h'.objs.size) ⟨us, []⟩) _ _ _
  simp only [callAny]
  refine wpAny_bind (wpAny_load hu ?_)
  simp only [kxs_mw, show (Value.type "method-wrapper" == Value.type "method" || Value.type "method-wrapper" == Value.type "builtin_function_or_method" || Value.type "method-wrapper" == Value.type "method-wrapper") = true by decide, if_true]
  refine PySem.W.KFB.if_so (by decide) ?_
  refine wpAny_bind (PySem.W.check_bound_init F.excBase_ValueError.toExcCallFacts hCC ho3 rfl ?_)
  refine wpAny_bind (wpAny_pure (wpAny_pure ?_))
  refine ⟨plainId_quiet F.excBase_ValueError.init.plain _, codeAny_builtin F.excBase_ValueError.initEntry ?_⟩
  refine PySem.W.exc_init_tree (cls := .ref C) (t0 := t3) (dv := none) (c2 := .none) (c3 := .none) (b4 := .bool false) ho3 hus fun h2 k3' hx2 _ => ?_
  have J := I5.write (t' := tk1) (x := a) (e := a) (o := exo a C none) (by rw [ea1]; exact True.intro) (.inl rfl) k3' ⟨_, hx2⟩ (exo_ok hx2)
  have eu : upd H1 a (exo a C none) = H1 := by
    funext b
    by_cases hb : b = a
    · rw [hb, upd_same, ea1]
    · rw [upd_ne hb]
  rw [eu] at J
  exact ⟨.non, H1, J, rfl, q1⟩⟩
end
end Mi

set_option maxHeartbeats 4000000
namespace Mi
open PySem PySem.Spec PyProof.Rows L2

/-! ### class BoxError(ValueError): def __init__(self, at): super().__init__(at); self.at = at -/
def boxBody (p0 p1 p2 p3 p4 p5 p6 p7 p8 p9 : Pos) : List Stmt :=
  [.Expr (.Call (.Attribute (.Call (.Name "super" p0) [] [] p1) "__init__" p2) [.Name "at" p3] [] p4) p5, .Assign [.Attribute (.Name "self" p6) "at" p7] (.Name "at" p8) p9]
def spBox (K : PySem.W.Frag) (D : Addr) : Sp := fun vs H Q _ => ∃ (a C : Addr) (y : V), vs = [.ref a, y] ∧ H a = some (exo a C none) ∧ OexS K C D ∧ PySem.W.findIn K (.ref C) "at" = some none ∧
  ∀ dx, H dx = none → dx ≠ a → Q .non (upd (upd H dx (exd dx [("at", y)])) a (exo a C (some dx)))
def boxN : List Str := ["self", "at", "__class__"]
section
variable {P : Program} {w : World} {K : PySem.W.Frag} {mg : Str → Option Value} {base : Heap} {params : Arguments} {scope : Scope} {D f cda cc : Addr} {fd : FuncData} {p0 p1 p2 p3 p4 p5 p6 p7 p8 p9 : Pos} {qual : Str}
theorem fnBox (F : ClD P K "__init__" qual params (boxBody p0 p1 p2 p3 p4 p5 p6 p7 p8 p9) scope D f cda cc fd) (hs : NdefX.nscB boxN ["self", "at"] ["__class__"] scope = true) (hp : (params.posonlyargs ++ params.args).head?.map (·.arg) = some "self")
    (h1 : scope.names.lookup ("super" : Str) = some .globalImplicit) (ho : PySem.W.nsIn K PySem.cStatics "thirdparty.any" = some none) (hm : mg "super" = none) (hl : (p2.endLine == p4.line) = true) : FnOk P w K mg base C8.CX0 1 f fd ["self", "at"] (spBox K D) := by
  have S := NdefX.nscope_by hs
  have len : ∀ vs H Q E, spBox K D vs H Q E → vs.length = (["self", "at"] : List Str).length := fun vs H Q E ⟨a, C, y, e, _⟩ => by rw [e]; rfl
  refine ⟨len, fun A outer s H args us vs Q E hr e0 hb r hsp => F.run S len hr e0 hb r hsp fun hr' => ?_⟩
  obtain ⟨a, C, y, rfl, ea, O, hno, q⟩ := hsp
  obtain ⟨ar, har, hname⟩ := Option.map_eq_some_iff.mp hp
  have U : SupAt (NdefX.ncx C8.CX0 P w K mg base boxN (nfOf "__init__" qual params (boxBody p0 p1 p2 p3 p4 p5 p6 p7 p8 p9) scope cda cc) f A outer s H E) (boxBody p0 p1 p2 p3 p4 p5 p6 p7 p8 p9) D f cda cc 0 :=
    ⟨⟨_, _, _, _, fd, ar, F, har, by rw [hname]; rfl, by rw [hname]; exact S.par "self" (by simp)⟩, h1, S.frk "__class__" (by simp), rfl, rfl, (by show List.lookup ("__class__" : Str) [(("__class__" : Str), cc)] = some cc; simp [List.lookup]), hm⟩
  have hv : ∀ {x : Str} {i : Nat} {p : Pos}, boxN[i]? = some x → scope.names.lookup x = some .local → (x == ("__debug__" : Str)) = false → (x == ("__classdict__" : Str)) = false → PE (NdefX.ncx C8.CX0 P w K mg base boxN (nfOf "__init__" qual params (boxBody p0 p1 p2 p3 p4 p5 p6 p7 p8 p9) scope cda cc) f A outer s H E) (.Name x p) (tVar i) :=
    fun hi hk d1 d2 => pe_var hi (.inl hk) d1 d2
  have lself := S.par "self" (by simp)
  have lat := S.par "at" (by simp)
  refine ⟨_, pssA_cons (psA_expr (pea_supX U ho (pa_cons (hv (x := "at") (i := 1) rfl lat (by decide) (by decide)) pa_nil rfl) rfl rfl ?_) rfl) (pssA_of (pss_one (ps_ost (hv (x := "self") (i := 0) rfl lself (by decide) (by decide)) (hv (x := "at") (i := 1) rfl lat (by decide) (by decide)) (swaps_other fun _ _ h => by cases h)))), ?_⟩
  · rw [arm_eval_Call]
    have hm' : ∀ ov env, methodCall (.Call (.Name "super" p0) [] [] p1) "__init__" p2 p4 env ov (([.Name "at" p3] : List Expr).length + ([] : List Keyword).length) (backTo p4 (starEach [.Name "at" p3] env)) (backToKw p4 (keywordEach [] env)) = (do
      let (f, first) ← holding [ov] (getMethod ov "__init__" (plOf (.Call (.Name "super" p0) [] [] p1) env))
      callWith p4 f first (backTo p4 (starEach [.Name "at" p3] env)) (backToKw p4 (keywordEach [] env))) := fun ov env => by
      have hf : methodCallForm (([.Name "at" p3] : List Expr).length + ([] : List Keyword).length) (backTo p4 (starEach [.Name "at" p3] env)) (backToKw p4 (keywordEach [] env)) = true := rfl
      have hq : methodCallPos true (.Call (.Name "super" p0) [] [] p1) env p2 p4 = pure p4 := by
        unfold methodCallPos
        rw [hl]
        rfl
      unfold methodCall
      rw [hf, hq]
      simp only [pure_bind]
      rfl
    simp only [hm']
    rfl
  · -- what it does
    refine ⟨a, C, rfl, ea, O, ?_⟩
    refine ⟨y, rfl, ?_⟩
    refine ⟨by simp, ea, ?_⟩
    refine ⟨y, rfl, .ref a, rfl, a, C, rfl, O.o, hno, .inl ⟨ea, fun dx hd hne => q dx hd hne⟩⟩
end
end Mi

set_option maxHeartbeats 4000000
namespace Mi
open PySem PySem.Spec PyProof.Rows L2

/-! ### raise C(e) -/
def ExcAt (X : Cx) (ca : Str → Addr) (x c : Str) : Prop := X.mg x = some (.ref (ca c)) ∧ ∃ (D fI : Addr) (fd : FuncData), OexS X.K (ca c) D ∧ PySem.W.findIn X.K (.ref (ca c)) "at" = some none ∧ PySem.W.findIn X.K (.ref (ca c)) "__init__" = some (some (.ref fI)) ∧
  PySem.W.typeIn X.K (.ref fI) = some (.type "function") ∧ FnOk X.prog X.w X.K X.mg X.base C8.CX0 1 fI fd ["self", "at"] (spBox X.K D) ∧ Binds X.K fd ["self", "at"] []
def sRaise (c : Str) (m : XM (List DV)) : SM := sBind m fun ds ρ st => match ds with
  | [d] => .exc c d ρ st
  | _ => .bad
section
variable {X : Cx} {ca : Str → Addr} {W : WX} {x c : Str} {e : Expr} {m : XM (List DV)} {p pos rpos : Pos}
theorem del_upd {H : Hp} {a dx : Addr} {y : V} {o o' : HO} {fs : List (Str × V)} (ha : H a = none) (hne : dx ≠ a) : upd (del (upd (upd (upd H a o) dx (exd dx fs)) a o') a) dx (.xd fs) = upd H dx (.xd fs) := by
  funext b
  by_cases h1 : b = dx
  · rw [h1, upd_same, upd_same]
  · rw [upd_ne h1, upd_ne h1]
    by_cases h2 : b = a
    · rw [h2, del_same, ha]
    · rw [del_ne h2, upd_ne h2, upd_ne h1, upd_ne h2]
theorem psm_raise (E : ExcAt X ca x c) (hr : Room 2 X.A) (hc : X.calm = true) (tk : Takes X W) (hg : Gl X x) (hdb : (x == ("__debug__" : Str)) = false) (ha : PA X [e] (rdA X.K ca W m)) (hn : noStar e = true) :
    PS X (.Raise (some (.Call (.Name x p) [e] [] pos)) none rpos) (rdS X.K ca W (sRaise c m)) := by
  obtain ⟨hm, D, fI, fd, O, hno, iC, tI, F1, hb⟩ := E
  refine ps_weak (ps_raise hc tk (pmk_oex O.o iC tI F1 hr hb .nil (C8.pass0) hg hm ha hdb (star_no hn) rfl)) fun Dn σ H h => ?_
  refine rs_bind h fun G ρ st H1 vs ds R r o => ?_
  cases r with
  | nil => exact o.elim
  | @cons v d vs' ds' a b =>
    cases b with
    | cons _ _ => exact o.elim
    | nil =>
      refine ⟨by simp, fun ad had => ⟨ad, ca c, v, by simp, upd_same, O, hno, fun dx hdx hne => ?_⟩⟩
      rw [upd_ne hne] at hdx
      refine ⟨rfl, dx, [("at", v)], upd_same, by rw [upd_ne hne, upd_same], hdx, ?_⟩
      rw [del_upd (y := v) had hne]
      exact o G σ _ dx v (Gm.le.refl _) (R.same (upd_sameF hdx)) (R.gh.free hdx) upd_same a
end
/-! ### what an except suite returns -/
def negX : Option DV → Option DV
  | some (.int i) => some (.int (-i))
  | _ => none
def subX : Option DV → Option DV → Option DV
  | some (.int i), some (.int j) => some (.int (i - j))
  | _, _ => none
def hx (n : Str) : Nat → Expr → DV → Option DV
  | 0, _, _ => none
  | k + 1, e, v => match e with
    | .Constant c _ _ => (match c with
      | .none => some .non
      | .bool b => some (.bl b)
      | .int i => some (.int i)
      | .str s => some (.str s)
      | _ => none)
    | .Attribute (.Name x _) f _ => if x = n ∧ f = ("at" : Str) then some v else none
    | .UnaryOp op a _ => (match op with
      | .USub => negX (hx n k a v)
      | _ => none)
    | .BinOp a op b _ => (match op with
      | .Sub => subX (hx n k a v) (hx n k b v)
      | _ => none)
    | _ => none
def hxAll (n : Str) (es : List Expr) (v : DV) : Option (List DV) := mapO (fun e => hx n 6 e v) es
def retOf : List Stmt → Option Expr
  | [st] => (match st with
    | .Return o _ => o
    | _ => none)
  | _ => none
def tupOf : Expr → Option (List Expr)
  | .Tuple es _ _ => some es
  | _ => none
theorem retOf_ok {b : List Stmt} {e : Expr} (h : retOf b = some e) : ∃ rp, b = [.Return (some e) rp] := by
  cases b with
  | nil => cases h
  | cons st r =>
    cases r with
    | cons _ _ => cases h
    | nil =>
      cases st with
      | Return o rp =>
        have h' : o = some e := h
        exact ⟨rp, by rw [h']⟩
      | _ => cases h
theorem tupOf_ok {e : Expr} {es : List Expr} (h : tupOf e = some es) : ∃ k p, e = .Tuple es k p := by
  cases e with
  | Tuple es' k p =>
    cases h
    exact ⟨k, p, rfl⟩
  | _ => cases h
def hSuite (n : Str) (b : List Stmt) (v : DV) : Option DV := match retOf b with
  | some e => (match tupOf e with
    | some es => if es.all noStar && decide (es.length ≤ 100) then (match hxAll n es v with
      | some ds => some (.tup ds)
      | none => none) else none
    | none => hx n 6 e v)
  | none => none
/-- the exception at hand -/
def HxOk (K : PySem.W.Frag) (i : Nat) (a : Addr) (cls : Value) (d : Option Addr) (G : Gm) (v : DV) (σ : L2.St) (H : Hp) : Prop := σ[i]? = some (some (.ref a)) ∧
  ∃ (C dd : Addr) (x : V), cls = .ref C ∧ XfC K C ∧ PySem.W.findIn K (.ref C) "at" = some none ∧ d = some dd ∧ H dd = some (.xd [("at", x)]) ∧ RepV K G x v
def tP (K : PySem.W.Frag) (i : Nat) (a : Addr) (cls : Value) (d : Option Addr) (f : DV → Option DV) : TE := fun σ H Q => ∃ G v r, HxOk K i a cls d G v σ H ∧ f v = some r ∧ ∀ y, RepV K G y r → Q y H
section
variable {X : Cx} {i : Nat} {a : Addr} {cls : Value} {d : Option Addr} {n : Str} {oe : Obj} {pn : List (Addr × Obj)}
theorem pe_const {v : V} {c : DV} {e : Expr} {f : DV → Option DV} (h : PE X e (tC v)) (r : ∀ G, RepV X.K G v c) (hf : ∀ z, f z = some c) : PE X e (tP X.K i a cls d f) := pe_weak h fun σ H Q q => by
  obtain ⟨G, z, r', _, e1, q⟩ := q
  rw [hf] at e1
  cases e1
  exact q v (r G)
theorem pe_none {e : Expr} {f : DV → Option DV} (hf : ∀ z, f z = none) : PE X e (tP X.K i a cls d f) := pe_weak pe_bad fun σ H Q q => by
  obtain ⟨G, z, r', _, e1, q⟩ := q
  rw [hf] at e1
  cases e1
theorem hx_ok (hz : Zc cls d oe) (hf : ∃ vs, oe.data = .fields vs) (hN : X.N[i]? = some n) (hv : Vis X.env.scope n) (h1 : (n == ("__debug__" : Str)) = false) (h2 : (n == ("__classdict__" : Str)) = false) :
    ∀ (k : Nat) (e : Expr), PE (X.suite a ((a, oe) :: pn)) e (tP X.K i a cls d (hx n k e))
  | 0, e => pe_none fun _ => rfl
  | k + 1, e => by
    have ih := hx_ok hz hf hN hv h1 h2 k
    cases e with
    | Constant c j p =>
      cases c with
      | none => exact pe_const pe_non (fun G => .non) fun _ => rfl
      | bool b => exact pe_const pe_bl (fun G => .bl b) fun _ => rfl
      | int z => exact pe_const pe_int (fun G => .int z) fun _ => rfl
      | str s => exact pe_const pe_str (fun G => .str s) fun _ => rfl
      | _ => exact pe_none fun _ => rfl
    | Attribute o f p =>
      cases o with
      | Name x px =>
        by_cases hc : x = n ∧ f = ("at" : Str)
        · obtain ⟨rfl, rfl⟩ := hc
          refine pe_weak (pe_ex fun T : {C : Addr // XfC X.K C ∧ PySem.W.findIn X.K (.ref C) "at" = some none} => pe_xf T.2.1 T.2.2 hz hf (pe_var (pos := px) hN hv h1 h2) rfl) fun σ H Q q => ?_
          obtain ⟨G, z, r', ⟨hs, C, dd, y, ec, hx1, hx2, ed, eh, ry⟩, e1, q⟩ := q
          have e2 : (if x = x ∧ ("at" : Str) = ("at" : Str) then some z else none) = some r' := e1
          rw [if_pos ⟨rfl, rfl⟩] at e2
          cases e2
          exact ⟨⟨C, hx1, hx2⟩, .ref a, hs, rfl, ec, dd, _, y, ed, eh, by simp [List.lookup], q y ry⟩
        · exact pe_none fun z => if_neg hc
      | _ => exact pe_none fun _ => rfl
    | UnaryOp op o p =>
      cases op with
      | USub =>
        refine pe_weak (pe_un un_neg (ih o)) fun σ H Q q => ?_
        obtain ⟨G, z, r', hk, e1, q⟩ := q
        have e2 : negX (hx n k o z) = some r' := e1
        cases e3 : hx n k o z with
        | none => rw [e3] at e2; cases e2
        | some w =>
          rw [e3] at e2
          cases w with
          | int j =>
            cases e2
            refine ⟨G, z, .int j, hk, e3, fun y ry => ?_⟩
            cases ry
            exact ⟨j, rfl, q _ (.int _)⟩
          | _ => cases e2
      | _ => exact pe_none fun _ => rfl
    | BinOp l op r p =>
      cases op with
      | Sub =>
        refine pe_weak (pe_op op_sub (ih l) (ih r)) fun σ H Q q => ?_
        obtain ⟨G, z, r', hk, e1, q⟩ := q
        have e2 : subX (hx n k l z) (hx n k r z) = some r' := e1
        cases e3 : hx n k l z with
        | none => rw [e3] at e2; cases e2
        | some w =>
          cases e4 : hx n k r z with
          | none => rw [e3, e4] at e2; cases w <;> cases e2
          | some w' =>
            rw [e3, e4] at e2
            cases w with
            | int j =>
              cases w' with
              | int j' =>
                cases e2
                refine ⟨G, z, .int j, hk, e3, fun y ry => ⟨G, z, .int j', hk, e4, fun y' ry' => ?_⟩⟩
                cases ry
                cases ry'
                exact ⟨j, j', rfl, rfl, q _ (.int _)⟩
              | _ => cases e2
            | _ => cases w' <;> cases e2
      | _ => exact pe_none fun _ => rfl
    | _ => exact pe_none fun _ => rfl
/-- several, in a row -/
def tPs (K : PySem.W.Frag) (i : Nat) (a : Addr) (cls : Value) (d : Option Addr) (f : DV → Option (List DV)) : TA := fun σ H Q => ∃ G v rs, HxOk K i a cls d G v σ H ∧ f v = some rs ∧ ∀ ys, RepVs K G ys rs → Q ys H
theorem hxs_ok (hz : Zc cls d oe) (hf : ∃ vs, oe.data = .fields vs) (hN : X.N[i]? = some n) (hv : Vis X.env.scope n) (h1 : (n == ("__debug__" : Str)) = false) (h2 : (n == ("__classdict__" : Str)) = false) :
    ∀ es : List Expr, es.all noStar = true → PA (X.suite a ((a, oe) :: pn)) es (tPs X.K i a cls d (hxAll n es))
  | [], _ => pa_weak pa_nil fun σ H Q q => by
    obtain ⟨G, z, rs, _, e1, q⟩ := q
    cases e1
    exact q [] .nil
  | e :: es, hs => by
    rw [List.all_cons, Bool.and_eq_true] at hs
    refine pa_weak (pa_cons (hx_ok hz hf hN hv h1 h2 6 e) (hxs_ok hz hf hN hv h1 h2 es hs.2) (star_no hs.1)) fun σ H Q q => ?_
    obtain ⟨G, z, rs, hk, e1, q⟩ := q
    unfold hxAll mapO at e1
    cases e2 : hx n 6 e z with
    | none => rw [e2] at e1; cases e1
    | some w =>
      cases e3 : mapO (fun e => hx n 6 e z) es with
      | none => simp only [e2, e3] at e1; cases e1
      | some ws =>
        simp only [e2, e3] at e1
        cases e1
        exact ⟨G, z, w, hk, e2, fun y ry => ⟨G, z, ws, hk, e3, fun ys rys => q _ (.cons ry rys)⟩⟩
end
/-! ### try: body, except H as n: return .. -/
def sTry (exm : Str → Str → Option Bool) (xf : Str → Bool) (b : SM) (i : Nat) (hc : Str) (f : DV → Option DV) : SM := fun ρ st => match b ρ st with
  | .exc c v ρ' st' => (match exm c hc with
    | some true => if xf c && decide (i < ρ'.length) then (match f v with
      | some d => .ok (.rt d, ρ', st')
      | none => .bad) else .bad
    | some false => .exc c v ρ' st'
    | none => .bad)
  | r => r
def ExmOk (K : PySem.W.Frag) (ca : Str → Addr) (exm : Str → Str → Option Bool) : Prop := ∀ c h b, exm c h = some b → PySem.W.exmOne K (.ref (ca c)) (.ref (ca h)) = some b
def XfOk (K : PySem.W.Frag) (ca : Str → Addr) (xf : Str → Bool) : Prop := ∀ c, xf c = true → XfC K (ca c) ∧ PySem.W.findIn K (.ref (ca c)) "at" = some none
section
variable {X : Cx} {ca : Str → Addr} {W : WX} {exm : Str → Str → Option Bool} {xf : Str → Bool}
/-- what the suite's return reads -/
def tHS (K : PySem.W.Frag) (i : Nat) (n : Str) (b : List Stmt) (a : Addr) (cls : Value) (d : Option Addr) : TE := fun σ H Q => match retOf b with
  | some e => (match tupOf e with
    | some es => es.all noStar = true ∧ tPs K i a cls d (hxAll n es) σ H fun vs H1 => vs.length ≤ sizeLine ∧ ∀ p, H1 p = none → Q (.ref p) (upd H1 p (.tup vs))
    | none => tP K i a cls d (hx n 6 e) σ H Q)
  | none => False
theorem suite_ok {i : Nat} {a : Addr} {cls : Value} {d : Option Addr} {n : Str} {oe : Obj} {pn : List (Addr × Obj)} {b : List Stmt} (hz : Zc cls d oe) (hf : ∃ vs, oe.data = .fields vs) (hN : X.N[i]? = some n) (hv : Vis X.env.scope n) (h1 : (n == ("__debug__" : Str)) = false)
    (h2 : (n == ("__classdict__" : Str)) = false) : PSs (X.suite a ((a, oe) :: pn)) b (tRet (tHS X.K i n b a cls d)) := by
  cases hr : retOf b with
  | none =>
    refine pss_weak pss_never fun D σ H q => ?_
    unfold tRet tHS at q
    rw [hr] at q
    exact q
  | some e =>
    obtain ⟨rp, rfl⟩ := retOf_ok hr
    cases ht : tupOf e with
    | none =>
      refine pss_weak (pss_one (ps_ret (hx_ok hz hf hN hv h1 h2 6 e))) fun D σ H q => ?_
      unfold tRet tHS at q
      rw [hr] at q
      simp only [ht] at q
      exact q
    | some es =>
      obtain ⟨k, p, rfl⟩ := tupOf_ok ht
      by_cases hs : es.all noStar = true
      · refine pss_weak (pss_one (ps_ret (pe_tup (hxs_ok hz hf hN hv h1 h2 es hs)))) fun D σ H q => ?_
        unfold tRet tHS at q
        rw [hr] at q
        simp only [ht] at q
        exact q.2
      · refine pss_weak pss_never fun D σ H q => ?_
        unfold tRet tHS at q
        rw [hr] at q
        simp only [ht] at q
        exact absurd q.1 hs
theorem psm_try {i : Nat} {n x hc : Str} {body suite : List Stmt} {b₀ : Stmt} {b : SM} {np pos pos' : Pos} (hs : X.stack = X.env :: X.outer) (hf : X.env.frame = some X.env.locals) (hN : X.N.Nodup) (hi : X.N[i]? = some n) (hln : X.env.scope.names.lookup n = some .local)
    (hnm : Names X x (.ref (ca hc))) (tk : Takes X W) (h1 : (n == ("__debug__" : Str)) = false) (h2 : (n == ("__classdict__" : Str)) = false) (he : ExmOk X.K ca exm) (hx' : XfOk X.K ca xf)
    (hb : ∀ (W' : WX) (pn : List (Addr × Obj)) (xe : Value → Shared → Prop), Takes (X.tr pn xe) W' → PassesOwn (model X.prog X.w) X.A X.env xe → PSs (X.tr pn xe) body (rdS X.K ca W' b)) :
    PS X (.Try body [.ExceptHandler (some (.Name x np)) (some n) (b₀ :: suite) pos'] [] [] pos) (rdS X.K ca W (sTry exm xf b i hc (hSuite n (b₀ :: suite)))) := by
  refine ps_weak (ps_try_as (tb := fun W' => rdS X.K ca W' b) (ts := fun a cls d => tRet (tHS X.K i n (b₀ :: suite) a cls d)) (Wout := W) hs hf hN hi hln hnm tk hb fun a oe cls d pn hz hff => suite_ok hz hff hi (.inl hln) h1 h2) fun D σ H h => ?_
  obtain ⟨G, ρ, st, R, o⟩ := h
  refine ⟨G, ρ, st, R, ?_⟩
  unfold sTry at o
  cases e : b ρ st with
  | bad => rw [e] at o; exact o
  | ok p => rw [e] at o; exact o
  | exc c v ρ' st' =>
    rw [e] at o
    simp only at o
    intro G' σ' H' dd y le R' hBd e1 ry
    cases e2 : exm c hc with
    | none => rw [e2] at o; exact o.elim
    | some k =>
      rw [e2] at o
      refine ⟨k, he c hc k e2, fun hk a ha => ?_, fun hk => ?_⟩
      · subst hk
        simp only at o
        split at o
        · rename_i hq
          rw [Bool.and_eq_true, decide_eq_true_eq] at hq
          obtain ⟨hq1, hq2⟩ := hq
          have hset : (σ'.set i (some (V.ref a)))[i]? = some (some (.ref a)) := List.getElem?_set_self (by rw [R'.len]; exact hq2)
          have HX : HxOk X.K i a (.ref (ca c)) (some dd) G' v (σ'.set i (some (.ref a))) H' := ⟨hset, ca c, dd, y, rfl, (hx' c hq1).1, (hx' c hq1).2, rfl, e1, ry⟩
          cases e3 : hSuite n (b₀ :: suite) v with
          | none => rw [e3] at o; exact o.elim
          | some r =>
            rw [e3] at o
            unfold hSuite at e3
            show tHS X.K i n (b₀ :: suite) a (.ref (ca c)) (some dd) (σ'.set i (some (.ref a))) H' D.rt
            unfold tHS
            cases hr : retOf (b₀ :: suite) with
            | none => rw [hr] at e3; cases e3
            | some ex =>
              rw [hr] at e3
              simp only at e3 ⊢
              cases ht : tupOf ex with
              | none =>
                rw [ht] at e3
                exact ⟨G', v, r, HX, e3, fun z rz => o G' σ' H' le R' z rz⟩
              | some es =>
                rw [ht] at e3
                simp only at e3 ⊢
                split at e3
                · rename_i hes
                  rw [Bool.and_eq_true, decide_eq_true_eq] at hes
                  cases e4 : hxAll n es v with
                  | none => rw [e4] at e3; cases e3
                  | some ds =>
                    rw [e4] at e3
                    cases e3
                    refine ⟨hes.1, G', v, ds, HX, e4, fun ys rys => ⟨?_, fun p hp => ?_⟩⟩
                    · have l1 := rys.len
                      have l2 : ∀ {l : List Expr} {ds : List DV}, mapO (fun e => hx n 6 e v) l = some ds → ds.length = l.length := by
                        intro l
                        induction l with
                        | nil => intro ds q; cases q; rfl
                        | cons z zs ih =>
                          intro ds q
                          unfold mapO at q
                          cases q1 : hx n 6 z v with
                          | none => rw [q1] at q; cases q
                          | some w =>
                            cases q2 : mapO (fun e => hx n 6 e v) zs with
                            | none => simp only [q1, q2] at q; cases q
                            | some ws =>
                              simp only [q1, q2] at q
                              cases q
                              exact congrArg Nat.succ (ih q2)
                      have l3 := l2 e4
                      rw [sizeLine_eq]
                      omega
                    · obtain ⟨G2, le2, R2, r2⟩ := newT_ok R' hp rys
                      exact o G2 σ' _ (le.trans le2) R2 _ r2
                · cases e3
        · exact o.elim
      · subst hk
        exact o G' σ' H' dd y le R' hBd e1 ry
end
end Mi

set_option maxHeartbeats 4000000
namespace Mi
open PySem PySem.Spec PyProof.Rows L2

/-! ### a list turned round -/
def xRev (mu : Bool) (a : XM DV) : XM DV := xBind a fun d ρ st => match hlst d st with
  | some xs => .ok (newL mu xs.reverse st)
  | none => .bad
section
variable {X : Cx} {ca : Str → Addr} {W : WX} {K : PySem.W.Frag}
theorem RepVs.rev {G : Gm} {vs : List V} {ds : List DV} (h : RepVs K G vs ds) : RepVs K G vs.reverse ds.reverse := by
  induction vs generalizing ds with
  | nil => cases h; exact .nil
  | cons v vs ih =>
    cases h with
    | cons a b =>
      rw [List.reverse_cons, List.reverse_cons]
      exact (ih b).append (.cons a .nil)
theorem re_rev {e : Expr} {m : XM DV} {mu : Bool} {k : Nat} {p1 p2 p3 pos : Pos} (he : PE X e (rdE X.K ca W m)) : PE X (.Subscript e (.Slice none none (some (.UnaryOp .USub (.Constant (.int 1) k p1) p2)) p3) pos) (rdE X.K ca W (xRev mu m)) :=
  pe_weak (pe_revL he) fun σ H Q q => by
    refine rd_bind q fun G ρ st H1 v d R r o => ?_
    cases e : hlst d st with
    | none => simp only [e] at o; exact o.elim
    | some xs =>
      simp only [e] at o
      obtain ⟨a, vs, rfl, e1, e2⟩ := hlst_ok R r e
      refine ⟨a, vs, rfl, .inl (.inl e1), fun p hp => ?_⟩
      obtain ⟨G', le, R', r'⟩ := newL_ok R mu hp e2.rev
      exact o G' _ _ le R' r'
end
/-! ### targets that are cells -/
abbrev UM := DV → SM
def uBad : UM := fun _ => sBad
def uName (i : Nat) : UM := fun d ρ st => .ok (.nx, ρ.set i (some d), st)
def uSub (o i : XM DV) : UM := fun y => sBind o fun x => sBind i fun j ρ st => match mlst x st, mdct x st with
  | some (n, xs), _ => (match j with
    | .int k => (match ixN xs.length k with
      | some q => .ok (.nx, ρ, st.set n (.lst (xs.set q y)))
      | none => .bad)
    | _ => .bad)
  | none, some (n, kvs) => (match keyOf j with
    | some k => if kvs.length < sizeLine then .ok (.nx, ρ, st.set n (.dct (putKD kvs k y))) else .bad
    | none => .bad)
  | none, none => .bad
def uFld (at_ : Str → Bool) (f : Str) (o : XM DV) : UM := fun y => sBind o fun x ρ st => match insAt x st with
  | some (n, c, fs) => if at_ c && decide (fs.length < 1000) then .ok (.nx, ρ, st.set n (.ins c (putN f y fs))) else .bad
  | none => .bad
def uNil : List DV → SM
  | [] => sNx
  | _ => sBad
def uCons (g : UM) (r : List DV → SM) : List DV → SM
  | d :: ds => sSeq (g d) (r ds)
  | [] => sBad
def uTup (n : Nat) (r : List DV → SM) : UM := fun d => match d with
  | .tup ds => if ds.length = n then r ds else sBad
  | _ => sBad
def onNx (b : SM) : SM := fun ρ st => match b ρ st with
  | .ok (.nx, ρ1, st1) => .ok (.nx, ρ1, st1)
  | .ok _ => .bad
  | r => r
def sAsgU (a : XM DV) (g : UM) : SM := sBind a fun d => onNx (g d)
def endsU (Q : St → Hp → Prop) : Ends := ⟨Q, fun _ _ => False, fun _ _ => False, fun _ _ => False⟩
section
variable (K : PySem.W.Frag) (ca : Str → Addr)
def rdU (W : WX) (g : UM) : TG := fun v σ H Q => ∃ G ρ st d, RelS K ca G σ ρ st H ∧ RepV K G v d ∧ OutS K ca W (endsU Q) G (g d ρ st)
def rdUs (W : WX) (g : List DV → SM) : TGs := fun vs σ H Q => ∃ G ρ st ds, RelS K ca G σ ρ st H ∧ RepVs K G vs ds ∧ OutS K ca W (endsU Q) G (g ds ρ st)
end
section
variable {X : Cx} {ca : Str → Addr} {W : WX} {pos : Pos}
theorem pgu_bad {e : Expr} : PG X e (rdU X.K ca W uBad) := ⟨fun _ _ _ _ _ _ _ _ _ h => by
  obtain ⟨_, _, _, _, _, _, h⟩ := h
  exact h.elim⟩
theorem pgu_name {i : Nat} {x : Str} (hN : X.N.Nodup) (hi : X.N[i]? = some x) (hx : Loc X.env.scope x) (hf : X.fn x = true ∨ X.env.scope.names.lookup x = some .local) : PG X (.Name x pos) (rdU X.K ca W (uName i)) := pg_weak (pg_name hN hi hx hf) fun v σ H Q h => by
  obtain ⟨G, ρ, st, d, R, r, o⟩ := h
  exact o G _ H (Gm.le.refl _) (R.set r i)
theorem pgu_sub {o i : Expr} {p : Pos} {mo mi : XM DV} (hu : X.A.units + 1 < cLine) (ho : PE X o (rdE X.K ca W mo)) (hi : PE X i (rdE X.K ca W mi)) (hn : noSl i = true) : PG X (.Subscript o i p) (rdU X.K ca W (uSub mo mi)) := by
  refine pg_weak (pg_sub ho hi (t := fun o i v H Q => rSetL o i v H Q ∨ rSetD o i v H Q) (fun pins s σ H o i v ov iv u Q I ro ri rv h =>
    h.elim (set_list pins s σ H o i v ov iv u Q I ro ri rv) (set_dict hu pins s σ H o i v ov iv u Q I ro ri rv)) (asg_sub hn)) fun v σ H Q h => ?_
  obtain ⟨G, ρ, st, dy, R, ry, o1⟩ := h
  refine rd_of R (outS_bind o1 fun G1 H2 x dx st1 le1 R1 rx o2 => ?_)
  refine rd_of R1 (outS_bind o2 fun G2 H3 j dj st2 le2 R2 rj o3 => ?_)
  have rx := rx.mono le2
  have ry := ry.mono (le1.trans le2)
  cases e1 : mlst dx st2 with
  | some p =>
    obtain ⟨n, xs⟩ := p
    simp only [e1] at o3
    cases rj with
    | int k =>
      simp only at o3
      cases e2 : ixN xs.length k with
      | none => rw [e2] at o3; exact o3.elim
      | some q =>
        rw [e2] at o3
        obtain ⟨vs, rfl, rfl, e3, e4, e5⟩ := mlst_ok R2 rx e1
        exact .inl ⟨_, vs, k, q, rfl, rfl, e4, by rw [e5.len]; exact e2, o3 G2 σ _ (Gm.le.refl _) (setL_ok R2 e3 (e5.set ry q))⟩
    | _ => exact o3.elim
  | none =>
    cases e2 : mdct dx st2 with
    | none => simp only [e1, e2] at o3; exact o3.elim
    | some p =>
      obtain ⟨n, kvs⟩ := p
      simp only [e1, e2] at o3
      cases e3 : keyOf dj with
      | none => rw [e3] at o3; exact o3.elim
      | some k =>
        rw [e3] at o3
        simp only at o3
        split at o3
        · rename_i hz
          obtain ⟨vs, rfl, rfl, e4, e5, e6⟩ := mdct_ok R2 rx e2
          have ek := keyOf_ok rj e3
          subst ek
          exact .inr ⟨_, _, rfl, DPut.k e5 (by rw [e6.len]; exact hz), o3 G2 σ _ (Gm.le.refl _) (setD_ok R2 e4 (e6.put ry))⟩
        · exact o3.elim
/-- o.f = .. -/
def gFldU (K : PySem.W.Frag) (ta : TE) (f : Str) : TG := fun v σ H Q => ta σ H fun x H2 => ∃ a C dx fs, x = .ref a ∧ H2 a = some (.ins C dx fs) ∧ Cls K C ∧ NoAttr K C f ∧ fs.length < 1000 ∧ Q σ (upd H2 a (.ins C dx (putF f v fs)))
theorem pg_fldU {o : Expr} {f : Str} {p : Pos} {ta : TE} (ha : PE X o ta) : PG X (.Attribute o f p) (gFldU X.K ta f) := by
  refine ⟨fun pins s σ H v u Q I r h => ?_⟩
  rw [arm_assign_Attribute]
  refine wpAny_bind (wpAny_holding (thn (ha.run pins s σ H _ I h) fun ov s1 ⟨x, H1, I1, r1, a, C, dx, fs, ex, ea, c, n, l, q1⟩ => ?_))
  subst ex
  obtain rfl : ov = Value.ref a := r1
  refine wpAny_bind (wpAny_standAt (wpAny_bind (wpAny_holding (setattr_ok I1 ea c n l r fun s3 I3 => wpAny_release ⟨σ, _, I3, q1⟩))))
theorem pgu_fld {o : Expr} {f : Str} {p : Pos} {mo : XM DV} {at_ : Str → Bool} (ok : AttrOk X.K ca f at_) (ha : PE X o (rdE X.K ca W mo)) : PG X (.Attribute o f p) (rdU X.K ca W (uFld at_ f mo)) := pg_weak (pg_fldU ha) fun v σ H Q h => by
  obtain ⟨G, ρ, st, dy, R, ry, o1⟩ := h
  refine rd_of R (outS_bind o1 fun G1 H2 x dx st1 le R1 rx o2 => ?_)
  cases e1 : insAt dx st1 with
  | none => simp only [e1] at o2; exact o2.elim
  | some p =>
    obtain ⟨n, c, fs⟩ := p
    simp only [e1] at o2
    split at o2
    · rename_i hk
      rw [Bool.and_eq_true, decide_eq_true_eq] at hk
      obtain ⟨xd, fv, rfl, rfl, e2, e3, e4⟩ := insAt_ok R1 rx e1
      obtain ⟨k1, k2⟩ := ok c hk.1
      exact ⟨_, ca c, xd, fv, rfl, e3, k1, k2, by rw [e4.len]; exact hk.2, o2 G1 σ _ (Gm.le.refl _) (R1.write e2 trivial ⟨xd, _, upd_same, e4.put (ry.mono le)⟩ trivial)⟩
    · exact o2.elim
theorem pgsu_nil : PGs X [] (rdUs X.K ca W uNil) := pgs_weak pgs_nil fun v σ H Q h => by
  obtain ⟨G, ρ, st, d, R, r, o⟩ := h
  cases r with
  | nil => exact ⟨rfl, o G σ H (Gm.le.refl _) R⟩
  | cons _ _ => exact o.elim
theorem pgsu_cons {e : Expr} {es : List Expr} {a : UM} {r : List DV → SM} (h1 : PG X e (rdU X.K ca W a)) (h2 : PGs X es (rdUs X.K ca W r)) (hs : (assignEach (e :: es) X.env).map (·.2) = assign e X.env :: (assignEach es X.env).map (·.2)) : PGs X (e :: es) (rdUs X.K ca W (uCons a r)) :=
  pgs_weak (pgs_cons h1 h2 hs) fun v σ H Q h => by
    obtain ⟨G, ρ, st, d, R, rr, o⟩ := h
    cases rr with
    | nil => exact o.elim
    | @cons v d vs ds r1 r2 =>
      refine ⟨v, vs, rfl, G, ρ, st, d, R, r1, ?_⟩
      have o' : OutS X.K ca W (endsU Q) G (sSeq (a d) (r ds) ρ st) := o
      unfold sSeq at o'
      cases e : a d ρ st with
      | bad => rw [e] at o'; exact o'
      | exc c v r s => rw [e] at o'; exact o'
      | ok p =>
        obtain ⟨f, ρ1, st1⟩ := p
        rw [e] at o'
        cases f with
        | nx => exact fun G' σ' H' le R' => ⟨G', ρ1, st1, ds, R', r2.mono le, OutS.le o' le⟩
        | bk => exact o'
        | ct => exact o'
        | rt d => exact o'
theorem pgu_tup {es : List Expr} {k n : Nat} {r : List DV → SM} (hc : X.calm = true) (h : PGs X es (rdUs X.K ca W r)) (hn : (assignEach es X.env).length = n) (hst : (assignEach es X.env).findIdx? (·.1) = none) : PG X (.Tuple es k pos) (rdU X.K ca W (uTup n r)) :=
  pg_weak (pg_tup hc h hn hst) fun v σ H Q h => by
    obtain ⟨G, ρ, st, d, R, rr, o⟩ := h
    cases rr with
    | @tup a vs ds h1 h2 =>
      have o' : OutS X.K ca W (endsU Q) G ((if ds.length = n then r ds else sBad) ρ st) := o
      split at o'
      · rename_i hl
        exact ⟨a, vs, rfl, seqT_mono R.sub h1, by rw [h2.len]; exact hl, G, ρ, st, ds, R, h2, o'⟩
      · exact o'.elim
    | _ => exact o.elim
theorem psm_asgU {tg e : Expr} {m : XM DV} {g : UM} (he : PE X e (rdE X.K ca W m)) (hg : PG X tg (rdU X.K ca W g)) (hs : swapsWithSole [tg] e pos.line X.env = pure false) (hw : swappedStores [tg] e X.env = pure none)
    (h1 : (assignEach [tg] X.env).map (·.2) = [assign tg X.env]) : PS X (.Assign [tg] e pos) (rdS X.K ca W (sAsgU m g)) := ps_weak (ps_asg he hg hs hw h1) fun D σ H h =>
  rs_bind h fun G ρ st H1 v d R r o => ⟨G, ρ, st, d, R, r, by
    unfold onNx at o
    cases e : g d ρ st with
    | ok p =>
      obtain ⟨f, ρ1, st1⟩ := p
      rw [e] at o
      cases f with
      | nx => exact o
      | bk => exact o.elim
      | ct => exact o.elim
      | rt d => exact o.elim
    | exc c v r s => rw [e] at o; exact o
    | bad => rw [e] at o; exact o⟩
end
end Mi

set_option maxHeartbeats 4000000
namespace Mi
open PySem PySem.Spec PyProof.Rows L2

/-! ### defs called while an exception is handled (they raise nothing, and call nothing) -/
structure FnQ (P : Program) (w : World) (K : PySem.W.Frag) (mg : Str → Option Value) (base : Heap) (k : Nat) (f : Addr) (fd : FuncData) (ps : List Str) (sp : Sp) : Prop where
  len : ∀ vs H Q E, sp vs H Q E → vs.length = ps.length
  run : ∀ (A : Around) (outer : List Env) (s : Shared) (H : Hp) (args : Args) (us : List Value) (vs : List V) (Q : VK) (E : XK) (p : Addr × Obj), L2H.RoomH k A → A.handled = some (.ref p.1) → L2H.PinOk outer H s p →
    Env0 P w K mg base A outer s H → BindsTo s fd args (ps.zip us) → Vals vs us → sp vs H Q E → codeAny (model P w) A (.call (.ref f) args) (CR (L2.CX P w) outer P w H s Q E) s
def HotX (X : Cx) : Prop := ∃ p : Addr × Obj, X.A.handled = some (.ref p.1) ∧ p ∈ X.pn
section
variable {X : Cx} {k : Nat} {f C : Addr} {fd : FuncData} {ps : List Str} {sp : Sp} {m : Str} {pos apos : Pos} {o : Expr} {ta : TE} {W : WX}
theorem run_fnQ {pins : List (Addr × Obj)} {σ : St} {H : Hp} {s : Shared} {Q : VK} {us : List Value} {vs : List V} (F : FnQ X.prog X.w X.K X.mg X.base k f fd ps sp) (hr : L2H.RoomH k X.A) (hc : HotX X) (hb : Binds X.K fd ps []) (tk : Takes X W)
    (I : Inv X pins σ H s) (r : Vals vs us) (h : sp vs H Q (fun c d H => W c d σ H)) : wpAny (model X.prog X.w) X.A (call (.ref f) us) (EP X pins σ Q) X.xe s := by
  obtain ⟨q, hh, hq⟩ := hc
  obtain ⟨g1, g2, g3, g4, g5⟩ := I.pin q (List.mem_append_left _ hq)
  have pin : L2H.PinOk X.stack H s q := ⟨g1, g2, fun z => by
    rcases List.mem_cons.mp (I.stkSub q.1 z) with y | y
    · exact g3 y
    · exact g4 y, g5⟩
  have hl : (us ++ []).length = ps.length := by rw [List.append_nil, ← r.length]; exact F.len _ _ _ _ h
  have hb' := hb s us I.kIn hl
  rw [List.append_nil] at hb'
  refine wpAny_call (codeAny_mono (F.run X.A X.stack s H ⟨us, []⟩ us vs Q _ q hr hh pin I.env0 hb' r h) fun res s' hz => ?_)
  cases res with
  | error e => exact passW tk σ pins H s e s' I hz
  | ok fl =>
    cases fl with
    | ret u => exact I.after hz
    | next => exact hz.elim
    | brk => exact hz.elim
    | cont => exact hz.elim
theorem pe_methQ0 {pl : Sem Bool} (he : PE X o ta) (c : Cls X.K C) (hm : Meth X.K C m f) (F : FnQ X.prog X.w X.K X.mg X.base k f fd ps sp) (hr : L2H.RoomH k X.A) (hc : HotX X) (hb : Binds X.K fd ps []) (tk : Takes X W)
    (ht : eval (.Call (.Attribute o m apos) [] [] pos) X.env = (do
      let ov ← eval o X.env
      standAt apos.atName
      let (f, first) ← holding [ov] (getMethod ov m pl)
      callWith pos f first (backTo pos (starEach [] X.env)) (backToKw pos (keywordEach [] X.env)))) :
    PE X (.Call (.Attribute o m apos) [] [] pos) (tMethG C m sp W ta tNil) := ⟨fun pins s σ H Q I h => by
  refine PySem.W.methodCall_KW (pl := pl) (thn (he.run pins s σ H _ I h) fun u s1 hu => ?_) ht
  obtain ⟨x, H1, I1, rx, a, dx, fs, ex, ea, l, q⟩ := hu
  subst ex
  obtain rfl : u = Value.ref a := rx
  exact getmeth_ok I1 ea c hm l (PySem.W.callWith_K0 (first := [.ref a]) I1.kIn hm.kp (run_fnQ (us := [.ref a]) (vs := [.ref a]) F hr hc hb tk I1 (.cons rfl .nil) q))⟩
end
theorem FunD.okQ {P : Program} {w : World} {K : PySem.W.Frag} {mg : Str → Option Value} {base : Heap} {x qual : Str} {params : Arguments} {body : List Stmt} {scope : Scope} {dvs : List V} {kws : List (Str × V)} {f : Addr} {fd : FuncData}
    {N ps : List Str} {k : Nat} {sp : Sp} (F : FunD K x qual params body scope dvs kws f fd) (S : FnScope N ps scope) (len : ∀ vs H Q E, sp vs H Q E → vs.length = ps.length)
    (hbody : ∀ (cdv : Value) (A : Around) (outer : List Env) (s : Shared) (H : Hp) (vs : List V) (Q : VK) (E : XK) (p : Addr × Obj), L2H.RoomH k (A.deeper (envOfC qual scope s.heap.objs.size f cdv)) → A.handled = some (.ref p.1) → sp vs H Q E →
      ∃ t, PSs (L2H.cxH (L2.CX P w) P w K mg base N qual scope f cdv A outer s H E p) body t ∧ t { nx := fun _ H' => Q .non H', rt := Q } (start N vs) H) : FnQ P w K mg base (k + 1) f fd ps sp := by
  obtain ⟨oc, od, dV, kV, doc, pm, an, cdv, ct, osl, rfl, lk, hcd, _, _⟩ := F.ex
  refine ⟨len, fun A outer s H args us vs Q E p hr hh pin e0 hb r hsp => ?_⟩
  have hl := len _ _ _ _ hsp
  have KX : K.In s.heap := e0.mod.kin.keeps fun b o e => (e0.bs b o e).1
  have lim : s.heap.NoLimit := e0.mod.nolimit.keeps fun b o e => (e0.bs b o e).1
  refine codeAny_call_function hr.depth (KX _ _ lk) rfl S.co S.gen rfl (PySem.W.codeRec_of KX hcd) (hb _ _ _ _ ?_)
  refine wpAny_newFunctionEnv_cells S.kind (fun ⟨n, v⟩ hy => ?_) fun env he s1 x1 => ?_
  · rcases S.par n (List.of_mem_zip hy).1 with q | q
    · exact .inl q
    · exact .inr ⟨q, PySem.W.cellsFrom_some _ _ _ (.inl q)⟩
  subst he
  refine ⟨lim.keeps x1.toInCall.keep, codeAny_func ?_⟩
  obtain ⟨t, ht, hq⟩ := hbody cdv A outer s H vs Q E p (hr.deeper _) hh hsp
  have I : Inv (L2H.cxH (L2.CX P w) P w K mg base N qual scope f cdv A outer s H E p) [] (start N vs) H s1 := L2H.inv_startH S pin e0 hl r x1
  have fin : ∀ {s' : Shared} {σ' : St} {H' : Hp} {v : V} {u : Value}, Inv (L2H.cxH (L2.CX P w) P w K mg base N qual scope f cdv A outer s H E p) [] σ' H' s' → RelV v u → Q v H' → CE outer P w H s Q u s' :=
    fun {s' σ' H' v u} J rv q => ⟨v, H', J.os, J.bare, J.base, J.hok, rv, q⟩
  refine wpAny_mono (ht.run [] s1 (start N vs) H _ I hq) (fun fl s' hs => ?_) fun e s' hs => hs
  cases fl with
  | ret u => exact let ⟨v, σ', H', J, rv, q⟩ := hs; fin J rv q
  | next => exact let ⟨σ', H', J, q⟩ := hs; fin (v := V.non) (u := Value.none) J rfl q
  | brk => exact let ⟨_, _, _, q⟩ := hs; False.elim q
  | cont => exact let ⟨_, _, _, q⟩ := hs; False.elim q
structure FnQAt (X : Cx) (ca : Str → Addr) (k : Nat) (f : Addr) (df : Df) : Prop where
  ok : ∃ fd ps, ps.length = df.n ∧ FnQ X.prog X.w X.K X.mg X.base k f fd ps (spM X.K ca df.n df.run) ∧ Binds X.K fd ps []
def HMethOk (X : Cx) (ca : Str → Addr) (k : Nat) (m : Str) (mt : Str → Option Df) : Prop := ∀ c df, mt c = some df → Cls X.K (ca c) ∧ ∃ f, Meth X.K (ca c) m f ∧ FnQAt X ca k f df
section
variable {X : Cx} {ca : Str → Addr} {W : WX}
theorem re_methQ0 {o : Expr} {m : Str} {mt : Str → Option Df} {mo : XM DV} {k : Nat} {pl : Sem Bool} {apos pos : Pos} (M : HMethOk X ca k m mt) (hr : L2H.RoomH k X.A) (hc : HotX X) (tk : Takes X W)
    (he : PE X o (rdE X.K ca W mo))
    (ht : eval (.Call (.Attribute o m apos) [] [] pos) X.env = (do
      let ov ← eval o X.env
      standAt apos.atName
      let (f, first) ← holding [ov] (getMethod ov m pl)
      callWith pos f first (backTo pos (starEach [] X.env)) (backToKw pos (keywordEach [] X.env)))) :
    PE X (.Call (.Attribute o m apos) [] [] pos) (rdE X.K ca W (xMeth mt m mo xNil)) := ⟨fun pins s σ H Q I q => by
  rcases rd_meth q with ⟨c, df, e4, q2⟩ | q2
  · obtain ⟨k1, f, k2, k3⟩ := M c df e4
    obtain ⟨fd, ps, _, F, hb⟩ := k3.ok
    refine (pe_methQ0 he k1 k2 F hr hc hb tk ht).run pins s σ H Q I (rd_mono q2 fun x H1 z => ?_)
    obtain ⟨a, dx, fs, e1, e2, e3, z2⟩ := z
    exact ⟨a, dx, fs, e1, e2, e3, rd_nil (W := W) z2⟩
  · exact PySem.W.methodCall_KW (pl := pl) (thn (he.run pins s σ H _ I q2) fun u s1 ⟨x, H1, I1, rx, z⟩ => z.elim) ht⟩
end
end Mi

set_option maxHeartbeats 4000000
namespace Mi
open PySem PySem.Spec PyProof.Rows L2

/-! ### exceptions as values -/
/-- what a class of exceptions has to say -/
structure ExnC (K : PySem.W.Frag) (C : Addr) : Prop where
  xf : XfC K C
  nat : PySem.W.findIn K (.ref C) "at" = some none
  ha : PySem.W.findIn K (.ref C) "__class__" = some (some (.builtin "object.__class__"))
  hn : PySem.W.specialIn K (.builtin "object.__class__") "__get__" = some (some (.builtin "getset_descriptor.__get__"))
  ht : PySem.W.takesIn K (.builtin "object.__class__") = some true
  hm : PySem.W.mroIn K C (.type "object") = some true
def exnB (K : PySem.W.Frag) (C : Addr) : Bool := xfB K C && (decide (PySem.W.findIn K (.ref C) "at" = some none) && (decide (PySem.W.findIn K (.ref C) "__class__" = some (some (.builtin "object.__class__"))) &&
  (decide (PySem.W.specialIn K (.builtin "object.__class__") "__get__" = some (some (.builtin "getset_descriptor.__get__"))) && (decide (PySem.W.takesIn K (.builtin "object.__class__") = some true) && decide (PySem.W.mroIn K C (.type "object") = some true)))))
theorem exnB_ok {K : PySem.W.Frag} {C : Addr} (h : exnB K C = true) : ExnC K C := by
  obtain ⟨h1, h⟩ := Bool.and_eq_true_iff.mp h
  obtain ⟨h2, h⟩ := Bool.and_eq_true_iff.mp h
  obtain ⟨h3, h⟩ := Bool.and_eq_true_iff.mp h
  obtain ⟨h4, h⟩ := Bool.and_eq_true_iff.mp h
  obtain ⟨h5, h6⟩ := Bool.and_eq_true_iff.mp h
  exact ⟨xfB_ok h1, of_decide_eq_true h2, of_decide_eq_true h3, of_decide_eq_true h4, of_decide_eq_true h5, of_decide_eq_true h6⟩
theorem xd_like {dx : Addr} {x : V} : DxLike (.xd [("at", x)]) dx x := fun P w H h k => by
  obtain ⟨mA, h1, h2⟩ := k
  exact ⟨mA, h1, h2⟩
section
variable {X : Cx} {ca : Str → Addr} {W : WX} {pins : List (Addr × Obj)} {σ : L2.St} {H : Hp} {s : Shared} {a C dx : Addr} {o o' : HO} {x : V}
/-- how it lies in the heap -/
theorem exn_inst (I : Inv X pins σ H s) (T : ExnC X.K C) (h1 : H a = some o) (h2 : ExLike o a C dx) (h3 : H dx = some o') (h4 : DxLike o' dx x) :
    ∃ (oe od : Obj) (mA : Str → Option Value), PySem.W.InstAt s.heap a oe C (some od) ∧ (∀ name, PySem.W.lookIn name od = some (mA name)) ∧ ∀ f, RelO (([("at", x)] : List (Str × V)).lookup f) (mA f) := by
  obtain ⟨oe, e1, e2, e3, vs, e4⟩ := h2 _ _ _ _ (I.hok a o h1)
  obtain ⟨mA, hns, hr⟩ := h4 _ _ _ _ (I.hok dx o' h3)
  obtain ⟨od, ho, hl⟩ := lookIn_ns hns
  exact ⟨oe, od, mA, ⟨e1, e2, by unfold PySem.W.notCls; rw [e4] <;> rfl, by rw [e3]; exact ho⟩, hl, hr⟩
/-- e.at -/
theorem exn_at (I : Inv X pins σ H s) (T : ExnC X.K C) (h1 : H a = some o) (h2 : ExLike o a C dx) (h3 : H dx = some o') (h4 : DxLike o' dx x) {Q : VK} (q : Q x H) :
    wpAny (model X.prog X.w) X.A (getAttr (.ref a) "at" true) (EP X pins σ Q) X.xe s := by
  obtain ⟨oe, od, mA, J, hl, hr⟩ := exn_inst I T h1 h2 h3 h4
  obtain ⟨u, hu, ru⟩ := RelO.some_of (v := x) (o := mA "at") (by have := hr "at"; simpa [List.lookup] using this)
  exact HandSPX.exc_get I.kIn J T.xf.ga T.xf.gg T.xf.exC (PySem.W.findObj_own T.xf.hdC T.nat rfl (by rw [hl, hu])) (handed_of ru) ⟨x, H, I.tok _, ru, q⟩
/-- isinstance(e, c) -/
theorem exn_isi (I : Inv X pins σ H s) (T : ExnC X.K C) (h1 : H a = some o) (h2 : ExLike o a C dx) (h3 : H dx = some o') (h4 : DxLike o' dx x) {cv : Value} {b : Bool} (e : PySem.W.kitOne X.K (.ref C) cv = some b) {Q : VK} (q : Q (.bl b) H) :
    wpAny (model X.prog X.w) X.A (call (.builtin "isinstance") [.ref a, cv]) (EP X pins σ Q) X.xe s := by
  obtain ⟨oe, od, mA, J, hl, hr⟩ := exn_inst I T h1 h2 h3 h4
  have hcl : (PySem.W.clsIn X.K C).isSome = true := by
    obtain ⟨cd, hc, _⟩ := PySem.W.any_some T.xf.hdC
    rw [hc]
    rfl
  exact PySem.W.kia_one (PySem.W.kitx_exc hcl T.xf.ga T.xf.gg T.xf.exC T.ha T.hn T.ht T.hm) I.kIn J e (fun z => nomatch z) fun tk => ⟨.bl b, H, I.kept (t' := tk) fun _ _ z => z, rfl, q⟩
end
/-! ### a caught exception that goes on as a value -/
/-- what was caught: the object at a -/
def exq (a : Addr) (cls : Value) (d : Option Addr) : HO := .ext fun h => ∃ oe : Obj, h.get? a = some oe ∧ Zc cls d oe ∧ ∃ vs, oe.data = .fields vs
theorem exq_ok {P : Program} {w : World} {H : Hp} {h : Heap} {a : Addr} {cls : Value} {d : Option Addr} {oe : Obj} {vs : Array Value} (e : h.get? a = some oe) (z : Zc cls d oe) (f : oe.data = .fields vs) : ObjOk P w H h a (exq a cls d) :=
  ⟨⟨oe, e, z, vs, f⟩, ⟨oe, e⟩, fun _ _ ⟨o, q, r⟩ k => ⟨o, k o q, r⟩⟩
theorem exq_like {a C dx : Addr} : ExLike (exq a (.ref C) (some dx)) a C dx := fun P w H h k => by
  obtain ⟨⟨oe, e, ⟨z1, z2⟩, vs, f⟩, _⟩ := k
  exact ⟨oe, e, z1, z2, vs, f⟩
section
variable {X : Cx} {pins : List (Addr × Obj)} {σ : L2.St} {H : Hp} {s : Shared} {a : Addr} {o : HO}
theorem track (I : Inv X pins σ H s) (n0 : ∀ ob, X.s_0.heap.get? a = some ob → a ∈ X.ex) (na : H a = none) (nL : a ≠ X.env.locals) (nc : ∀ x c, X.env.cells.lookup x = some c → c ≠ a) (np : ∀ p ∈ X.pn ++ pins, p.1 ≠ a) (new : ObjOk X.prog X.w (upd H a o) s.heap a o) : Inv X pins σ (upd H a o) s := by
  refine ⟨I.ok, I.os, I.bare, ⟨I.base.keep, I.base.slot, fun b ob e n hx => ?_, I.base.there, fun b xs e => ?_, fun b ob u e => ?_, fun b ps e => ?_⟩, I.loc, I.cell, ?_, fun x c e => ?_, fun p hp => ?_, fun b ob e => ?_, I.len⟩
  · rw [upd_ne fun z => hx (by rw [z] at e ⊢; exact n0 ob e)]
    exact I.base.free b ob e n hx
  · have z := I.base.tups b xs e
    rw [upd_ne (ne_of_none z na)]
    exact z
  · have z := I.base.frzs b ob u e
    rw [upd_ne (ne_of_none z na)]
    exact z
  · obtain ⟨m, z⟩ := I.base.tbls b ps e
    exact ⟨m, by rw [upd_ne (ne_of_none z na)]; exact z⟩
  · rw [upd_ne (Ne.symm nL)]
    exact I.free
  · rw [upd_ne (nc x c e)]
    exact I.freeC x c e
  · obtain ⟨e1, e2, e3⟩ := I.pin p hp
    exact ⟨e1, by rw [upd_ne (np p hp)]; exact e2, e3⟩
  · by_cases hb : b = a
    · subst hb
      rw [upd_same] at e
      cases e
      exact new
    · rw [upd_ne hb] at e
      exact (I.hok b ob e).stay (fun c v _ q => q) (fun c q => by rw [upd_ne (ne_of_none q na)]; exact q) fun c xs q => by rw [upd_ne (ne_of_none q na)]; exact q
end
/-! ### X(e) as a value -/
section
variable {X : Cx}
/-- what makes an exception to be raised makes it as a value, too -/
theorem pe_of_pmk {e : Expr} {t : L2.St → Hp → XK → Prop} (he : PMk X e t) : PE X e (fun σ H Q => t σ H fun cls d H' => ∀ a, H' a = none → Q (.ref a) (upd H' a (exq a cls d))) := by
  refine ⟨fun pins s σ H Q I h => wpAny_mono (he pins s σ H _ I h) (fun u s1 hu => ?_) fun _ _ x => x⟩
  obtain ⟨a, oe, vs, sI, H', cls, d, hu, J, k, hne, ha, hz, hd, _, na, os, ag, _, q⟩ := hu
  have J1 : Inv X pins σ H' s1 := J.call' (ch := []) os (Un.kept k) (J.hok.kept k) ag fun b z => absurd z (by simp)
  have gone : ∀ {b : Addr} {o : Obj}, sI.heap.get? b = some o → b ≠ a := fun {b o} z e => by rw [e, hne] at z; cases z
  refine ⟨.ref a, _, track J1 ?_ na ?_ (fun x c e => ?_) (fun p hp => gone (J.pin p hp).1) (exq_ok ha hz hd), hu, q a na⟩
  · intro o e
    by_cases hx : a ∈ X.ex
    · exact hx
    · obtain ⟨o', z⟩ := J.base.there a o e hx
      exact absurd rfl (gone z)
  · obtain ⟨m, ⟨o, _, _, z, _⟩, _⟩ := J.loc
    exact Ne.symm (gone z)
  · obtain ⟨v, o, z, _⟩ := J.cell x c e
    exact gone z
end
def xMkV (c : Str) (m : XM (List DV)) : XM DV := xBind m fun ds => xV fun st => match ds with
  | [d] => some (.exn c d, st)
  | _ => none
/-- what an exception class needs, so that X(e) is a value -/
def EvOk (K : PySem.W.Frag) (ca : Str → Addr) (ev : Str → Bool) : Prop := ∀ c, ev c = true → ca c = He.ga K c ∧ ExnC K (ca c)
section
variable {X : Cx} {ca : Str → Addr} {W : WX} {x c : Str} {e : Expr} {m : XM (List DV)} {p pos : Pos} {ev : Str → Bool}
theorem re_mkV (E : ExcAt X ca x c) (hr : Room 2 X.A) (T : EvOk X.K ca ev) (hc : ev c = true) (hg : Gl X x) (hdb : (x == ("__debug__" : Str)) = false) (ha : PA X [e] (rdA X.K ca W m)) (hn : noStar e = true) :
    PE X (.Call (.Name x p) [e] [] pos) (rdE X.K ca W (xMkV c m)) := by
  obtain ⟨hm, D, fI, fd, O, hno, iC, tI, F1, hb⟩ := E
  refine pe_weak (pe_of_pmk (pmk_oex O.o iC tI F1 hr hb .nil C8.pass0 hg hm ha hdb (star_no hn) rfl)) fun σ H Q q => ?_
  refine rd_bind q fun G ρ st H1 vs ds R r o => ?_
  cases r with
  | nil =>
    obtain ⟨_, _, h, _⟩ := out_xV o
    cases h
  | @cons v d vs' ds' a b =>
    cases b with
    | cons _ _ =>
      obtain ⟨_, _, h, _⟩ := out_xV o
      cases h
    | nil =>
      obtain ⟨d2, st2, h, q2⟩ := out_xV o
      cases h
      refine ⟨by simp, fun ad had => ⟨ad, ca c, v, by simp, upd_same, O, hno, fun dx hdx hne => ?_⟩⟩
      rw [upd_ne hne] at hdx
      refine ⟨rfl, dx, [("at", v)], upd_same, by rw [upd_ne hne, upd_same], hdx, ?_⟩
      rw [del_upd (y := v) had hne]
      intro a2 ha2
      obtain ⟨le1, R1⟩ := R.froz (.xd [("at", v)]) hdx
      obtain ⟨le2, R2⟩ := R1.froz (exq a2 (.ref (ca c)) (some dx)) ha2
      refine q2 _ _ _ (le1.trans le2) R2 ?_
      refine .exn (dx := dx) (o' := .xd [("at", v)]) upd_same ?_ ?_ xd_like (a.mono (le1.trans le2))
      · exact (T c hc).1 ▸ exq_like
      · have hx : dx ≠ a2 := fun z => by rw [← z, upd_same] at ha2; cases ha2
        show upd (upd G.F dx (.xd [("at", v)])) a2 _ dx = _
        rw [upd_ne hx, upd_same]
end
/-! ### e.at -/
def xAt (ev : Str → Bool) (o : XM DV) : XM DV := xBind o fun d => xV fun st => match d with
  | .exn c v => if ev c then some (v, st) else none
  | _ => none
section
variable {X : Cx} {ca : Str → Addr} {W : WX} {e : Expr} {m : XM DV} {p pos : Pos} {ev : Str → Bool}
theorem pe_at {te : TE} (he : PE X e te) (hb : attributeBase e "at" X.env (eval e X.env) = eval e X.env) :
    PE X (.Attribute e "at" pos) (fun σ H Q => te σ H fun x H1 => ∃ (a C dx : Addr) (o o' : HO) (y : V), x = .ref a ∧ ExnC X.K C ∧ H1 a = some o ∧ ExLike o a C dx ∧ H1 dx = some o' ∧ DxLike o' dx y ∧ Q y H1) := by
  refine ⟨fun pins s σ H Q I h => ?_⟩
  refine attr_of hb (thn (he.run pins s σ H _ I h) fun u s1 ⟨x, H1, I1, rx, a, C, dx, o, o', y, ex, T, h1, h2, h3, h4, q⟩ => ?_)
  subst ex
  obtain rfl : u = Value.ref a := rx
  exact exn_at I1 T h1 h2 h3 h4 q
theorem re_at (T : EvOk X.K ca ev) (he : PE X e (rdE X.K ca W m)) (hb : attributeBase e "at" X.env (eval e X.env) = eval e X.env) : PE X (.Attribute e "at" pos) (rdE X.K ca W (xAt ev m)) := pe_weak (pe_at he hb) fun σ H Q q => by
  refine rd_bind q fun G ρ st H1 v d R r o => ?_
  obtain ⟨d2, st2, h, q2⟩ := out_xV o
  cases r with
  | @exn a dx c o1 o2 x y h1 h2 h3 h4 h5 =>
    simp only at h
    split at h
    · rename_i hc
      cases h
      obtain ⟨t1, t2⟩ := T c hc
      rw [← t1] at h2
      exact ⟨a, ca c, dx, o1, o2, x, rfl, t2, R.sub _ _ h1, h2, R.sub _ _ h3, h4, q2 G H1 x (Gm.le.refl _) R h5⟩
    · cases h
  | _ => cases h
end
/-! ### isinstance(e, X) -/
/-- what a name of a class means -/
def NmVal (mg : Str → Option Value) (h : Str) (vc : V) (cv : Value) : Prop := RelV vc cv ∧ (∀ u, RelV vc u → u = cv) ∧ (mg h = some cv ∨ (mg h = none ∧ bootBuiltins h = some cv))
def KitOk (K : PySem.W.Frag) (mg : Str → Option Value) (kit : Str → Option (Option Str → Option Bool)) : Prop := ∀ h f, kit h = some f → ∃ vc cv, NmVal mg h vc cv ∧ ∀ o b, f o = some b → (match o with
  | some c => PySem.W.kitOne K (.ref (He.ga K c)) cv = some b
  | none => PySem.W.kitOne K (.type "int") cv = some b)
def xIsi (ev : Str → Bool) (f : Option Str → Option Bool) (m : XM DV) : XM DV := xBind m fun d => xV fun st => match d with
  | .exn c _ => if ev c then (match f (some c) with
    | some b => some (.bl b, st)
    | none => none) else none
  | .int _ => (match f none with
    | some b => some (.bl b, st)
    | none => none)
  | _ => none
def rIsi (K : PySem.W.Frag) : List V → Hp → VK → Prop := fun xs H Q => ∃ (x vc : V) (cv : Value) (b : Bool), xs = [x, vc] ∧ (∀ u, RelV vc u → u = cv) ∧
  ((∃ (a C dx : Addr) (o o' : HO) (y : V), x = .ref a ∧ ExnC K C ∧ H a = some o ∧ ExLike o a C dx ∧ H dx = some o' ∧ DxLike o' dx y ∧ PySem.W.kitOne K (.ref C) cv = some b) ∨ (∃ t, TyOf K H x t ∧ PySem.W.kitOne K t cv = some b)) ∧ Q (.bl b) H
theorem call_isi {X : Cx} : CallR X (.builtin "isinstance") (rIsi X.K) := by
  intro pins s σ H xs us Q I r h
  obtain ⟨x, vc, cv, b, rfl, hcv, hk, q⟩ := h
  cases r with
  | cons rx rr =>
    cases rr with
    | cons rt rr =>
      cases rr
      have ec := hcv _ rt
      subst ec
      rcases hk with ⟨a, C, dx, o, o', y, rfl, T, h1, h2, h3, h4, e⟩ | ⟨t, ty, e⟩
      · cases (show _ = Value.ref a from rx)
        exact exn_isi I T h1 h2 h3 h4 e q
      · exact isinst_ok I rx ty e fun tk => ⟨.bl b, H, I.kept (t' := tk) fun _ _ z => z, rfl, q⟩
section
variable {X : Cx} {ca : Str → Addr} {W : WX} {e : Expr} {m : XM DV} {p p2 pos : Pos} {ev : Str → Bool} {kit : Str → Option (Option Str → Option Bool)} {f : Option Str → Option Bool} {h : Str}
theorem pe_nm {vc : V} {cv : Value} (N : NmVal X.mg h vc cv) (hg : Gl X h) (hd : (h == ("__debug__" : Str)) = false) (hn : h ≠ "__name__") : PE X (.Name h p) (tC vc) := by
  obtain ⟨r, _, e | ⟨e, f⟩⟩ := N
  · exact pe_glob hg e r hd
  · exact ⟨fun pins s σ H Q I q => ld_blt I hg e f ⟨vc, H, I, r, q⟩ hn hd⟩
theorem re_isi (T : EvOk X.K ca ev) (KO : KitOk X.K X.mg kit) (hf : kit h = some f) (hg : Gl X "isinstance") (hm : X.mg "isinstance" = none) (hh : Gl X h) (hd : (h == ("__debug__" : Str)) = false) (hn : h ≠ "__name__") (he : PE X e (rdE X.K ca W m)) (hs : noStar e = true) :
    PE X (.Call (.Name "isinstance" p) [e, .Name h p2] [] pos) (rdE X.K ca W (xIsi ev f m)) := by
  obtain ⟨vc, cv, N, hk⟩ := KO h f hf
  refine pe_weak (pe_callB call_isi hg hm (by first | rfl | kernel_rfl) (pa_cons he (pa_cons (pe_nm (p := p2) N hh hd hn) pa_nil rfl) (star_no hs)) (by decide) (by decide) (star_no hs) rfl) fun σ H Q q => ?_
  refine rd_bind q fun G ρ st H1 v d R r o => ?_
  obtain ⟨d2, st2, h, q2⟩ := out_xV o
  show rIsi X.K [v, vc] H1 Q
  cases r with
  | @exn a dx c o1 o2 x y h1 h2 h3 h4 h5 =>
    simp only at h
    split at h
    · rename_i hc
      cases e3 : f (some c) with
      | none => rw [e3] at h; cases h
      | some b =>
        rw [e3] at h
        cases h
        obtain ⟨t1, t2⟩ := T c hc
        have hk' : PySem.W.kitOne X.K (.ref (He.ga X.K c)) cv = some b := hk _ _ e3
        rw [← t1] at h2 hk'
        exact ⟨_, vc, cv, b, rfl, N.2.1, .inl ⟨a, ca c, dx, o1, o2, x, rfl, t2, R.sub _ _ h1, h2, R.sub _ _ h3, h4, hk'⟩, q2 G H1 _ (Gm.le.refl _) R (.bl b)⟩
    · cases h
  | int i =>
    simp only at h
    cases e3 : f none with
    | none => rw [e3] at h; cases h
    | some b =>
      rw [e3] at h
      cases h
      exact ⟨_, vc, cv, b, rfl, N.2.1, .inr ⟨_, .int i, hk _ _ e3⟩, q2 G H1 _ (Gm.le.refl _) R (.bl b)⟩
  | _ => cases h
end
end Mi

set_option maxHeartbeats 4000000
namespace Mi
open PySem PySem.Spec PyProof.Rows L2

/-! ### try: body, except H as n: .. where what is returned may be n itself -/
/-- the wish: whatever is returned, the exception is tracked from then on -/
def wTr (K : PySem.W.Frag) (c : Value) (i : Nat) (ts : Addr → Value → Option Addr → TS) (Wout : WX) (D : Ends) : WX := fun cls d σ H =>
  ∃ b, PySem.W.exmOne K cls c = some b ∧ (b = false → Wout cls d σ H) ∧
    (b = true → ∀ a, H a = none → ts a cls d { nx := fun _ _ => False, bk := fun _ _ => False, ct := fun _ _ => False, rt := fun v H' => H' a = none → D.rt v (upd H' a (exq a cls d)) } (σ.set i (some (.ref a))) H)
/-- what the body and the suite promise -/
def BodyTr (X : Cx) (body : List Stmt) (tb : WX → TS) : Prop := ∀ (V : WX) (pn : List (Addr × Obj)) (look : Value → Shared → Prop), Takes (X.tr pn look) V → PassesOwn (model X.prog X.w) X.A X.env look → PSs (X.tr pn look) body (tb V)
def SuiteTr (X : Cx) (suite : List Stmt) (ts : Addr → Value → Option Addr → TS) : Prop := ∀ (a : Addr) (ob : Obj) (k : Value) (d : Option Addr) (pn : List (Addr × Obj)), Zc k d ob → (∃ vs, ob.data = .fields vs) → PSs (X.suite a ((a, ob) :: pn)) suite (ts a k d)
section
variable {X : Cx} {c : Value} {x n : Str} {i : Nat} {b₀ : Stmt} {body suite : List Stmt} {pos pos' np : Pos} {Wout : WX} {ts : Addr → Value → Option Addr → TS} {tb : WX → TS}
/-- the suite is left: what it held on to stays pinned -/
theorem leave {pins : List (Addr × Obj)} {σ : L2.St} {H : Hp} {s : Shared} {a : Addr} {oe : Obj} (S : Inv (X.suite a ((a, oe) :: (X.pn ++ pins))) [] σ H s) (ok : X.Ok) : Inv X (pins ++ [(a, oe)]) σ H s := by
  have U := S.unsuite ok
  refine U.pins_of fun p hp => ?_
  rcases List.mem_append.mp hp with z | z
  · exact U.pin p (List.mem_append_right _ z)
  · obtain rfl := List.mem_singleton.mp z
    exact S.pin (a, oe) (List.mem_append_left _ List.mem_cons_self)
theorem ps_try_tr (hs : X.stack = X.env :: X.outer) (hf : X.env.frame = some X.env.locals) (hN : X.N.Nodup) (hi : X.N[i]? = some n) (hln : X.env.kindOf n = some .local) (hc : Names X x c) (tk : Takes X Wout)
    (hb : BodyTr X body tb) (hsu : SuiteTr X (b₀ :: suite) ts) :
    PS X (.Try body [.ExceptHandler (some (.Name x np)) (some n) (b₀ :: suite) pos'] [] [] pos) (fun D σ H => tb (wTr X.K c i ts Wout D) D σ H) := by
  constructor
  intro pins s σ H D I h
  have ok := I.ok
  refine wpAny_Try_except ?_
  have run := (hb (wTr X.K c i ts Wout D) (X.pn ++ pins) _ (fun u s' xx => ?_) PassesOwn.looking).run [] s σ H D (I.toTry (fun e s₁ => wpAny (model X.prog X.w) X.A (noteFrame e X.env) (fun _ s₂ => wpAny (model X.prog X.w) X.A (setFlight e none)
    (fun _ s₃ => wpAny (model X.prog X.w) X.A (handleBy e X.env [.ExceptHandler (some (.Name x np)) (some n) (b₀ :: suite) pos']) (SP X pins D) X.xe s₃) X.xe s₂) X.xe s₁)) h
  · refine wpAny_mono run (fun f s1 q => ?_) fun _ _ z => z
    cases f with
    | next => obtain ⟨σ1, H1, J, q⟩ := q; exact wpAny_execs_nil ⟨σ1, H1, J.ofTry ok, q⟩
    | brk => obtain ⟨σ1, H1, J, q⟩ := q; exact ⟨σ1, H1, J.ofTry ok, q⟩
    | cont => obtain ⟨σ1, H1, J, q⟩ := q; exact ⟨σ1, H1, J.ofTry ok, q⟩
    | ret u => obtain ⟨v, σ1, H1, J, r, q⟩ := q; exact ⟨v, σ1, H1, J.ofTry ok, r, q⟩
  · -- an exception came
    obtain ⟨a, B, sI, pins', τ, G, cls, d, rfl, J', nb, up, sky, na, os, ag, b, hk, hout, hin⟩ := xx
    have J : Inv X pins τ G sI := J'.ofTry ok
    rw [show (X.tr (X.pn ++ pins) _).stack = X.env :: X.outer from hs] at sky
    show wpAny _ X.A (noteFrame (.ref a) X.env) _ _ _
    refine Sky.land Zc.steady (by rw [ok.frames, hs]) hf sky fun g1 air1 up1 => ?_
    have low : ∀ {g : Heap}, (HandSPX.FlyingZ B (X.env :: X.outer) a (Zc cls d) g) → sI.heap.UpToSlots g → Inv X pins τ G { s' with heap := g } := fun {g} fl u => J.landed nb fl.1 u os ag
    have J1 := low air1 (up.trans up1)
    obtain ⟨ob, vs, hob, hz, hd⟩ := air1.there
    have noF : a ∉ frs (X.env :: X.outer) := fun hm => by
      obtain ⟨_, o', e', hnf⟩ := air1.2.2.1.mem hm
      rw [hob] at e'
      cases e'
      exact hnf _ hd
    have gone : sI.heap.get? a = none := by
      cases e : sI.heap.get? a with
      | none => rfl
      | some o =>
        have z := nb a o e (by show a ∉ frs X.stack; rw [hs]; exact noF)
        rw [air1.2.1] at z
        cases z
    have gone' : ∀ {b : Addr} {o : Obj}, sI.heap.get? b = some o → b ≠ a := fun {b o} z e => by rw [e, gone] at z; cases z
    have noL : a ≠ X.env.locals := fun z => noF (List.mem_filterMap.mpr ⟨X.env, List.mem_cons_self, by rw [hf, z]⟩)
    have noFs : a ∉ X.fs := fun hm => by
      obtain ⟨ev, mem, at_⟩ := List.mem_filterMap.mp hm
      exact noF (List.mem_filterMap.mpr ⟨ev, List.mem_cons_of_mem _ mem, at_⟩)
    have T1 := J1.suite hob hd na noL noFs
    apply wpAny_handleBy_cons ?_ (by intro q; cases q)
    apply codeAny_handlers_test
    have ty : PySem.W.Looks (model X.prog X.w) g1 (typeOf (.ref a)) cls := fun A Q E s k q => wpAny_typeOf_ref (k _ _ hob) (by rw [hz.1]; exact q)
    have asks := PySem.W.exm_one (M := model X.prog X.w) (J1.kIn) ty hk
    have name : ∀ {Q E : Value → Shared → Prop}, Q c { s' with heap := g1 } → wpAny (model X.prog X.w) (X.A.mark (some (.ref a))) (eval (.Name x np) X.env) Q E { s' with heap := g1 } := fun {Q E} q => by
      obtain ⟨hg, h1, h2⟩ := hc
      rcases h2 with h2 | ⟨h2, h3, h4⟩
      · exact ld_glob (X := X.suite a _) T1 hg h2 q h1
      · exact ld_blt (X := X.suite a _) T1 hg h2 h3 q h4 h1
    refine name (asks.here ?_)
    cases b with
    | false =>
      apply wpAny_handleBy_nil
      obtain ⟨_, _, _, o2, us, tb', _, _, z1, _, z3, z4, _⟩ := id air1
      unfold PySem.passOn
      refine wpAny_bind (wpAny_field z1 z3 z4 ?_)
      rw [if_neg (show ¬ ((Value.ref tb' == Value.none) = true) from by simp)]
      have fin : wpAny (model X.prog X.w) X.A (setFlight (.ref a) X.env.frame) (fun _ s4 => wpAny (model X.prog X.w) X.A (throw (.ref a) : Sem Flow) (SP X pins D) X.xe s4) X.xe { s' with heap := g1 } := by
        rw [hf]
        refine HandSPX.setFlight_upZ air1 fun g2 air2 up2 => wpAny_throw (tk _ _ ?_)
        refine ⟨a, B, sI, pins, τ, G, cls, d, rfl, J, nb, (up.trans up1).trans up2, .inr (.inr ?_), na, os, ag, hout rfl⟩
        rw [hs]
        exact air2
      first | exact wpAny_bind (wpAny_pure (wpAny_bind fin)) | exact wpAny_bind fin
    | true =>
      apply codeAny_handlers_suite_as
      refine HandSPX.lands_againZ air1 fun g2 air2 up2 => ?_
      have J2 := low air2 ((up.trans up1).trans up2)
      obtain ⟨oe, ws, hoe, hz2, hd2⟩ := air2.there
      refine store_ok (X := X.suite a ((a, oe) :: (X.pn ++ pins))) (v := .ref a) (J2.suite hoe hd2 na noL noFs) hN hi (.inl hln) rfl (fun s5 T5 => ?_) (.inr hln)
      refine wpAny_mono ((hsu a oe cls d (X.pn ++ pins) hz2 ⟨_, hd2⟩).run [] s5 _ G _ T5 (hin rfl a na)) (fun f s6 end6 => ?_) (fun _ _ z => False.elim z)
      cases f with
      | next => obtain ⟨_, _, _, z⟩ := end6; exact False.elim z
      | brk => obtain ⟨_, _, _, z⟩ := end6; exact False.elim z
      | cont => obtain ⟨_, _, _, z⟩ := end6; exact False.elim z
      | ret u =>
        obtain ⟨v, τ6, G6, T6, r6, q6⟩ := end6
        refine gone_ok (leave T6 ok) hN hi hln fun s7 J7 => ?_
        obtain ⟨p1, p2, p3, _⟩ := J7.pin (a, oe) (List.mem_append_right _ (List.mem_append_right _ (List.mem_singleton.mpr rfl)))
        have J8 : Inv X pins (τ6.set i none) G6 s7 := J7.pins_of fun p hp => J7.pin p (List.mem_append_right _ (List.mem_append_left _ hp))
        refine ⟨v, _, _, track J8 (fun o e => ?_) p2 p3 (fun y z e => ?_) (fun p hp => ?_) (exq_ok p1 hz2 hd2), r6, q6 p2⟩
        · by_cases hx : a ∈ X.ex
          · exact hx
          · obtain ⟨o', z⟩ := J.base.there a o e hx
            exact absurd rfl (gone' z)
        · obtain ⟨v', o', z, _⟩ := J.cell y z e
          exact gone' z
        · exact gone' (J.pin p hp).1
end
/-! ### .. by the mirror: except H as n: return n -/
def sTryR (exm : Str → Str → Option Bool) (ev : Str → Bool) (b : SM) (i : Nat) (hc : Str) : SM := fun ρ st => match b ρ st with
  | .exc c v ρ' st' => (match exm c hc with
    | some true => if ev c && decide (i < ρ'.length) then .ok (.rt (.exn c v), ρ', st') else .bad
    | some false => .exc c v ρ' st'
    | none => .bad)
  | r => r
/-- a caught exception's dict is frozen, too -/
theorem froz_xd {K : PySem.W.Frag} {ca : Str → Addr} {G : Gm} {σ : L2.St} {ρ : Ev} {st : Store} {H : Hp} {dd : Addr} {fs : List (Str × V)} (R : RelS K ca G σ ρ st H) (hB : G.B dd = none) (e : H dd = some (.xd fs)) :
    ∃ G', G.le G' ∧ RelS K ca G' σ ρ st H ∧ G'.F dd = some (.xd fs) := by
  cases hF : G.F dd with
  | some o =>
    have z := R.sub _ _ hF
    rw [e] at z
    cases z
    exact ⟨G, Gm.le.refl _, R, hF⟩
  | none =>
    obtain ⟨le, R'⟩ := R.froz1 e hF hB fun j c h l z => by
      have C := R.cells j c h
      rw [z] at C
      cases c with
      | lst ds => obtain ⟨_, q, _⟩ := C; rw [e] at q; cases q
      | dct ds => obtain ⟨_, q, _⟩ := C; rw [e] at q; cases q
      | ins _ _ => obtain ⟨_, _, q, _⟩ := C; rw [e] at q; cases q
      | dead => exact l
    exact ⟨_, le, R', upd_same⟩
section
variable {X : Cx} {ca : Str → Addr} {W : WX} {exm : Str → Str → Option Bool} {ev : Str → Bool}
theorem psm_tryR {i : Nat} {n x hc : Str} {body : List Stmt} {b : SM} {np pos pos' p1 p2 : Pos} (hs : X.stack = X.env :: X.outer) (hf : X.env.frame = some X.env.locals) (hN : X.N.Nodup) (hi : X.N[i]? = some n) (hln : X.env.scope.names.lookup n = some .local)
    (hnm : Names X x (.ref (ca hc))) (tk : Takes X W) (h1 : (n == ("__debug__" : Str)) = false) (h2 : (n == ("__classdict__" : Str)) = false) (he : ExmOk X.K ca exm) (T : EvOk X.K ca ev) (hb : BodyTr X body fun V => rdS X.K ca V b) :
    PS X (.Try body [.ExceptHandler (some (.Name x np)) (some n) [.Return (some (.Name n p1)) p2] pos'] [] [] pos) (rdS X.K ca W (sTryR exm ev b i hc)) := by
  refine ps_weak (ps_try_tr (ts := fun a cls d => tRet (tVar i)) (Wout := W) hs hf hN hi hln hnm tk hb fun a oe cls d pn hz hff => pss_one (ps_ret (pe_var hi (.inl hln) h1 h2))) fun D σ H h => ?_
  obtain ⟨G, ρ, st, R, o⟩ := h
  refine ⟨G, ρ, st, R, ?_⟩
  unfold sTryR at o
  cases e : b ρ st with
  | bad => rw [e] at o; exact o
  | ok p => rw [e] at o; exact o
  | exc c v ρ' st' =>
    rw [e] at o
    simp only at o
    intro G1 σ1 Hx dd y le R1 hB e1 ry
    cases e2 : exm c hc with
    | none => rw [e2] at o; exact o.elim
    | some k =>
      rw [e2] at o
      refine ⟨k, he c hc k e2, fun hk => ?_, fun hk a ha => ?_⟩
      · subst hk
        exact o G1 σ1 Hx dd y le R1 hB e1 ry
      · subst hk
        simp only at o
        split at o
        · rename_i hq
          rw [Bool.and_eq_true, decide_eq_true_eq] at hq
          obtain ⟨t1, t2⟩ := T c hq.1
          refine ⟨.ref a, List.getElem?_set_self (by rw [R1.len]; exact hq.2), fun _ => ?_⟩
          obtain ⟨G2, le2, R2, e3⟩ := froz_xd R1 hB e1
          obtain ⟨le3, R3⟩ := R2.froz (exq a (.ref (ca c)) (some dd)) ha
          refine o _ σ1 _ (le.trans (le2.trans le3)) R3 (.ref a) ?_
          have ne : dd ≠ a := fun z => by rw [z, ha] at e1; cases e1
          refine .exn (dx := dd) (o' := .xd [("at", y)]) upd_same (t1 ▸ exq_like) ?_ xd_like (ry.mono (le2.trans le3))
          show upd G2.F a _ dd = _
          rw [upd_ne ne]
          exact e3
        · exact o.elim
end
end Mi

set_option maxHeartbeats 4000000
namespace Mi
open PySem PySem.Spec PyProof.Rows L2

/-! ### the context -/
inductive Gk where
  | val (d : DV) | fn (df : Df) | cls (c : Str) (df : Df) | exc (c : Str)
structure Ctx where
  N : List Str
  sc : Scope
  /-- a def's own context (no comprehension's) -/
  fn : Bool
  k : Nat
  glob : Str → Option Gk
  bi : Str → Bool
  meth : Str → Str → Option Df
  attr : Str → Str → Bool
  exm : Str → Str → Option Bool
  xf : Str → Bool
  mu : Pos → Bool
  frz : Pos → Bool
  fuel : Nat
  /-- while an exception is handled -/
  hot : Bool := false
  /-- methods that may be called there -/
  hm : Str → Str → Option Df := fun _ _ => none
  /-- classes of exceptions that are made and kept as values -/
  ev : Str → Bool := fun _ => false
  /-- what isinstance says: of a class's name, of an exception's class or of an int -/
  kit : Str → Option (Option Str → Option Bool) := fun _ => none
def slotFrom : List Str → Str → Nat → Option Nat
  | [], _, _ => none
  | y :: r, x, i => if y = x then some i else slotFrom r x (i + 1)
def slotOf (N : List Str) (x : Str) : Option Nat := slotFrom N x 0
theorem slotFrom_ok {x : Str} : ∀ {N : List Str} {j i : Nat}, slotFrom N x j = some i → j ≤ i ∧ N[i - j]? = some x
  | [], _, _, h => by cases h
  | y :: r, j, i, h => by
    unfold slotFrom at h
    split at h
    · rename_i e
      cases h
      exact ⟨Nat.le_refl _, by rw [Nat.sub_self, e]; rfl⟩
    · obtain ⟨h1, h2⟩ := slotFrom_ok h
      refine ⟨by omega, ?_⟩
      have e : i - j = (i - (j + 1)) + 1 := by omega
      rw [e]
      exact h2
theorem slotOf_ok {N : List Str} {x : Str} {i : Nat} (h : slotOf N x = some i) : N[i]? = some x := (slotFrom_ok h).2
def visB (sc : Scope) (x : Str) : Bool := match sc.names.lookup x with
  | some .local => true
  | some .cell => true
  | some .free => true
  | _ => false
theorem visB_ok {sc : Scope} {x : Str} (h : visB sc x = true) : Vis sc x := by
  unfold visB at h
  split at h
  · rename_i e; exact .inl e
  · rename_i e; exact .inr (.inl e)
  · rename_i e; exact .inr (.inr e)
  · cases h
def nameOk (x : Str) : Bool := !(x == ("__debug__" : Str)) && !(x == ("__classdict__" : Str))
theorem nameOk_ok {x : Str} (h : nameOk x = true) : (x == ("__debug__" : Str)) = false ∧ (x == ("__classdict__" : Str)) = false := by
  unfold nameOk at h
  rw [Bool.and_eq_true, Bool.not_eq_true', Bool.not_eq_true'] at h
  exact h
def storeB (C : Ctx) (x : Str) : Bool := match C.sc.names.lookup x with
  | some .local => true
  | some .cell => C.fn
  | _ => false
def glB (sc : Scope) (x : Str) : Bool := sc.names.lookup x == some .globalImplicit
section
variable (ca : Str → Addr)
def GlOk (k : Nat) (X : Cx) (x : Str) : Gk → Prop
  | .val d => ∃ v u, X.mg x = some u ∧ RelV v u ∧ ∀ G, RepV X.K G v d
  | .fn df => ∃ f, X.mg x = some (.ref f) ∧ PySem.W.keepIn X.K (.ref f) = true ∧ FnAt X ca k f df
  | .cls c df => X.mg x = some (.ref (ca c)) ∧ ∃ f, Mk X.K (ca c) f ∧ FnAt X ca k f df
  | .exc c => ExcAt X ca x c
structure CtxOk (C : Ctx) (X : Cx) : Prop where
  env : Env1 X
  nd : X.N.Nodup
  N : X.N = C.N
  sc : X.env.scope = C.sc
  kind : C.sc.kind = .function
  fn : C.fn = true → ∀ x, X.fn x = true
  room : Room (C.k + 1) X.A
  passes : PassesOwn (model X.prog X.w) X.A X.env X.xe
  glob : ∀ x g, C.glob x = some g → GlOk ca C.k X x g
  bi : ∀ x, C.bi x = true → X.mg x = none
  meth : ∀ m, MethOk X ca C.k m (C.meth m)
  attr : ∀ f, AttrOk X.K ca f (C.attr f)
  exm : ExmOk X.K ca C.exm
  xf : XfOk X.K ca C.xf
  stk : C.fn = true → X.stack = X.env :: X.outer ∧ X.env.frame = some X.env.locals
  hm : ∀ m, HMethOk X ca C.k m (C.hm m)
  nh : C.hot = false
  ev : EvOk X.K ca C.ev
  kit : KitOk X.K X.mg C.kit
/-- .. while an exception is handled -/
structure CtxOkH (C : Ctx) (X : Cx) : Prop where
  nd : X.N.Nodup
  N : X.N = C.N
  sc : X.env.scope = C.sc
  un : X.A.units + 64 < cLine
  room : L2H.RoomH C.k X.A
  glob : ∀ x d, C.glob x = some (.val d) → GlOk ca C.k X x (.val d)
  attr : ∀ f, AttrOk X.K ca f (C.attr f)
  hm : ∀ m, HMethOk X ca C.k m (C.hm m)
  hotx : HotX X
  nh : C.hot = true
  ev : EvOk X.K ca C.ev
end
section
variable {ca : Str → Addr} {C : Ctx} {X : Cx}
theorem CtxOk.store (h : CtxOk ca C X) {x : Str} (e : storeB C x = true) : Loc X.env.scope x ∧ (X.fn x = true ∨ X.env.scope.names.lookup x = some .local) := by
  unfold storeB at e
  rw [h.sc]
  split at e
  · rename_i q; exact ⟨.inl q, .inr q⟩
  · rename_i q; exact ⟨.inr q, .inl (h.fn e x)⟩
  · cases e
theorem CtxOk.vis (h : CtxOk ca C X) {x : Str} (e : visB C.sc x = true) : Vis X.env.scope x := by rw [h.sc]; exact visB_ok e
theorem CtxOk.gl (h : CtxOk ca C X) {x : Str} (e : glB C.sc x = true) : Gl X x := by
  show X.env.scope.names.lookup x = _
  rw [h.sc]
  exact beq_iff_eq.mp e
theorem FnAt.cast {X Y : Cx} {k : Nat} {f : Addr} {df : Df} (h1 : Y.prog = X.prog) (h2 : Y.w = X.w) (h3 : Y.K = X.K) (h4 : Y.mg = X.mg) (h5 : Y.base = X.base) (F : FnAt X ca k f df) : FnAt Y ca k f df := by
  obtain ⟨h⟩ := F
  refine ⟨?_⟩
  rw [h1, h2, h3, h4, h5]
  exact h
theorem GlOk.cast {X Y : Cx} {k : Nat} {x : Str} {g : Gk} (h1 : Y.prog = X.prog) (h2 : Y.w = X.w) (h3 : Y.K = X.K) (h4 : Y.mg = X.mg) (h5 : Y.base = X.base) (F : GlOk ca k X x g) : GlOk ca k Y x g := by
  cases g with
  | val d =>
    obtain ⟨v, u, a, b, c⟩ := F
    exact ⟨v, u, by rw [h4]; exact a, b, by rw [h3]; exact c⟩
  | fn df =>
    obtain ⟨f, a, b, c⟩ := F
    exact ⟨f, by rw [h4]; exact a, by rw [h3]; exact b, c.cast h1 h2 h3 h4 h5⟩
  | cls c df =>
    obtain ⟨a, f, b, c⟩ := F
    exact ⟨by rw [h4]; exact a, f, by rw [h3]; exact b, c.cast h1 h2 h3 h4 h5⟩
  | exc c =>
    obtain ⟨a, D, fI, fd, b1, b2, b3, b4, b5, b6⟩ := F
    exact ⟨by rw [h4]; exact a, D, fI, fd, by rw [h3]; exact b1, by rw [h3]; exact b2, by rw [h3]; exact b3, by rw [h3]; exact b4, by rw [h1, h2, h3, h4, h5]; exact b5, by rw [h3]; exact b6⟩
theorem MethOk.cast {X Y : Cx} {k : Nat} {m : Str} {mt : Str → Option Df} (h1 : Y.prog = X.prog) (h2 : Y.w = X.w) (h3 : Y.K = X.K) (h4 : Y.mg = X.mg) (h5 : Y.base = X.base) (F : MethOk X ca k m mt) : MethOk Y ca k m mt := fun c df h => by
  obtain ⟨a, f, b, d⟩ := F c df h
  exact ⟨by rw [h3]; exact a, f, by rw [h3]; exact b, d.cast h1 h2 h3 h4 h5⟩
theorem FnQAt.cast {X Y : Cx} {k : Nat} {f : Addr} {df : Df} (h1 : Y.prog = X.prog) (h2 : Y.w = X.w) (h3 : Y.K = X.K) (h4 : Y.mg = X.mg) (h5 : Y.base = X.base) (F : FnQAt X ca k f df) : FnQAt Y ca k f df := by
  obtain ⟨h⟩ := F
  refine ⟨?_⟩
  rw [h1, h2, h3, h4, h5]
  exact h
theorem HMethOk.cast {X Y : Cx} {k : Nat} {m : Str} {mt : Str → Option Df} (h1 : Y.prog = X.prog) (h2 : Y.w = X.w) (h3 : Y.K = X.K) (h4 : Y.mg = X.mg) (h5 : Y.base = X.base) (F : HMethOk X ca k m mt) : HMethOk Y ca k m mt := fun c df h => by
  obtain ⟨a, f, b, d⟩ := F c df h
  exact ⟨by rw [h3]; exact a, f, by rw [h3]; exact b, d.cast h1 h2 h3 h4 h5⟩
def Ctx.suite (C : Ctx) : Ctx := { C with hot := true, fn := false }
theorem CtxOk.suite (h : CtxOk ca C X) (a : Addr) (oe : Obj) (pn : List (Addr × Obj)) : CtxOkH ca C.suite (X.suite a ((a, oe) :: pn)) where
  nd := h.nd
  N := h.N
  sc := h.sc
  un := h.env.units
  room := ⟨(h.room.mono (Nat.le_succ _)).dp, (h.room.mono (Nat.le_succ _)).un⟩
  glob := fun x d e => GlOk.cast (X := X) rfl rfl rfl rfl rfl (h.glob x _ e)
  attr := h.attr
  hm := fun m => HMethOk.cast (X := X) rfl rfl rfl rfl rfl (h.hm m)
  hotx := ⟨(a, oe), rfl, List.mem_cons_self⟩
  nh := rfl
  ev := h.ev
/-- in a comprehension's block -/
def Ctx.blk (C : Ctx) (scope : Scope) : Ctx := { C with sc := relS scope C.sc, fn := false }
theorem CtxOk.blk (h : CtxOk ca C X) {scope : Scope} (hk : scope.kind = .function) (s : Shared) (H : Hp) (D : Addr) (cl : List (Str × Addr)) (fp : List Addr) : CtxOk ca (C.blk scope) (X.blk s H scope (compEnvC scope cl D X.env) fp) where
  env := ⟨h.env.calm, h.env.sys, h.env.guards, h.env.units⟩
  nd := h.nd
  N := h.N
  sc := by
    show relabel scope X.env = relS scope C.sc
    rw [← h.sc]
    rfl
  kind := hk
  fn := fun e => by cases e
  room := h.room
  passes := PassesOwn.never
  glob := fun x g e => GlOk.cast (X := X) rfl rfl rfl rfl rfl (h.glob x g e)
  bi := h.bi
  meth := fun m => MethOk.cast (X := X) rfl rfl rfl rfl rfl (h.meth m)
  attr := h.attr
  exm := h.exm
  xf := h.xf
  stk := fun e => by cases e
  hm := fun m => HMethOk.cast (X := X) rfl rfl rfl rfl rfl (h.hm m)
  nh := h.nh
  ev := h.ev
  kit := h.kit
/-! ### a comprehension's own names -/
def isOwn : NameKind → Bool
  | .local => true
  | .cell => true
  | _ => false
def ownOf (N : List Str) : List (Str × NameKind) → List (Str × Nat)
  | [] => []
  | (x, k) :: r => if isOwn k then (match slotOf N x with
    | some i => (x, i) :: ownOf N r
    | none => ownOf N r) else ownOf N r
def blkB (sc scope : Scope) : Bool := (scope.kind == .function) && scope.names.all (fun y => scope.names.lookup y.1 == some y.2 && (!(y.2 == .free) || sc.names.lookup y.1 == some .cell || sc.names.lookup y.1 == some .free))
theorem ownOf_ix {N : List Str} : ∀ {l : List (Str × NameKind)} {p : Str × Nat}, p ∈ ownOf N l → N[p.2]? = some p.1
  | [], _, h => by cases h
  | (x, k) :: r, p, h => by
    unfold ownOf at h
    split at h
    · split at h
      · rename_i i e
        rcases List.mem_cons.mp h with q | q
        · rw [q]; exact slotOf_ok e
        · exact ownOf_ix q
      · exact ownOf_ix h
    · exact ownOf_ix h
theorem slotFrom_none {x : Str} : ∀ {N : List Str} {j : Nat}, slotFrom N x j = none → x ∉ N
  | [], _, _ => by simp
  | y :: r, j, h => by
    unfold slotFrom at h
    split at h
    · cases h
    · rename_i e
      intro m
      rcases List.mem_cons.mp m with q | q
      · exact e q.symm
      · exact slotFrom_none h q
theorem ownOf_has {N : List Str} : ∀ {l : List (Str × NameKind)} {y : Str × NameKind}, y ∈ l → isOwn y.2 = true → y.1 ∈ (ownOf N l).map (·.1) ∨ y.1 ∉ N
  | [], _, h, _ => by cases h
  | (x, k) :: r, y, h, o => by
    unfold ownOf
    rcases List.mem_cons.mp h with q | q
    · subst q
      rw [if_pos o]
      split
      · exact .inl (by simp)
      · rename_i e; exact .inr (slotFrom_none e)
    · rcases ownOf_has (N := N) q o with z | z
      · refine .inl ?_
        split
        · split
          · exact List.mem_cons_of_mem _ z
          · exact z
        · exact z
      · exact .inr z
theorem blkB_ok {N : List Str} {sc scope : Scope} (h : blkB sc scope = true) : BlkOk N sc scope (ownOf N scope.names) := by
  unfold blkB at h
  rw [Bool.and_eq_true, List.all_eq_true] at h
  refine ⟨beq_iff_eq.mp h.1, fun y hy => ?_, fun p hp => ownOf_ix hp, fun y hy e => ?_, fun y hy o => ownOf_has hy ?_⟩
  · have z := h.2 y hy
    rw [Bool.and_eq_true] at z
    exact beq_iff_eq.mp z.1
  · have z := h.2 y hy
    rw [Bool.and_eq_true, e] at z
    have z2 := z.2
    simp at z2
    exact z2
  · rcases o with e | e <;> rw [e] <;> rfl
end
/-! ### freezing -/
def xFrz (i : Nat) : XM DV := fun ρ st => match ρ[i]? with
  | some (some (.ref n)) => (match st[n]? with
    | some (.lst xs) => .ok (.lst xs, st.set n .dead)
    | some (.dct xs) => .ok (.dct xs, st.set n .dead)
    | _ => .bad)
  | _ => .bad
theorem re_frz {X : Cx} {ca : Str → Addr} {W : WX} {i : Nat} {e : Expr} (h : PE X e (tVar i)) : PE X e (rdE X.K ca W (xFrz i)) := pe_weak h fun σ H Q q => by
  obtain ⟨G, ρ, st, R, o⟩ := q
  unfold xFrz at o
  cases h : ρ[i]? with
  | none => rw [h] at o; exact o.elim
  | some x =>
    cases x with
    | none => rw [h] at o; exact o.elim
    | some d =>
      obtain ⟨v, h1, h2⟩ := R.env i d h
      cases d with
      | ref n =>
        rw [h] at o
        simp only at o
        cases h2 with
        | ref hn =>
          cases e0 : st[n]? with
          | none => rw [e0] at o; exact o.elim
          | some c =>
            rw [e0] at o
            have RC := R.cells n c e0
            cases c with
            | lst xs =>
              obtain ⟨vs, e1, e2⟩ := RC
              obtain ⟨le, R'⟩ := R.frz e0 trivial e1
              exact ⟨_, h1, o _ H _ le R' (.lst upd_same (e2.mono le))⟩
            | dct xs =>
              obtain ⟨vs, e1, e2⟩ := RC
              obtain ⟨le, R'⟩ := R.frz e0 trivial e1
              exact ⟨_, h1, o _ H _ le R' (.dct upd_same (e2.mono le))⟩
            | _ => exact o.elim
      | _ => rw [h] at o; exact o.elim
end Mi

set_option maxHeartbeats 4000000
namespace Mi
open PySem PySem.Spec PyProof.Rows L2

/-! ### and, or, not as values -/
def xLog (isOr : Bool) (a b : XM DV) : XM DV := xBind a fun d ρ st => match truD d st with
  | some k => if k = isOr then .ok (d, st) else b ρ st
  | none => .bad
def xNotV (a : XM DV) : XM DV := xBind a fun d ρ st => match truD d st with
  | some k => .ok (.bl (!k), st)
  | none => .bad
section
variable {X : Cx} {ca : Str → Addr} {W : WX} {a b : Expr} {ma mb : XM DV} {rest : List Expr} {pos : Pos}
theorem re_or (ha : PE X a (rdE X.K ca W ma)) (hb : PE X (.BoolOp .Or (b :: rest) pos) (rdE X.K ca W mb)) : PE X (.BoolOp .Or (a :: b :: rest) pos) (rdE X.K ca W (xLog true ma mb)) := pe_weak (pe_orT ha hb) fun σ H Q q => by
  refine rd_bind q fun G ρ st H1 v d R r o => ?_
  cases e : truD d st with
  | none => simp only [e] at o; exact o.elim
  | some k =>
    simp only [e] at o
    refine ⟨k, truD_ok R r e, ?_⟩
    cases k with
    | true =>
      rw [if_pos rfl] at o ⊢
      exact o G H1 v (Gm.le.refl _) R r
    | false =>
      rw [if_neg (by simp)] at o ⊢
      exact ⟨G, ρ, st, R, o⟩
theorem re_and (ha : PE X a (rdE X.K ca W ma)) (hb : PE X (.BoolOp .And (b :: rest) pos) (rdE X.K ca W mb)) : PE X (.BoolOp .And (a :: b :: rest) pos) (rdE X.K ca W (xLog false ma mb)) := pe_weak (pe_andT ha hb) fun σ H Q q => by
  refine rd_bind q fun G ρ st H1 v d R r o => ?_
  cases e : truD d st with
  | none => simp only [e] at o; exact o.elim
  | some k =>
    simp only [e] at o
    refine ⟨k, truD_ok R r e, ?_⟩
    cases k with
    | false =>
      rw [if_pos rfl] at o
      rw [if_neg (by simp)]
      exact o G H1 v (Gm.le.refl _) R r
    | true =>
      rw [if_neg (by simp)] at o
      rw [if_pos rfl]
      exact ⟨G, ρ, st, R, o⟩
theorem re_notV (ha : PE X a (rdE X.K ca W ma)) : PE X (.UnaryOp .Not a pos) (rdE X.K ca W (xNotV ma)) := pe_weak (pe_notT ha) fun σ H Q q => by
  refine rd_bind q fun G ρ st H1 v d R r o => ?_
  cases e : truD d st with
  | none => simp only [e] at o; exact o.elim
  | some k =>
    simp only [e] at o
    exact ⟨k, truD_ok R r e, o G H1 _ (Gm.le.refl _) R (.bl _)⟩
end
/-! ### rows of expressions -/
def semA (E : Expr → XM DV) : List Expr → XM (List DV)
  | [] => xNil
  | .Starred a _ :: es => xStar (E a) (semA E es)
  | e :: es => xCons (E e) (semA E es)
def semP (E : Expr → XM DV) : List (Option Expr) → List Expr → Option (List (XM DV × XM DV))
  | [], [] => some []
  | some k :: ks, v :: vs => (match semP E ks vs with
    | some r => some ((E k, E v) :: r)
    | none => none)
  | _, _ => none
def semBT (T : Expr → XM Bool) (op : BoolOp) : List Expr → XM Bool
  | [] => xBad
  | [a] => T a
  | a :: r => match op with
    | .And => xAnd (T a) (semBT T op r)
    | .Or => xOr (T a) (semBT T op r)
def semBV (E : Expr → XM DV) (op : BoolOp) : List Expr → XM DV
  | [] => xBad
  | [a] => E a
  | a :: r => match op with
    | .And => xLog false (E a) (semBV E op r)
    | .Or => xLog true (E a) (semBV E op r)
section
variable {X : Cx} {ca : Str → Addr} {W : WX} {E : Expr → XM DV} {T : Expr → XM Bool} {pos : Pos}
theorem semA_ok (h : ∀ e, PE X e (rdE X.K ca W (E e))) : ∀ es : List Expr, PA X es (rdA X.K ca W (semA E es))
  | [] => ra_nil
  | e :: es => by
    have ih := semA_ok h es
    cases e with
    | Starred a p => exact ra_star (h a) ih rfl
    | _ => exact ra_cons (h _) ih rfl
theorem semP_ok (h : ∀ e, PE X e (rdE X.K ca W (E e))) : ∀ {ks : List (Option Expr)} {vs : List Expr} {prs : List (XM DV × XM DV)}, semP E ks vs = some prs → PPs X pos ks vs (prs.map fun p => (rdE X.K ca W p.1, rdE X.K ca W p.2)) ∧ ks.all (·.isSome) = true ∧ ks.length = vs.length
  | [], [], prs, e => by
    cases e
    exact ⟨pps_nil, rfl, rfl⟩
  | [], v :: vs, prs, e => by cases e
  | none :: ks, _, prs, e => by cases e
  | some k :: ks, [], prs, e => by cases e
  | some k :: ks, v :: vs, prs, e => by
    unfold semP at e
    cases e1 : semP E ks vs with
    | none => rw [e1] at e; cases e
    | some r =>
      rw [e1] at e
      cases e
      obtain ⟨h1, h2, h3⟩ := semP_ok h e1
      exact ⟨pps_cons (h k) (h v) h1, by rw [List.all_cons, h2]; rfl, by rw [List.length_cons, List.length_cons, h3]⟩
theorem semBT_ok (h : ∀ e, PT X e (rdT X.K ca W (T e))) (op : BoolOp) : ∀ es : List Expr, es ≠ [] → PW X (.BoolOp op es pos) (rdT X.K ca W (semBT T op es))
  | [], hn => absurd rfl hn
  | [a], _ => by
    cases op with
    | And => exact rw_and1 (h a)
    | Or => exact rw_or1 (h a)
  | a :: b :: r, _ => by
    have ih := semBT_ok h op (b :: r) (List.cons_ne_nil _ _)
    cases op with
    | And => exact rw_and (h a) ih
    | Or => exact rw_or (h a) ih
theorem semBV_ok (h : ∀ e, PE X e (rdE X.K ca W (E e))) (op : BoolOp) : ∀ es : List Expr, es ≠ [] → PE X (.BoolOp op es pos) (rdE X.K ca W (semBV E op es))
  | [], hn => absurd rfl hn
  | [a], _ => pe_one (h a)
  | a :: b :: r, _ => by
    have ih := semBV_ok h op (b :: r) (List.cons_ne_nil _ _)
    cases op with
    | And => exact re_and (h a) ih
    | Or => exact re_or (h a) ih
end
/-! ### targets -/
def semNm (P : Nat → Bool) (C : Ctx) (x : Str) : TM := if storeB C x then (match slotOf C.N x with
  | some i => if P i then tmName i else tmBad
  | none => tmBad) else tmBad
def semTs (P : Nat → Bool) (C : Ctx) : List Expr → TMs
  | [] => tmNil
  | .Name x _ :: r => tmCons (semNm P C x) (semTs P C r)
  | _ :: r => tmCons tmBad (semTs P C r)
def isName : Expr → Bool
  | .Name .. => true
  | _ => false
def semTg (P : Nat → Bool) (C : Ctx) : Expr → TM
  | .Name x _ => semNm P C x
  | .Tuple es _ _ => if es.all isName then tmTup es.length (semTs P C es) else tmBad
  | _ => tmBad
section
variable {X : Cx} {ca : Str → Addr} {C : Ctx} {P : Nat → Bool}
theorem semNm_ok (K : CtxOk ca C X) {x : Str} {p : Pos} : PG X (.Name x p) (rdG X.K ca (P · = true) (semNm P C x)) := by
  unfold semNm
  split
  · rename_i h
    split
    · rename_i i e
      split
      · rename_i hp
        exact pgm_name K.nd (by rw [K.N]; exact slotOf_ok e) (K.store h).1 (K.store h).2 hp
      · exact pgm_bad
    · exact pgm_bad
  · exact pgm_bad
theorem semTs_ok (K : CtxOk ca C X) : ∀ es : List Expr, es.all isName = true → PGs X es (rdGs X.K ca (P · = true) (semTs P C es))
  | [], _ => pgsm_nil
  | e :: r, h => by
    rw [List.all_cons, Bool.and_eq_true] at h
    have ih := semTs_ok K r h.2
    cases e with
    | Name x p => exact pgsm_cons (semNm_ok (P := P) K (x := x) (p := p)) ih rfl
    | _ => cases h.1
theorem each_len : ∀ es : List Expr, (assignEach es X.env).length = es.length
  | [] => rfl
  | e :: r => by
    have ih := each_len r
    cases e <;> exact congrArg Nat.succ ih
theorem each_none : ∀ es : List Expr, es.all isName = true → (assignEach es X.env).findIdx? (·.1) = none
  | [], _ => rfl
  | e :: r, h => by
    rw [List.all_cons, Bool.and_eq_true] at h
    have ih := each_none r h.2
    cases e with
    | Name x p =>
      show List.findIdx? (·.1) ((false, assign (.Name x p) X.env) :: assignEach r X.env) = none
      rw [List.findIdx?_cons, ih]
      rfl
    | _ => cases h.1
theorem semTg_ok (K : CtxOk ca C X) (e : Expr) : PG X e (rdG X.K ca (P · = true) (semTg P C e)) := by
  cases e with
  | Name x p => exact semNm_ok K
  | Tuple es k p =>
    show PG X _ (rdG X.K ca (P · = true) (if es.all isName then tmTup es.length (semTs P C es) else tmBad))
    by_cases h : es.all isName = true
    · rw [if_pos h]
      exact pgm_tup K.env.calm (semTs_ok K es h) (each_len es) (each_none es h)
    · rw [if_neg h]
      exact pgm_bad
  | _ => exact pgm_bad
theorem pgm_any {e : Expr} {m : TM} {Q : Nat → Prop} (h : PG X e (rdG X.K ca Q m)) {Q' : Nat → Prop} (w : ∀ i, Q i → Q' i) : PG X e (rdG X.K ca Q' m) := pg_weak h fun v σ H R q => by
  obtain ⟨G, ρ, st, d, ρ', R0, r, e, q⟩ := q
  exact ⟨G, ρ, st, d, ρ', R0, r, e, fun σ' R1 a => q σ' R1 ⟨a.1, fun j hj => a.2 j fun z => hj (w j z)⟩⟩
end
end Mi

set_option maxHeartbeats 4000000
namespace Mi
open PySem PySem.Spec PyProof.Rows L2

/-! ### one step of the expressions' meaning -/
structure Sm where
  E : Ctx → Expr → XM DV
  T : Ctx → Expr → XM Bool
def SmOk (ca : Str → Addr) (S : Sm) : Prop := ∀ (C : Ctx) (X : Cx) (W : WX), CtxOk ca C X → Takes X W → (∀ e, PE X e (rdE X.K ca W (S.E C e))) ∧ ∀ e, PT X e (rdT X.K ca W (S.T C e))
def cstE : Const → XM DV
  | .none => xPure .non
  | .bool b => xPure (.bl b)
  | .int i => xPure (.int i)
  | .str s => xPure (.str s)
  | _ => xBad
def nameE (C : Ctx) (x : Str) (p : Pos) : XM DV := if nameOk x then (if visB C.sc x then (match slotOf C.N x with
  | some i => if C.frz p then xFrz i else xVar i
  | none => xBad) else if glB C.sc x then (match C.glob x with
  | some (.val d) => xPure d
  | _ => xBad) else xBad) else xBad
def binE (S : Sm) (C : Ctx) (a : Expr) (op : Operator) (b : Expr) (p : Pos) : XM DV := match oBin op (C.mu p) with
  | some m => x2 (S.E C a) (S.E C b) m
  | none => xBad
def negD (x : DV) (st : Store) : Option (DV × Store) := match x with
  | .int i => some (.int (-i), st)
  | _ => none
def unE (S : Sm) (C : Ctx) (op : UnaryOp) (a : Expr) : XM DV := match op with
  | .USub => x1 (S.E C a) negD
  | .Not => xNotV (S.E C a)
  | _ => xBad
def cmpE (S : Sm) (C : Ctx) (a : Expr) (ops : List CmpOp) (cs : List Expr) : XM DV := match ops, cs with
  | [op], [b] => if behindInMarks op b then xBad else (match oCmp op with
    | some m => x2 (S.E C a) (S.E C b) m
    | none => xBad)
  | [op, op'], [b, c] => if lastMarks [op, op'] [b, c] then xBad else (match oCmp op, oCmp op' with
    | some m, some m' => xChain m m' (S.E C a) (S.E C b) (S.E C c)
    | _, _ => xBad)
  | _, _ => xBad
def fldE (S : Sm) (C : Ctx) (e : Expr) (f : Str) : XM DV := if plainBase e then (if f = ("at" : Str) then xAt C.ev (S.E C e) else xFld (C.attr f) f (S.E C e)) else xBad
def partE (S : Sm) (C : Ctx) : Option Expr → XO
  | none => xNoPart
  | some e => xPart (S.E C e)
def revE (S : Sm) (C : Ctx) (a : Expr) (lo hi : Option Expr) (st : Expr) (p : Pos) : XM DV := match lo, hi, st with
  | none, none, .UnaryOp .USub (.Constant (.int 1) _ _) _ => xRev (C.mu p) (S.E C a)
  | _, _, _ => xBad
def subE (S : Sm) (C : Ctx) (a : Expr) (i : Expr) (p : Pos) : XM DV := match i with
  | .Slice lo hi st _ => (match st with
    | none => xSl (C.mu p) (S.E C a) (partE S C lo) (partE S C hi)
    | some e => revE S C a lo hi e p)
  | i => if noSl i then x2 (S.E C a) (S.E C i) oIx else xBad
def dictE (S : Sm) (C : Ctx) (ks : List (Option Expr)) (vs : List Expr) (p : Pos) : XM DV := match ks, vs with
  | [], [] => xDict0 (C.mu p)
  | k :: ks, vs => if (k :: ks).length ≤ 15 then (match semP (S.E C) (k :: ks) vs with
    | some prs => xDisp (C.mu p) prs
    | none => xBad) else xBad
  | _, _ => xBad
def okIter : Expr → Bool
  | .Set .. => false
  | _ => true
def rangeI (S : Sm) (C : Ctx) (args : List Expr) : XM Src := match args with
  | [a] => if noStar a then xRange (semA (S.E C) [a]) else xBad
  | [a, b] => if noStar a && noStar b then xRange (semA (S.E C) [a, b]) else xBad
  | [a, b, c] => if noStar a && noStar b && noStar c then xRange3 (semA (S.E C) [a, b, c]) else xBad
  | _ => xBad
def isTup : Expr → Bool
  | .Tuple .. => true
  | _ => false
def enumI (S : Sm) (C : Ctx) (tg : Expr) (args : List Expr) : XM Src := match args with
  | [a] => if noStar a && isTup tg then xEnum (semA (S.E C) [a]) else xBad
  | _ => xBad
def callI (S : Sm) (C : Ctx) (tg whole f : Expr) (args : List Expr) (kws : List Keyword) : XM Src := match f with
  | .Name x _ => if glB C.sc x && C.bi x && kws.isEmpty then (if x = ("range" : Str) then rangeI S C args else if x = ("enumerate" : Str) then enumI S C tg args else xIter (S.E C whole)) else xIter (S.E C whole)
  | _ => xIter (S.E C whole)
def semI (S : Sm) (C : Ctx) (tg : Expr) (it : Expr) : XM Src := match it with
  | .Call f args kws p => callI S C tg (.Call f args kws p) f args kws
  | e => xIter (S.E C e)
def lcTests (S : Sm) (C : Ctx) : List Expr → XM Bool
  | [] => xPure true
  | [c] => S.T C c
  | _ => xBad
def lc1 (S : Sm) (C : Ctx) (mu : Bool) (elt tg iter : Expr) (ifs : List Expr) (scope : Scope) : XM DV :=
  if blkB C.sc scope && okIter iter then
    xLc mu (semI S C tg iter) (semTg (fun i => ((ownOf C.N scope.names).map (·.2)).contains i) (C.blk scope) tg) (lcTests S (C.blk scope) ifs) (S.E (C.blk scope) elt) ((ownOf C.N scope.names).map (·.2))
  else xBad
def lcE (S : Sm) (C : Ctx) (elt : Expr) (gs : List Comprehension) (scope : Scope) (p : Pos) : XM DV := match gs with
  | [⟨tg, iter, ifs, 0⟩] => lc1 S C (C.mu p) elt tg iter ifs scope
  | _ => xBad
def isiE (S : Sm) (C : Ctx) (x : Str) (args : List Expr) : XM DV := match args with
  | [e, .Name h _] => if x = ("isinstance" : Str) ∧ nameOk h = true ∧ glB C.sc h = true ∧ h ≠ ("__name__" : Str) then (match C.kit h with
    | some f => xIsi C.ev f (S.E C e)
    | none => xBad) else xBad
  | _ => xBad
def mkvE (S : Sm) (C : Ctx) (c : Str) (args : List Expr) : XM DV := match args with
  | [e] => if C.ev c = true ∧ 1 ≤ C.k then xMkV c (semA (S.E C) [e]) else xBad
  | _ => xBad
def nameCall (S : Sm) (C : Ctx) (x : Str) (args : List Expr) (p : Pos) : XM DV :=
  if glB C.sc x && nameOk x && args.all noStar then (match C.glob x with
    | some (.fn df) => xCall df.n df.run (semA (S.E C) args)
    | some (.cls c df) => xMake c df (semA (S.E C) args)
    | some (.val _) => xBad
    | some (.exc c) => mkvE S C c args
    | none => if C.bi x && !args.isEmpty then (match bFun x (C.mu p) with
      | some (_, vn) => xN (semA (S.E C) args) vn
      | none => isiE S C x args) else xBad) else xBad
def methCall (S : Sm) (C : Ctx) (o : Expr) (m : Str) (ap : Pos) (args : List Expr) (p : Pos) : XM DV :=
  if plainBase o && fewArgs args && (ap.endLine == p.line) then xAny (C.meth m) m (S.E C o) (semA (S.E C) args) else xBad
def callE (S : Sm) (C : Ctx) (f : Expr) (args : List Expr) (kws : List Keyword) (p : Pos) : XM DV := match kws with
  | [] => (match f with
    | .Name x _ => nameCall S C x args p
    | .Attribute o m ap => methCall S C o m ap args p
    | _ => xBad)
  | _ => xBad
def stepE (S : Sm) (C : Ctx) : Expr → XM DV
  | .Constant c _ _ => cstE c
  | .Name x p => nameE C x p
  | .BinOp a op b p => binE S C a op b p
  | .UnaryOp op a _ => unE S C op a
  | .BoolOp op vs _ => semBV (S.E C) op vs
  | .IfExp c a b _ => xIf (S.T C c) (S.E C a) (S.E C b)
  | .Compare a ops cs _ => cmpE S C a ops cs
  | .Attribute e f _ => fldE S C e f
  | .Subscript a i p => subE S C a i p
  | .List es p => xList (C.mu p) (semA (S.E C) es)
  | .Tuple es _ _ => xTup (semA (S.E C) es)
  | .Dict ks vs p => dictE S C ks vs p
  | .ListComp elt gs scope p => lcE S C elt gs scope p
  | .Call f args kws p => callE S C f args kws p
  | _ => xBad
/-! ### .. of the tests' -/
def stepT (S : Sm) (C : Ctx) : Expr → XM Bool
  | .UnaryOp op a p => (match op with
    | .Not => xNot (S.T C a)
    | op => xTru (stepE S C (.UnaryOp op a p)))
  | .BoolOp op vs _ => semBT (S.T C) op vs
  | .Compare a ops cs _ => xAsB (cmpE S C a ops cs)
  | .IfExp .. => xBad
  | e => xTru (stepE S C e)
section
variable {ca : Str → Addr} {S : Sm} {C : Ctx} {X : Cx} {W : WX}
theorem CtxOk.hu (K : CtxOk ca C X) : X.A.units + 64 < cLine := K.env.units
theorem CtxOk.hu1 (K : CtxOk ca C X) : X.A.units + 1 < cLine := by have := K.env.units; omega
theorem CtxOk.room' (K : CtxOk ca C X) : Room C.k X.A := K.room.mono (Nat.le_succ _)
theorem cstE_ok {c : Const} {k : Nat} {p : Pos} : PE X (.Constant c k p) (rdE X.K ca W (cstE c)) := by
  cases c with
  | none => exact re_const pe_non fun G => .non
  | bool b => exact re_const pe_bl fun G => .bl b
  | int i => exact re_const pe_int fun G => .int i
  | str s => exact re_const pe_str fun G => .str s
  | _ => exact re_bad
theorem nameE_ok (K : CtxOk ca C X) {x : Str} {p : Pos} : PE X (.Name x p) (rdE X.K ca W (nameE C x p)) := by
  unfold nameE
  split
  · rename_i hn
    obtain ⟨h1, h2⟩ := nameOk_ok hn
    split
    · rename_i hv
      split
      · rename_i i hi
        have pv : PE X (.Name x p) (tVar i) := pe_var (by rw [K.N]; exact slotOf_ok hi) (K.vis hv) h1 h2
        split
        · exact re_frz pv
        · exact re_var pv
      · exact re_bad
    · split
      · rename_i hg
        split
        · rename_i d hd
          obtain ⟨v, u, a, b, c⟩ := K.glob x _ hd
          exact re_const (pe_glob (K.gl hg) a b h1) c
        · exact re_bad
      · exact re_bad
  · exact re_bad
theorem snd_neg {K : PySem.W.Frag} : Snd1 K ca (rU fun i => .int (-i)) negD := by
  intro G σ ρ st H vx x d st' Q R rx e q
  unfold negD at e
  split at e
  · rename_i i
    cases e
    cases rx
    exact ⟨i, rfl, q G H _ (Gm.le.refl _) R (.int _)⟩
  · cases e
theorem okIter_ok {it : Expr} (h : okIter it = true) (env : Env) : ∀ x, foldedSetIterable it env x = pure x := fun x => by
  cases it <;> first | rfl | cases h
variable (h : SmOk ca S) (K : CtxOk ca C X) (tk : Takes X W)
include h K tk
theorem binE_ok {a b : Expr} {op : Operator} {p : Pos} : PE X (.BinOp a op b p) (rdE X.K ca W (binE S C a op b p)) := by
  unfold binE
  split
  · rename_i m hm
    obtain ⟨r, h1, h2⟩ := oBin_ok (X := X) (ca := ca) hm
    exact re_bin h1 h2 ((h C X W K tk).1 a) ((h C X W K tk).1 b)
  · exact re_bad
theorem unE_ok {a : Expr} {op : UnaryOp} {p : Pos} : PE X (.UnaryOp op a p) (rdE X.K ca W (unE S C op a)) := by
  cases op with
  | USub => exact re_un un_neg snd_neg ((h C X W K tk).1 a)
  | Not => exact re_notV ((h C X W K tk).1 a)
  | _ => exact re_bad
theorem cmpE_ok {a : Expr} {ops : List CmpOp} {cs : List Expr} {p : Pos} : PE X (.Compare a ops cs p) (rdE X.K ca W (cmpE S C a ops cs)) ∧ PT X (.Compare a ops cs p) (rdT X.K ca W (xAsB (cmpE S C a ops cs))) := by
  have bad : PE X (.Compare a ops cs p) (rdE X.K ca W xBad) ∧ PT X (.Compare a ops cs p) (rdT X.K ca W (xAsB xBad)) := ⟨re_bad, pt_weak pt_bad fun σ H Q q => by
    obtain ⟨_, _, _, _, o⟩ := q
    exact o⟩
  have hE := (h C X W K tk).1
  unfold cmpE
  split
  · split
    · exact bad
    · rename_i hb
      have hb := Bool.eq_false_iff.mpr hb
      split
      · rename_i m hm
        obtain ⟨r, h1, h2⟩ := oCmp_ok (X := X) (ca := ca) K.hu hm
        exact ⟨re_cmp h1 h2 (hE _) (hE _) hb, rt_cmp h1 h2 (hE _) (hE _) hb⟩
      · exact bad
  · split
    · exact bad
    · rename_i hb
      have hb := Bool.eq_false_iff.mpr hb
      split
      · rename_i m m' hm hm'
        obtain ⟨r, h1, h2⟩ := oCmp_ok (X := X) (ca := ca) K.hu hm
        obtain ⟨r', h3, h4⟩ := oCmp_ok (X := X) (ca := ca) K.hu hm'
        exact ⟨re_chain h1 h3 h2 h4 (hE _) (hE _) (hE _) hb, rt_chain h1 h3 h2 h4 (hE _) (hE _) (hE _) hb⟩
      · exact bad
  · exact bad
theorem fldE_ok {e : Expr} {f : Str} {p : Pos} : PE X (.Attribute e f p) (rdE X.K ca W (fldE S C e f)) := by
  unfold fldE
  split
  · rename_i hb
    split
    · rename_i hf
      subst hf
      exact re_at K.ev ((h C X W K tk).1 e) (plainBase_ok hb)
    · exact re_fld (K.attr f) ((h C X W K tk).1 e) (plainBase_ok hb)
  · exact re_bad
theorem partE_ok (o : Option Expr) : PO X o (rd X.K ca EqO W (partE S C o)) := by
  cases o with
  | none => exact ro_none
  | some e => exact ro_some ((h C X W K tk).1 e)
theorem subE_ok {a i : Expr} {p : Pos} : PE X (.Subscript a i p) (rdE X.K ca W (subE S C a i p)) := by
  have hE := (h C X W K tk).1
  cases i with
  | Slice lo hi st p2 =>
    cases st with
    | none => exact re_slice _ (hE a) (partE_ok h K tk lo) (partE_ok h K tk hi)
    | some e =>
      show PE X _ (rdE X.K ca W (revE S C a lo hi e p))
      unfold revE
      split
      · exact re_rev (hE a)
      · exact re_bad
  | _ => exact re_ix K.hu1 rfl (hE a) (hE _)
theorem dictE_ok {ks : List (Option Expr)} {vs : List Expr} {p : Pos} : PE X (.Dict ks vs p) (rdE X.K ca W (dictE S C ks vs p)) := by
  have hE := (h C X W K tk).1
  cases ks with
  | nil =>
    cases vs with
    | nil => exact re_dict0
    | cons v vs => exact re_bad
  | cons k ks =>
    show PE X _ (rdE X.K ca W (if (k :: ks).length ≤ 15 then _ else _))
    split
    · rename_i h15
      split
      · rename_i prs hp
        obtain ⟨h1, h2, h3⟩ := semP_ok hE hp (pos := p)
        exact re_disp h1 h2 h3 (List.cons_ne_nil _ _) h15
      · exact re_bad
    · exact re_bad
omit h K tk in
theorem semA_cons {E : Expr → XM DV} {a : Expr} {es : List Expr} (hn : noStar a = true) : semA E (a :: es) = xCons (E a) (semA E es) := by
  cases a <;> first | rfl | cases hn
omit h tk in
theorem semA_len1 {E : Expr → XM DV} {a : Expr} (hn : noStar a = true) : ∀ ρ st ds st', semA E [a] ρ st = .ok (ds, st') → ds.length = 1 := by
  intro ρ st ds st' e
  have e1 : semA E [a] = xCons (E a) xNil := semA_cons hn
  rw [e1] at e
  unfold xCons xBind xNil xPure at e
  cases e2 : E a ρ st with
  | ok p => rw [e2] at e; cases e; rfl
  | exc c v r s => rw [e2] at e; cases e
  | bad => rw [e2] at e; cases e
omit h tk in
theorem semA_len2 {E : Expr → XM DV} {a b : Expr} (hn : noStar a = true) (hm : noStar b = true) : ∀ ρ st ds st', semA E [a, b] ρ st = .ok (ds, st') → ds.length = 2 := by
  intro ρ st ds st' e
  have e1 : semA E [a, b] = xCons (E a) (xCons (E b) xNil) := by rw [semA_cons hn, semA_cons hm]; rfl
  rw [e1] at e
  unfold xCons xBind xNil xPure at e
  cases e2 : E a ρ st with
  | ok p =>
    rw [e2] at e
    simp only at e
    cases e3 : E b ρ p.2 with
    | ok p' => rw [e3] at e; cases e; rfl
    | exc c v r s => rw [e3] at e; cases e
    | bad => rw [e3] at e; cases e
  | exc c v r s => rw [e2] at e; cases e
  | bad => rw [e2] at e; cases e
theorem rangeI_ok {tg : Expr} {args : List Expr} {p pos : Pos} (hg : Gl X "range") (hm : X.mg "range" = none) : PI X tg (.Call (.Name "range" p) args [] pos) (rdI X.K ca W (rangeI S C args)) := by
  have hE := (h C X W K tk).1
  have badI : PI X tg (.Call (.Name "range" p) args [] pos) (rdI X.K ca W xBad) := pi_weak (ri_seq (m := S.E C (.Call (.Name "range" p) args [] pos)) (hE _)) fun σ H R q => by
    obtain ⟨_, _, _, _, o⟩ := q
    exact o.elim
  unfold rangeI
  split
  · rename_i a
    split
    · rename_i hn
      exact ri_range1 hg hm (semA_ok hE _) (star_no hn) (semA_len1 K hn)
    · exact badI
  · rename_i a b
    split
    · rename_i hn
      rw [Bool.and_eq_true] at hn
      exact ri_range2 hg hm (semA_ok hE _) (by rw [star_no hn.1, star_no hn.2]; rfl) (star_no hn.2) (semA_len2 K hn.1 hn.2)
    · exact badI
  · rename_i a b c
    split
    · rename_i hn
      rw [Bool.and_eq_true, Bool.and_eq_true] at hn
      refine ri_range3 hg hm (semA_ok hE _) (by rw [star_no hn.1.1]) ?_
      rw [star_no hn.1.2, star_no hn.2]
      rfl
    · exact badI
  · exact badI
theorem enumI_ok {tg : Expr} {args : List Expr} {p pos : Pos} (hg : Gl X "enumerate") (hm : X.mg "enumerate" = none) : PI X tg (.Call (.Name "enumerate" p) args [] pos) (rdI X.K ca W (enumI S C tg args)) := by
  have hE := (h C X W K tk).1
  have badI : PI X tg (.Call (.Name "enumerate" p) args [] pos) (rdI X.K ca W xBad) := pi_weak (ri_seq (m := S.E C (.Call (.Name "enumerate" p) args [] pos)) (hE _)) fun σ H R q => by
    obtain ⟨_, _, _, _, o⟩ := q
    exact o.elim
  unfold enumI
  split
  · rename_i a
    split
    · rename_i hn
      rw [Bool.and_eq_true] at hn
      cases tg with
      | Tuple elts kk tpos => exact ri_enum hg hm (semA_ok hE _) (star_no hn.1)
      | _ => cases hn.2
    · exact badI
  · exact badI
theorem semI_ok {tg it : Expr} : PI X tg it (rdI X.K ca W (semI S C tg it)) := by
  have hE := (h C X W K tk).1
  cases it with
  | Call f args kws p =>
    show PI X tg _ (rdI X.K ca W (callI S C tg (.Call f args kws p) f args kws))
    cases f with
    | Name x px =>
      show PI X tg _ (rdI X.K ca W (if glB C.sc x && C.bi x && kws.isEmpty then _ else _))
      split
      · rename_i hc
        rw [Bool.and_eq_true, Bool.and_eq_true] at hc
        have hk : kws = [] := by simpa using hc.2
        subst hk
        split
        · rename_i hx
          subst hx
          exact rangeI_ok h K tk (K.gl hc.1.1) (K.bi _ hc.1.2)
        · split
          · rename_i hx
            subst hx
            exact enumI_ok h K tk (K.gl hc.1.1) (K.bi _ hc.1.2)
          · exact ri_seq (hE _)
      · exact ri_seq (hE _)
    | _ => exact ri_seq (hE _)
  | _ => exact ri_seq (hE _)
omit h K tk in
theorem pts_weak {Y : Cx} {es : List Expr} {t t' : TT} (g : PTs Y es t) (w : ∀ σ H Q, t' σ H Q → t σ H Q) : PTs Y es t' := ⟨fun pins s σ H Q I q => g.run pins s σ H Q I (w σ H Q q)⟩
theorem lcTests_ok (ifs : List Expr) : PTs X ifs (rdT X.K ca W (lcTests S C ifs)) := by
  cases ifs with
  | nil =>
    refine pts_weak pts_nil fun σ H Q q => ?_
    obtain ⟨G, ρ, st, R, o⟩ := q
    exact o G H true (Gm.le.refl _) R rfl
  | cons c r =>
    cases r with
    | nil => exact pts_one ((h C X W K tk).2 c)
    | cons b r => exact ⟨fun pins s σ H Q I q => (rd_bad q).elim⟩
/-- what a comprehension asks -/
theorem lc_parts {elt tg : Expr} {ifs : List Expr} {scope : Scope} (hb : blkB C.sc scope = true) (s : Shared) (H : Hp) (D : Addr) (cl : List (Str × Addr)) (fp : List Addr) :
    PG (X.blk s H scope (compEnvC scope cl D X.env) fp) tg (rdG X.K ca (· ∈ (ownOf X.N scope.names).map (·.2)) (semTg (fun i => ((ownOf C.N scope.names).map (·.2)).contains i) (C.blk scope) tg)) ∧
    PTs (X.blk s H scope (compEnvC scope cl D X.env) fp) ifs (rdT X.K ca W0 (lcTests S (C.blk scope) ifs)) ∧
    PE (X.blk s H scope (compEnvC scope cl D X.env) fp) elt (rdE X.K ca W0 (S.E (C.blk scope) elt)) := by
  have hk : scope.kind = .function := (blkB_ok (N := C.N) hb).kind
  have K' := K.blk hk s H D cl fp
  refine ⟨pgm_any (semTg_ok K' tg) fun i hi => ?_, lcTests_ok h K' takes0 ifs, (h _ _ W0 K' takes0).1 elt⟩
  rw [K.N]
  simpa using hi
theorem lcE_ok {elt : Expr} {gs : List Comprehension} {scope : Scope} {p : Pos} : PE X (.ListComp elt gs scope p) (rdE X.K ca W (lcE S C elt gs scope p)) := by
  unfold lcE
  split
  · rename_i tg iter ifs
    unfold lc1
    split
    · rename_i hb
      rw [Bool.and_eq_true] at hb
      have ok : BlkOk X.N X.env.scope scope (ownOf X.N scope.names) := by rw [K.sc]; exact blkB_ok hb.1
      have z := re_lc (ca := ca) (W := W) (mu := C.mu p) (elt := elt) (pos := p) K.env.calm K.nd (semI_ok h K tk (tg := tg) (it := iter)) ok (fun s H D cl fp => (lc_parts h K tk (elt := elt) (ifs := ifs) hb.1 s H D cl fp).1)
        (fun s H D cl fp => (lc_parts h K tk (elt := elt) (tg := tg) (ifs := ifs) hb.1 s H D cl fp).2.1) (fun s H D cl fp => (lc_parts h K tk (elt := elt) (tg := tg) (ifs := ifs) hb.1 s H D cl fp).2.2) (okIter_ok hb.2 _)
      rw [K.N] at z
      exact z
    · exact re_bad
  · exact re_bad
theorem nameCall_ok {x : Str} {px p : Pos} {args : List Expr} : PE X (.Call (.Name x px) args [] p) (rdE X.K ca W (nameCall S C x args p)) := by
  have hE := (h C X W K tk).1
  unfold nameCall
  split
  · rename_i hc
    rw [Bool.and_eq_true, Bool.and_eq_true] at hc
    obtain ⟨⟨hg, hn⟩, hs⟩ := hc
    obtain ⟨n1, n2⟩ := nameOk_ok hn
    have hg := K.gl hg
    split
    · rename_i df hd
      obtain ⟨f, a, b, c⟩ := K.glob x _ hd
      cases args with
      | nil => exact re_call0 c K.room' K.env.guards hg a b tk n1
      | cons e es =>
        rw [List.all_cons, Bool.and_eq_true] at hs
        exact re_call c K.room' K.env.guards hg a b tk (semA_ok hE _) n1 (star_no hs.1) (star_any_no hs.2)
    · rename_i cc df hd
      obtain ⟨a, f, b, c⟩ := K.glob x _ hd
      cases args with
      | nil => exact re_make0 b c K.room K.env.guards hg a tk n1
      | cons e es =>
        rw [List.all_cons, Bool.and_eq_true] at hs
        exact re_make b c K.room K.env.guards hg a tk (semA_ok hE _) n1 (star_no hs.1) (star_any_no hs.2)
    · exact re_bad
    · rename_i c hd
      unfold mkvE
      split
      · rename_i e
        split
        · rename_i hv
          rw [List.all_cons, Bool.and_eq_true] at hs
          exact re_mkV (K.glob _ _ hd) (K.room.mono (by omega)) K.ev hv.1 hg n1 (semA_ok hE _) hs.1
        · exact re_bad
      · exact re_bad
    · split
      · rename_i hb
        rw [Bool.and_eq_true] at hb
        split
        · rename_i f vn hv
          cases args with
          | nil => cases hb.2
          | cons e es =>
            rw [List.all_cons, Bool.and_eq_true] at hs
            exact re_bi K.env hv hg (K.bi x hb.1) (semA_ok hE _) (star_no hs.1) (star_any_no hs.2)
        · unfold isiE
          split
          · rename_i e h0 p0
            split
            · rename_i hi
              obtain ⟨i1, i2, i3, i4⟩ := hi
              subst i1
              split
              · rename_i f hf
                rw [List.all_cons, Bool.and_eq_true] at hs
                exact re_isi K.ev K.kit hf hg (K.bi _ hb.1) (K.gl i3) (nameOk_ok i2).1 i4 (hE e) hs.1
              · exact re_bad
            · exact re_bad
          · exact re_bad
      · exact re_bad
  · exact re_bad
theorem methCall_ok {o : Expr} {m : Str} {ap p : Pos} {args : List Expr} : PE X (.Call (.Attribute o m ap) args [] p) (rdE X.K ca W (methCall S C o m ap args p)) := by
  have hE := (h C X W K tk).1
  unfold methCall
  split
  · rename_i hc
    rw [Bool.and_eq_true, Bool.and_eq_true] at hc
    cases args with
    | nil => exact re_any0 (K.meth m) K.room' K.env.calm K.hu1 K.env.guards tk (hE o) hc.1.1 hc.2
    | cons e es => exact re_any (K.meth m) K.room' K.env.calm K.hu1 K.env.guards tk (hE o) (semA_ok hE _) hc.1.1 hc.1.2 hc.2
  · exact re_bad
theorem stepE_ok (e : Expr) : PE X e (rdE X.K ca W (stepE S C e)) := by
  have hE := (h C X W K tk).1
  have hT := (h C X W K tk).2
  cases e with
  | Constant c k p => exact cstE_ok
  | Name x p => exact nameE_ok K
  | BinOp a op b p => exact binE_ok h K tk
  | UnaryOp op a p => exact unE_ok h K tk
  | BoolOp op vs p =>
    cases vs with
    | nil => exact re_bad
    | cons v vs => exact semBV_ok hE op _ (List.cons_ne_nil _ _)
  | IfExp c a b p => exact re_if (hT c) (hE a) (hE b)
  | Compare a ops cs p => exact (cmpE_ok h K tk).1
  | Attribute e f p => exact fldE_ok h K tk
  | Subscript a i p => exact subE_ok h K tk
  | List es p => exact re_list _ (semA_ok hE es)
  | Tuple es k p => exact re_tup (semA_ok hE es)
  | Dict ks vs p => exact dictE_ok h K tk
  | ListComp elt gs scope p => exact lcE_ok h K tk
  | Call f args kws p =>
    cases kws with
    | nil =>
      cases f with
      | Name x px => exact nameCall_ok h K tk
      | Attribute o m ap => exact methCall_ok h K tk
      | _ => exact re_bad
    | cons _ _ => exact re_bad
  | _ => exact re_bad
theorem stepT_ok (e : Expr) : PT X e (rdT X.K ca W (stepT S C e)) := by
  have hE := stepE_ok h K tk
  have hT := (h C X W K tk).2
  cases e with
  | UnaryOp op a p =>
    cases op with
    | Not => exact rt_not (hT a)
    | _ => exact rt_tru (hE _) fun _ => rfl
  | BoolOp op vs p =>
    cases vs with
    | nil => exact rt_bad
    | cons v vs => exact (semBT_ok hT op _ (List.cons_ne_nil _ _)).pt
  | Compare a ops cs p => exact (cmpE_ok h K tk).2
  | IfExp c a b p => exact rt_bad
  | _ => exact rt_tru (hE _) fun _ => rfl
end
end Mi

set_option maxHeartbeats 4000000
namespace Mi
open PySem PySem.Spec PyProof.Rows L2

/-! ### expressions while an exception is handled -/
def methQ (S : Sm) (C : Ctx) (o : Expr) (m : Str) (ap : Pos) (args : List Expr) (p : Pos) : XM DV := match args with
  | [] => if plainBase o && (ap.endLine == p.line) then xMeth (C.hm m) m (S.E C o) xNil else xBad
  | _ => xBad
def stepEH (S : Sm) (C : Ctx) : Expr → XM DV
  | .Constant c _ _ => cstE c
  | .Name x p => nameE C x p
  | .BoolOp op vs _ => semBV (S.E C) op vs
  | .Compare a ops cs _ => cmpE S C a ops cs
  | .Attribute e f _ => fldE S C e f
  | .Subscript a i _ => if noSl i then x2 (S.E C a) (S.E C i) oIx else xBad
  | .Tuple es _ _ => xTup (semA (S.E C) es)
  | .Dict ks vs p => dictE S C ks vs p
  | .Call (.Attribute o m ap) args [] p => methQ S C o m ap args p
  | _ => xBad
def stepBH (S : Sm) (C : Ctx) : List Stmt → SM
  | [.Return (some e) _] => sSeq (sRet (S.E C e)) sNx
  | _ => sBad
def SmOkH (ca : Str → Addr) (S : Sm) : Prop := ∀ (C : Ctx) (X : Cx) (W : WX), CtxOkH ca C X → Takes X W → ∀ e, PE X e (rdE X.K ca W (S.E C e))
section
variable {ca : Str → Addr} {S : Sm} {C : Ctx} {X : Cx} {W : WX}
theorem CtxOkH.vis (h : CtxOkH ca C X) {x : Str} (e : visB C.sc x = true) : Vis X.env.scope x := by rw [h.sc]; exact visB_ok e
theorem CtxOkH.gl (h : CtxOkH ca C X) {x : Str} (e : glB C.sc x = true) : Gl X x := by
  show X.env.scope.names.lookup x = _
  rw [h.sc]
  exact beq_iff_eq.mp e
theorem nameE_okH (K : CtxOkH ca C X) {x : Str} {p : Pos} : PE X (.Name x p) (rdE X.K ca W (nameE C x p)) := by
  unfold nameE
  split
  · rename_i hn
    obtain ⟨h1, h2⟩ := nameOk_ok hn
    split
    · rename_i hv
      split
      · rename_i i hi
        have pv : PE X (.Name x p) (tVar i) := pe_var (by rw [K.N]; exact slotOf_ok hi) (K.vis hv) h1 h2
        split
        · exact re_frz pv
        · exact re_var pv
      · exact re_bad
    · split
      · rename_i hg
        split
        · rename_i d hd
          obtain ⟨v, u, a, b, c⟩ := K.glob x _ hd
          exact re_const (pe_glob (K.gl hg) a b h1) c
        · exact re_bad
      · exact re_bad
  · exact re_bad
theorem cmpE_okH (K : CtxOkH ca C X) (hE : ∀ e, PE X e (rdE X.K ca W (S.E C e))) {a : Expr} {ops : List CmpOp} {cs : List Expr} {p : Pos} : PE X (.Compare a ops cs p) (rdE X.K ca W (cmpE S C a ops cs)) := by
  unfold cmpE
  split
  · split
    · exact re_bad
    · rename_i hb
      have hb := Bool.eq_false_iff.mpr hb
      split
      · rename_i m hm
        obtain ⟨r, h1, h2⟩ := oCmp_ok (X := X) (ca := ca) K.un hm
        exact re_cmp h1 h2 (hE _) (hE _) hb
      · exact re_bad
  · split
    · exact re_bad
    · rename_i hb
      have hb := Bool.eq_false_iff.mpr hb
      split
      · rename_i m m' hm hm'
        obtain ⟨r, h1, h2⟩ := oCmp_ok (X := X) (ca := ca) K.un hm
        obtain ⟨r', h3, h4⟩ := oCmp_ok (X := X) (ca := ca) K.un hm'
        exact re_chain h1 h3 h2 h4 (hE _) (hE _) (hE _) hb
      · exact re_bad
  · exact re_bad
theorem dictE_okH (hE : ∀ e, PE X e (rdE X.K ca W (S.E C e))) {ks : List (Option Expr)} {vs : List Expr} {p : Pos} : PE X (.Dict ks vs p) (rdE X.K ca W (dictE S C ks vs p)) := by
  cases ks with
  | nil =>
    cases vs with
    | nil => exact re_dict0
    | cons v vs => exact re_bad
  | cons k ks =>
    show PE X _ (rdE X.K ca W (if (k :: ks).length ≤ 15 then _ else _))
    split
    · rename_i h15
      split
      · rename_i prs hp
        obtain ⟨h1, h2, h3⟩ := semP_ok hE hp (pos := p)
        exact re_disp h1 h2 h3 (List.cons_ne_nil _ _) h15
      · exact re_bad
    · exact re_bad
theorem stepEH_ok (h : SmOkH ca S) (K : CtxOkH ca C X) (tk : Takes X W) (e : Expr) : PE X e (rdE X.K ca W (stepEH S C e)) := by
  have hE := h C X W K tk
  cases e with
  | Constant c k p => exact cstE_ok
  | Name x p => exact nameE_okH K
  | BoolOp op vs p =>
    cases vs with
    | nil => exact re_bad
    | cons v vs => exact semBV_ok hE op _ (List.cons_ne_nil _ _)
  | Compare a ops cs p => exact cmpE_okH K hE
  | Attribute e f p =>
    show PE X _ (rdE X.K ca W (fldE S C e f))
    unfold fldE
    split
    · rename_i hb
      split
      · rename_i hf
        subst hf
        exact re_at K.ev (hE e) (plainBase_ok hb)
      · exact re_fld (K.attr f) (hE e) (plainBase_ok hb)
    · exact re_bad
  | Subscript a i p =>
    show PE X _ (rdE X.K ca W (if noSl i then _ else _))
    split
    · rename_i hn
      exact re_ix (by have := K.un; omega) hn (hE a) (hE _)
    · exact re_bad
  | Tuple es k p => exact re_tup (semA_ok hE es)
  | Dict ks vs p => exact dictE_okH hE
  | Call f args kws p =>
    cases f with
    | Attribute o m ap =>
      cases kws with
      | nil =>
        cases args with
        | nil =>
          show PE X _ (rdE X.K ca W (if plainBase o && (ap.endLine == p.line) then _ else _))
          split
          · rename_i hc
            rw [Bool.and_eq_true] at hc
            exact re_methQ0 (K.hm m) K.room K.hotx tk (hE o) (call_form hc.1 rfl hc.2)
          · exact re_bad
        | cons _ _ => exact re_bad
      | cons _ _ => exact re_bad
    | _ => exact re_bad
  | _ => exact re_bad
theorem stepBH_ok (h : SmOkH ca S) (K : CtxOkH ca C X) (tk : Takes X W) (b : List Stmt) : PSs X b (rdS X.K ca W (stepBH S C b)) := by
  have hE := h C X W K tk
  unfold stepBH
  split
  · exact psm_cons (psm_ret (hE _)) psm_nil
  · exact pss_badS
end
/-! ### an except suite: return n.at == b and e -/
def xHand (x : DV) (b e : XM DV) : XM DV := xBind b fun y ρ st => match oEq x y st with
  | some (.bl k, st') => if k = true then e ρ st' else .ok (.bl false, st')
  | _ => .bad
def hgQ (n : Str) (E : Expr → XM DV) (a b e : Expr) : DV → XM DV := fun v => match hx n 6 a v with
  | some x => xHand x (E b) (E e)
  | none => xBad
def qSuite : List Stmt → Option (Expr × Expr × Expr)
  | [.Return (some (.BoolOp .And [.Compare a [.Eq] [b] _, e] _)) _] => if behindInMarks .Eq b then none else some (a, b, e)
  | _ => none
def sTryQ (exm : Str → Str → Option Bool) (xf : Str → Bool) (b : SM) (i : Nat) (hc : Str) (g : DV → XM DV) : SM := fun ρ st => match b ρ st with
  | .exc c v ρ' st' => (match exm c hc with
    | some true => if xf c && decide (i < ρ'.length) then (match g v (ρ'.set i none) st' with
      | .ok (d, st2) => .ok (.rt d, ρ'.set i none, st2)
      | _ => .bad) else .bad
    | some false => .exc c v ρ' st'
    | none => .bad)
  | r => r
def tHQ (K : PySem.W.Frag) (ca : Str → Addr) (i : Nat) (g : DV → XM DV) (a : Addr) (cls : Value) (d : Option Addr) : TE := fun σ H Q => ∃ G v ρ st, HxOk K i a cls d G v σ H ∧ RelS K ca G σ ρ st H ∧ Out K ca (RepV K) W0 G σ ρ Q (g v ρ st)
section
variable {X : Cx} {ca : Str → Addr} {W : WX} {exm : Str → Str → Option Bool} {xf : Str → Bool} {i : Nat} {a0 : Addr} {cls : Value} {d : Option Addr} {n : Str} {E : Expr → XM DV}
theorem hq_ok {ea eb e : Expr} {p1 p2 : Pos} (hu : X.A.units + 64 < cLine) (ha : PE X ea (tP X.K i a0 cls d (hx n 6 ea))) (hb : PE X eb (rdE X.K ca W0 (E eb))) (he : PE X e (rdE X.K ca W0 (E e))) (hm : behindInMarks .Eq eb = false) :
    PE X (.BoolOp .And [.Compare ea [.Eq] [eb] p1, e] p2) (tHQ X.K ca i (hgQ n E ea eb e) a0 cls d) := pe_weak (pe_andT (pe_cmpR (op_eqP hu) ha hb hm) (pe_one he)) fun σ H Q q => by
  obtain ⟨G, v, ρ, st, hk, R, o⟩ := q
  unfold hgQ at o
  cases e1 : hx n 6 ea v with
  | none => rw [e1] at o; exact o.elim
  | some x =>
    rw [e1] at o
    unfold xHand at o
    refine ⟨G, v, x, hk, e1, fun xv rx => rd_of R (out_bind o fun G1 H2 yv y st1 le R1 ry o1 => ?_)⟩
    cases e2 : oEq x y st1 with
    | none => simp only [e2] at o1; exact o1.elim
    | some r =>
      obtain ⟨d2, st2⟩ := r
      cases d2 with
      | bl k =>
        simp only [e2] at o1
        refine snd_eqP G1 σ ρ st1 H2 xv yv x y (.bl k) st2 _ R1 (rx.mono le) ry e2 fun G2 H3 z le2 R2 rz => ?_
        refine ⟨k, truD_ok R2 rz rfl, ?_⟩
        cases k with
        | true =>
          rw [if_pos rfl] at o1 ⊢
          exact ⟨G2, ρ, st2, R2, Out.le o1 le2⟩
        | false =>
          rw [if_neg (by simp)] at o1 ⊢
          exact o1 G2 H3 z le2 R2 rz
      | _ => simp only [e2] at o1; exact o1.elim
theorem psm_tryQ {x hc : Str} {body suite : List Stmt} {b₀ : Stmt} {b : SM} {g : DV → XM DV} {np pos pos' : Pos} (hs : X.stack = X.env :: X.outer) (hf : X.env.frame = some X.env.locals) (hN : X.N.Nodup) (hi : X.N[i]? = some n) (hln : X.env.scope.names.lookup n = some .local)
    (hnm : Names X x (.ref (ca hc))) (tk : Takes X W) (he : ExmOk X.K ca exm) (hx' : XfOk X.K ca xf)
    (hb : ∀ (W' : WX) (pn : List (Addr × Obj)) (xe : Value → Shared → Prop), Takes (X.tr pn xe) W' → PassesOwn (model X.prog X.w) X.A X.env xe → PSs (X.tr pn xe) body (rdS X.K ca W' b))
    (hsu : ∀ (a : Addr) (oe : Obj) (cls : Value) (d : Option Addr) (pn : List (Addr × Obj)), Zc cls d oe → (∃ vs, oe.data = .fields vs) → PSs (X.suite a ((a, oe) :: pn)) (b₀ :: suite) (tRet (tHQ X.K ca i g a cls d))) :
    PS X (.Try body [.ExceptHandler (some (.Name x np)) (some n) (b₀ :: suite) pos'] [] [] pos) (rdS X.K ca W (sTryQ exm xf b i hc g)) := by
  refine ps_weak (ps_try_as (tb := fun W' => rdS X.K ca W' b) (ts := fun a cls d => tRet (tHQ X.K ca i g a cls d)) (Wout := W) hs hf hN hi hln hnm tk hb hsu) fun D σ H h => ?_
  obtain ⟨G, ρ, st, R, o⟩ := h
  refine ⟨G, ρ, st, R, ?_⟩
  unfold sTryQ at o
  cases e : b ρ st with
  | bad => rw [e] at o; exact o
  | ok p => rw [e] at o; exact o
  | exc c v ρ' st' =>
    rw [e] at o
    simp only at o
    intro G' σ' H' dd y le R' hBd e1 ry
    cases e2 : exm c hc with
    | none => rw [e2] at o; exact o.elim
    | some k =>
      rw [e2] at o
      refine ⟨k, he c hc k e2, fun hk a ha => ?_, fun hk => ?_⟩
      · subst hk
        simp only at o
        split at o
        · rename_i hq
          rw [Bool.and_eq_true, decide_eq_true_eq] at hq
          obtain ⟨hq1, hq2⟩ := hq
          have hset : (σ'.set i (some (V.ref a)))[i]? = some (some (.ref a)) := List.getElem?_set_self (by rw [R'.len]; exact hq2)
          have HX : HxOk X.K i a (.ref (ca c)) (some dd) G' v (σ'.set i (some (.ref a))) H' := ⟨hset, ca c, dd, y, rfl, (hx' c hq1).1, (hx' c hq1).2, rfl, e1, ry⟩
          have R2 : RelS X.K ca G' (σ'.set i (some (.ref a))) (ρ'.set i none) st' H' := R'.envs (by rw [List.length_set, List.length_set, R'.len]) fun j z hz => by
            by_cases hj : j = i
            · subst hj
              rw [List.getElem?_set_self hq2] at hz
              cases hz
            · rw [List.getElem?_set_ne (Ne.symm hj)] at hz
              obtain ⟨w, h1, h2⟩ := R'.env j z hz
              exact ⟨w, by rw [List.getElem?_set_ne (Ne.symm hj)]; exact h1, h2⟩
          show tHQ X.K ca i g a (.ref (ca c)) (some dd) (σ'.set i (some (.ref a))) H' D.rt
          refine ⟨G', v, ρ'.set i none, st', HX, R2, ?_⟩
          cases e3 : g v (ρ'.set i none) st' with
          | ok p =>
            obtain ⟨r, st2⟩ := p
            rw [e3] at o
            exact fun G2 H2 z le2 R3 rz => o G2 _ H2 (le.trans le2) R3 z rz
          | exc _ _ _ _ => rw [e3] at o; exact o.elim
          | bad => rw [e3] at o; exact o.elim
        · exact o.elim
      · subst hk
        exact o G' σ' H' dd y le R' hBd e1 ry
end
end Mi

set_option maxHeartbeats 4000000
namespace Mi
open PySem PySem.Spec PyProof.Rows L2

/-! ### one step of the statements' meaning -/
abbrev BM := Ctx → List Stmt → SM
def BmOk (ca : Str → Addr) (B : BM) : Prop := ∀ (C : Ctx) (X : Cx) (W : WX), CtxOk ca C X → Takes X W → ∀ b, PSs X b (rdS X.K ca W (B C b))
def noComp : Expr → Bool
  | .ListComp .. => false
  | .SetComp .. => false
  | .DictComp .. => false
  | _ => true
def lcSwaps (C : Ctx) (x : Str) (px : Pos) (scope : Scope) (lp : Pos) : Bool :=
  (C.sc.names.lookup x == some .local) && (px.line == lp.line) && !(scope.names.any fun (n, k) => n == x && (k == .local || k == .cell))
/-- which names are stored from the right -/
def isStarE : Expr → Bool
  | .Starred .. => true
  | _ => false
def nmOn (sc : Scope) (line : Nat) : Expr → Option Str
  | .Name id pos => if sc.names.lookup id == some .local && pos.line == line then some id else none
  | _ => none
def swNames (sc : Scope) (ts : List Expr) : List Str := ts.filterMap (nmOn sc ((ts.head?.map (·.pos.line)).getD 0))
def swS (sc : Scope) (ts vs : List Expr) : Option (Option (List Str)) :=
  if (!(ts.length == 2 || ts.length == 3) || vs.length != ts.length) = true then some none
  else if vs.any isStarE = true then some none
  else if ((swNames sc ts).length != ts.length || (swNames sc ts).eraseDups.length != (swNames sc ts).length) = true then some none
  else if vs.all (foldedForSure 8) = true then some none
  else if vs.all (constantsAlone 8) = true then none
  else some (some (swNames sc ts))
def par2S (S : Sm) (C : Ctx) (x y : Str) (vs : List Expr) : SM := match slotOf C.N x, slotOf C.N y with
  | some i, some j => if i ≠ j ∧ C.sc.names.lookup x = some .local ∧ C.sc.names.lookup y = some .local then sPar2 i j (semA (S.E C) vs) else sBad
  | _, _ => sBad
def par3S (S : Sm) (C : Ctx) (x y z : Str) (vs : List Expr) : SM := match slotOf C.N x, slotOf C.N y, slotOf C.N z with
  | some i, some j, some k => if i ≠ j ∧ i ≠ k ∧ j ≠ k ∧ C.sc.names.lookup x = some .local ∧ C.sc.names.lookup y = some .local ∧ C.sc.names.lookup z = some .local then sPar3 i j k (semA (S.E C) vs) else sBad
  | _, _, _ => sBad
def allT : Nat → Bool := fun _ => true
def asgTupTup (S : Sm) (C : Ctx) (ts : List Expr) (kt : Nat) (pt : Pos) (vs : List Expr) (k2 : Nat) (p2 : Pos) : SM := match swS C.sc ts vs with
  | some none => sAsg (S.E C (.Tuple vs k2 p2)) (semTg allT C (.Tuple ts kt pt))
  | some (some names) => (match ts, names, vs with
    | [.Name x _, .Name y _], [x', y'], [a, b] => if x' = x ∧ y' = y then par2S S C x y [a, b] else sBad
    | [.Name x _, .Name y _, .Name z _], [x', y', z'], [a, b, c] => if x' = x ∧ y' = y ∧ z' = z then par3S S C x y z [a, b, c] else sBad
    | _, _, _ => sBad)
  | none => sBad
/-- targets that are cells -/
def semU1 (S : Sm) (C : Ctx) : Expr → UM
  | .Name x _ => if storeB C x then (match slotOf C.N x with
    | some i => uName i
    | none => uBad) else uBad
  | .Subscript o i _ => if noSl i then uSub (S.E C o) (S.E C i) else uBad
  | .Attribute o f _ => uFld (C.attr f) f (S.E C o)
  | _ => uBad
def semUs (S : Sm) (C : Ctx) : List Expr → List DV → SM
  | [] => uNil
  | e :: r => uCons (semU1 S C e) (semUs S C r)
def asgU (S : Sm) (C : Ctx) (ts : List Expr) (v : Expr) : SM := if ts.all noStar then sAsgU (S.E C v) (uTup ts.length (semUs S C ts)) else sBad
def swNone (sc : Scope) (ts vs : List Expr) : Bool := match swS sc ts vs with
  | some none => true
  | _ => false
def asgS (S : Sm) (C : Ctx) (t v : Expr) : SM := match t with
  | .Name x px => (match v with
    | .ListComp elt gs scope lp => if storeB C x then (match slotOf C.N x with
      | some i => if lcSwaps C x px scope lp then sAsg (lcE S C elt gs scope lp) (tmName i) else sAsg (stepE S C v) (semNm allT C x)
      | none => sBad) else sBad
    | v => if noComp v then sAsg (stepE S C v) (semNm allT C x) else sBad)
  | .Attribute o f _ => sFldM (C.attr f) f (S.E C v) (S.E C o)
  | .Subscript o i _ => if noSl i then sSub (S.E C v) (S.E C o) (S.E C i) else sBad
  | .Tuple ts kt pt => (match v with
    | .Tuple vs k2 p2 => if ts.all isName then asgTupTup S C ts kt pt vs k2 p2 else if swNone C.sc ts vs then asgU S C ts (.Tuple vs k2 p2) else sBad
    | v => if ts.all isName then sAsg (S.E C v) (semTg allT C (.Tuple ts kt pt)) else asgU S C ts v)
  | _ => sBad
def raiseC (S : Sm) (C : Ctx) (x : Str) (e : Expr) : SM := if glB C.sc x && nameOk x && noStar e && decide (1 ≤ C.k) then (match C.glob x with
  | some (.exc c) => sRaise c (semA (S.E C) [e])
  | _ => sBad) else sBad
def raiseS (S : Sm) (C : Ctx) (o : Option Expr) (cause : Option Expr) : SM := match o with
  | some (.Call f args kws _) => (match f, args, kws, cause with
    | .Name x _, [e], [], none => raiseC S C x e
    | _, _, _, _ => sBad)
  | _ => sBad
def retsN (n : Str) : List Stmt → Bool
  | [.Return (some (.Name y _)) _] => y == n
  | _ => false
theorem retsN_ok {n : Str} {b : List Stmt} (h : retsN n b = true) : ∃ p1 p2, b = [.Return (some (.Name n p1)) p2] := by
  unfold retsN at h
  split at h
  · rw [eq_of_beq h]
    exact ⟨_, _, rfl⟩
  · cases h
def tryC (S : Sm) (B : BM) (C : Ctx) (body : List Stmt) (x n : Str) (suite : List Stmt) : SM := if C.fn && glB C.sc x && nameOk x && nameOk n && (C.sc.names.lookup n == some .local) then (match slotOf C.N n, C.glob x with
  | some i, some (.exc c) => if retsN n suite then sTryR C.exm C.ev (B C body) i c else (match qSuite suite with
    | some (a, b, e) => sTryQ C.exm C.xf (B C body) i c (hgQ n (S.E C.suite) a b e)
    | none => sTry C.exm C.xf (B C body) i c (hSuite n suite))
  | _, _ => sBad) else sBad
def tryS (S : Sm) (B : BM) (C : Ctx) (body : List Stmt) (hs : List ExceptHandler) : SM := match hs with
  | [.ExceptHandler (some (.Name x _)) (some n) (b0 :: suite) _] => tryC S B C body x n (b0 :: suite)
  | _ => sBad
def stepS (S : Sm) (B : BM) (C : Ctx) : Stmt → SM
  | .Pass _ => sNx
  | .Break _ => sBk
  | .Continue _ => sCt
  | .Expr e _ => (match e with
    | .Constant (.str _) _ _ => sNx
    | e => if noComp e then sDrop (S.E C e) else sBad)
  | .Return o _ => (match o with
    | none => sRetN
    | some e => sRet (S.E C e))
  | .If c a b _ => sIf (S.T C c) (B C a) (B C b)
  | .Assign ts v _ => (match ts with
    | [t] => asgS S C t v
    | _ => sBad)
  | .For tg it body els _ => (match els with
    | [] => if okIter it then sFor (semI S C tg it) (semTg allT C tg) (B C body) else sBad
    | _ => sBad)
  | .While c body els _ => (match els with
    | [] => sWhl (S.T C c) (B C body) C.fuel
    | _ => sBad)
  | .Raise o cause _ => raiseS S C o cause
  | .Try body hs els fin _ => (match els, fin with
    | [], [] => tryS S B C body hs
    | _, _ => sBad)
  | _ => sBad
def stepB (S : Sm) (B : BM) (C : Ctx) : List Stmt → SM
  | [] => sNx
  | s :: r => sSeq (stepS S B C s) (stepB S B C r)
section
variable {ca : Str → Addr} {S : Sm} {B : BM} {C : Ctx} {X : Cx} {W : WX}
theorem sole_sub {o i v : Expr} {p : Pos} {l : Nat} {env : Env} : swapsWithSole [.Subscript o i p] v l env = pure false := swaps_other (t := .Subscript o i p) (l := l) (env := env) fun _ _ h => by cases h
theorem sole_tup {es : List Expr} {k : Nat} {v : Expr} {p : Pos} {l : Nat} {env : Env} : swapsWithSole [.Tuple es k p] v l env = pure false := swaps_other (t := .Tuple es k p) (l := l) (env := env) fun _ _ h => by cases h
theorem noComp_ok {v : Expr} (h : noComp v = true) (t : Option Expr) (l : Nat) (env : Env) : swapsWith v t l env = pure false := by
  cases v <;> first | rfl | cases h
theorem any_same {f g : Expr → Bool} {l : List Expr} (h : ∀ e, f e = g e) : l.any f = l.any g := by rw [funext h]
theorem filt_same {f g : Expr → Option Str} {l : List Expr} (h : ∀ e, f e = g e) : l.filterMap f = l.filterMap g := by rw [funext h]
theorem swS_ok (K : CtxOk ca C X) {ts vs : List Expr} {kt k2 : Nat} {pt p2 : Pos} {r : Option (List Str)} (h : swS C.sc ts vs = some r) : swappedStores [.Tuple ts kt pt] (.Tuple vs k2 p2) X.env = pure r := by
  have hb : X.env.blockKind = .function := by
    unfold Env.blockKind
    rw [K.sc, K.kind]
    rfl
  have hk : ∀ id, X.env.kindOf id = C.sc.names.lookup id := fun id => by
    unfold Env.kindOf
    rw [K.sc]
  have e3 : ∀ (f : Expr → Option Str), (∀ e, f e = nmOn C.sc ((ts.head?.map (·.pos.line)).getD 0) e) → ts.filterMap f = swNames C.sc ts := fun f hf => filt_same hf
  unfold swappedStores
  simp only [hb, hk]
  rw [e3 _ fun e => by cases e <;> rfl]
  rw [any_same (g := isStarE) (l := vs) fun e => by cases e <;> rfl]
  unfold swS at h
  by_cases h1 : (!(ts.length == 2 || ts.length == 3) || vs.length != ts.length) = true
  · rw [if_pos h1] at h
    cases h
    have h1' : (!(ts.length == 2 || ts.length == 3) || vs.length != ts.length || ScopeKind.function != ScopeKind.function) = true := by rw [h1]; rfl
    rw [if_pos h1']
  · rw [if_neg h1] at h
    have h1' : ¬ (!(ts.length == 2 || ts.length == 3) || vs.length != ts.length || ScopeKind.function != ScopeKind.function) = true := by
      intro z
      apply h1
      simpa using z
    rw [if_neg h1']
    by_cases h2 : vs.any isStarE = true
    · rw [if_pos h2] at h ⊢
      cases h
      rfl
    · rw [if_neg h2] at h ⊢
      by_cases h3 : ((swNames C.sc ts).length != ts.length || (swNames C.sc ts).eraseDups.length != (swNames C.sc ts).length) = true
      · rw [if_pos h3] at h ⊢
        cases h
        rfl
      · rw [if_neg h3] at h ⊢
        by_cases h4 : vs.all (foldedForSure 8) = true
        · rw [if_pos h4] at h ⊢
          cases h
          rfl
        · rw [if_neg h4] at h ⊢
          by_cases h5 : vs.all (constantsAlone 8) = true
          · rw [if_pos h5] at h
            cases h
          · rw [if_neg h5] at h ⊢
            cases h
            rfl
variable (h : SmOk ca S) (hB : BmOk ca B) (K : CtxOk ca C X) (tk : Takes X W)
include h K tk
theorem asgTupTup_ok {ts vs : List Expr} {kt k2 : Nat} {pt p2 p : Pos} : PS X (.Assign [.Tuple ts kt pt] (.Tuple vs k2 p2) p) (rdS X.K ca W (asgTupTup S C ts kt pt vs k2 p2)) := by
  have hE := (h C X W K tk).1
  have hl : ∀ {x : Str}, C.sc.names.lookup x = some .local → X.env.scope.names.lookup x = some .local := fun {x} e => by rw [K.sc]; exact e
  unfold asgTupTup
  split
  · rename_i hs
    exact psm_asg (hE _) (pgm_any (semTg_ok K _) fun _ _ => trivial) rfl (swS_ok K hs) rfl
  · rename_i names hs
    split
    · rename_i x px y py x' y' a b
      split
      · rename_i he
        obtain ⟨rfl, rfl⟩ := he
        unfold par2S
        split
        · rename_i i j hi hj
          split
          · rename_i hc
            exact psm_par2 K.env.calm K.nd (by rw [K.N]; exact slotOf_ok hi) (by rw [K.N]; exact slotOf_ok hj) hc.1 (hl hc.2.1) (hl hc.2.2) (semA_ok hE _) (swS_ok K hs) rfl
          · exact ps_badS
        · exact ps_badS
      · exact ps_badS
    · rename_i x px y py z pz x' y' z' a b c
      split
      · rename_i he
        obtain ⟨rfl, rfl, rfl⟩ := he
        unfold par3S
        split
        · rename_i i j k hi hj hk
          split
          · rename_i hc
            exact psm_par3 K.env.calm K.nd (by rw [K.N]; exact slotOf_ok hi) (by rw [K.N]; exact slotOf_ok hj) (by rw [K.N]; exact slotOf_ok hk) hc.1 hc.2.1 hc.2.2.1 (hl hc.2.2.2.1) (hl hc.2.2.2.2.1) (hl hc.2.2.2.2.2) (semA_ok hE _) (swS_ok K hs) rfl
          · exact ps_badS
        · exact ps_badS
      · exact ps_badS
    · exact ps_badS
  · exact ps_badS
theorem semU1_ok (e : Expr) : PG X e (rdU X.K ca W (semU1 S C e)) := by
  have hE := (h C X W K tk).1
  cases e with
  | Name x p =>
    show PG X _ (rdU X.K ca W (if storeB C x then _ else _))
    split
    · rename_i hst
      split
      · rename_i i hi
        exact pgu_name K.nd (by rw [K.N]; exact slotOf_ok hi) (K.store hst).1 (K.store hst).2
      · exact pgu_bad
    · exact pgu_bad
  | Subscript o i p =>
    show PG X _ (rdU X.K ca W (if noSl i then _ else _))
    split
    · rename_i hn
      exact pgu_sub K.hu1 (hE o) (hE i) hn
    · exact pgu_bad
  | Attribute o f p => exact pgu_fld (K.attr f) (hE o)
  | _ => exact pgu_bad
omit h K tk in
theorem each_cons {e : Expr} {es : List Expr} (hs : noStar e = true) : (assignEach (e :: es) X.env).map (·.2) = assign e X.env :: (assignEach es X.env).map (·.2) := by
  cases e <;> first | rfl | cases hs
omit h K tk in
theorem each_noneS : ∀ es : List Expr, es.all noStar = true → (assignEach es X.env).findIdx? (·.1) = none
  | [], _ => rfl
  | e :: r, hs => by
    rw [List.all_cons, Bool.and_eq_true] at hs
    have ih := each_noneS r hs.2
    have e1 : assignEach (e :: r) X.env = (false, assign e X.env) :: assignEach r X.env := by
      cases e <;> first | rfl | cases hs.1
    rw [e1, List.findIdx?_cons, ih]
    rfl
theorem semUs_ok : ∀ es : List Expr, es.all noStar = true → PGs X es (rdUs X.K ca W (semUs S C es))
  | [], _ => pgsu_nil
  | e :: r, hs => by
    rw [List.all_cons, Bool.and_eq_true] at hs
    exact pgsu_cons (semU1_ok h K tk e) (semUs_ok r hs.2) (each_cons hs.1)
theorem asgU_ok {ts : List Expr} {v : Expr} {kt : Nat} {pt p : Pos} (hw : swappedStores [.Tuple ts kt pt] v X.env = pure none) : PS X (.Assign [.Tuple ts kt pt] v p) (rdS X.K ca W (asgU S C ts v)) := by
  have hE := (h C X W K tk).1
  unfold asgU
  split
  · rename_i hs
    exact psm_asgU (hE v) (pgu_tup K.env.calm (semUs_ok h K tk ts hs) (each_len ts) (each_noneS ts hs)) sole_tup hw rfl
  · exact ps_badS
theorem nameAsg_ok {x : Str} {px p : Pos} {v : Expr} (hs : swapsWith v (some (.Name x px)) p.line X.env = pure false) : PS X (.Assign [.Name x px] v p) (rdS X.K ca W (sAsg (stepE S C v) (semNm allT C x))) := by
  unfold semNm
  have bad : PS X (.Assign [.Name x px] v p) (rdS X.K ca W (sAsg (stepE S C v) tmBad)) := ⟨fun pins s σ H D I q => by
    have z : rdE X.K ca W (stepE S C v) σ H (fun _ _ => False) := rs_bind q fun G ρ st H1 v d R r o => o.elim
    rw [exec_Assign_Name _ _ _ _ _ hs]
    exact wpAny_bind (wpAny_standAt (wpAny_bind (thn ((stepE_ok h K tk v).run pins s σ H _ I z) fun u s1 ⟨x, H1, I1, r1, q1⟩ => q1.elim)))⟩
  split
  · rename_i hst
    split
    · rename_i i hi
      rw [if_pos (show allT i = true from rfl)]
      exact psm_set K.nd (by rw [K.N]; exact slotOf_ok hi) (K.store hst).1 (K.store hst).2 (stepE_ok h K tk v) hs
    · exact bad
  · exact bad
theorem lcAsg_ok {x : Str} {px p : Pos} {elt : Expr} {gs : List Comprehension} {scope : Scope} {lp : Pos} {i : Nat} (hi : slotOf C.N x = some i) (hs : lcSwaps C x px scope lp = true) :
    PS X (.Assign [.Name x px] (.ListComp elt gs scope lp) p) (rdS X.K ca W (sAsg (lcE S C elt gs scope lp) (tmName i))) := by
  unfold lcSwaps at hs
  rw [Bool.and_eq_true, Bool.and_eq_true, Bool.not_eq_true'] at hs
  obtain ⟨⟨h1, h2⟩, h3⟩ := hs
  have hl : X.env.scope.names.lookup x = some .local := by rw [K.sc]; exact beq_iff_eq.mp h1
  have hk : X.env.scope.kind = .function := by rw [K.sc]; exact K.kind
  have sw : ∀ gs, swapsWith (.ListComp elt gs scope lp) (some (.Name x px)) p.line X.env = pure true := fun gs => sw_true hk hl h2 h3
  have badS : PS X (.Assign [.Name x px] (.ListComp elt gs scope lp) p) (rdS X.K ca W (sAsg xBad (tmName i))) := ps_weak ps_never fun D σ H q => by
    obtain ⟨_, _, _, _, o⟩ := q
    exact o
  unfold lcE
  split
  · rename_i tg iter ifs
    unfold lc1
    split
    · rename_i hb
      rw [Bool.and_eq_true] at hb
      have ok : BlkOk X.N X.env.scope scope (ownOf X.N scope.names) := by rw [K.sc]; exact blkB_ok hb.1
      have z := psm_lc (ca := ca) (W := W) (mu := C.mu lp) (elt := elt) (pos := lp) (spos := p) (py := px) K.env.calm K.nd (by rw [K.N]; exact slotOf_ok hi) hl (sw _) (semI_ok h K tk (tg := tg) (it := iter)) ok
        (fun s H D cl fp => (lc_parts h K tk (elt := elt) (ifs := ifs) hb.1 s H D cl fp).1)
        (fun s H D cl fp => (lc_parts h K tk (elt := elt) (tg := tg) (ifs := ifs) hb.1 s H D cl fp).2.1) (fun s H D cl fp => (lc_parts h K tk (elt := elt) (tg := tg) (ifs := ifs) hb.1 s H D cl fp).2.2) (okIter_ok hb.2 _)
      rw [K.N] at z
      exact z
    · exact badS
  · exact badS
theorem asgS_ok {t v : Expr} {p : Pos} : PS X (.Assign [t] v p) (rdS X.K ca W (asgS S C t v)) := by
  have hE := (h C X W K tk).1
  cases t with
  | Name x px =>
    cases v with
    | ListComp elt gs scope lp =>
      show PS X _ (rdS X.K ca W (if storeB C x then (match slotOf C.N x with
        | some i => if lcSwaps C x px scope lp then sAsg (lcE S C elt gs scope lp) (tmName i) else sAsg (stepE S C (.ListComp elt gs scope lp)) (semNm allT C x)
        | none => sBad) else sBad))
      split
      · rename_i hst
        split
        · rename_i i hi
          by_cases hs : lcSwaps C x px scope lp = true
          · rw [if_pos hs]
            exact lcAsg_ok h K tk hi hs
          · rw [if_neg hs]
            refine nameAsg_ok h K tk ?_
            have hk : X.env.scope.kind = .function := by rw [K.sc]; exact K.kind
            have hb : X.env.blockKind = .function := by unfold Env.blockKind; rw [hk]; rfl
            have hl : X.env.kindOf x = C.sc.names.lookup x := by unfold Env.kindOf; rw [K.sc]
            unfold swapsWith
            simp only [hb, hl, Expr.pos]
            unfold lcSwaps at hs
            have hs := Bool.eq_false_iff.mpr hs
            show pure (ScopeKind.function == ScopeKind.function && _ && _ && _) = _
            rw [show (ScopeKind.function == ScopeKind.function) = true from rfl, Bool.true_and, hs]
        · exact ps_badS
      · exact ps_badS
    | SetComp _ _ _ _ => exact ps_badS
    | DictComp _ _ _ _ _ => exact ps_badS
    | _ => exact nameAsg_ok h K tk rfl
  | Attribute o f p' => exact psm_fld (K.attr f) (hE o) (hE v)
  | Subscript o i p' =>
    show PS X _ (rdS X.K ca W (if noSl i then _ else _))
    split
    · rename_i hn
      exact psm_sub K.hu1 (hE o) (hE i) (hE v) hn rfl sole_sub
    · exact ps_badS
  | Tuple ts kt pt =>
    cases v with
    | Tuple vs k2 p2 =>
      show PS X _ (rdS X.K ca W (if ts.all isName then _ else if swNone C.sc ts vs then _ else _))
      split
      · exact asgTupTup_ok h K tk
      · split
        · rename_i hsw
          refine asgU_ok h K tk (swS_ok K (r := none) ?_)
          unfold swNone at hsw
          split at hsw
          · rename_i e
            exact e
          · cases hsw
        · exact ps_badS
    | _ =>
      show PS X _ (rdS X.K ca W (if ts.all isName then _ else _))
      split
      · exact psm_asg (hE _) (pgm_any (semTg_ok K _) fun _ _ => trivial) sole_tup rfl rfl
      · exact asgU_ok h K tk rfl
  | _ => exact ps_badS
omit h K tk in
theorem CtxOk.tr {pn : List (Addr × Obj)} {xe : Value → Shared → Prop} (K : CtxOk ca C X) (hp : PassesOwn (model X.prog X.w) X.A X.env xe) : CtxOk ca C (X.tr pn xe) :=
  ⟨⟨K.env.calm, K.env.sys, K.env.guards, K.env.units⟩, K.nd, K.N, K.sc, K.kind, K.fn, K.room, hp, fun x g e => GlOk.cast (X := X) rfl rfl rfl rfl rfl (K.glob x g e), K.bi, fun m => MethOk.cast (X := X) rfl rfl rfl rfl rfl (K.meth m), K.attr, K.exm, K.xf, K.stk, fun m => HMethOk.cast (X := X) rfl rfl rfl rfl rfl (K.hm m), K.nh, K.ev, K.kit⟩
theorem raiseS_ok {o cause : Option Expr} {p : Pos} : PS X (.Raise o cause p) (rdS X.K ca W (raiseS S C o cause)) := by
  have hE := (h C X W K tk).1
  unfold raiseS
  split
  · split
    · rename_i x px e p2
      unfold raiseC
      split
      · rename_i hc
        rw [Bool.and_eq_true, Bool.and_eq_true, Bool.and_eq_true, decide_eq_true_eq] at hc
        obtain ⟨⟨⟨c1, c2⟩, c3⟩, c4⟩ := hc
        split
        · rename_i c hg
          have hr : Room 2 X.A := K.room.mono (by omega)
          exact psm_raise (K.glob _ _ hg) hr K.env.calm tk (K.gl c1) (nameOk_ok c2).1 (semA_ok hE _) c3
        · exact ps_badS
      · exact ps_badS
    · exact ps_badS
  · exact ps_badS
omit h in
include hB in
theorem tryS_ok (hQ : SmOkH ca S) {body : List Stmt} {hs : List ExceptHandler} {p : Pos} : PS X (.Try body hs [] [] p) (rdS X.K ca W (tryS S B C body hs)) := by
  unfold tryS
  split
  · rename_i x np n b0 suite p'
    unfold tryC
    split
    · rename_i hc
      rw [Bool.and_eq_true, Bool.and_eq_true, Bool.and_eq_true, Bool.and_eq_true] at hc
      obtain ⟨⟨⟨⟨c1, c2⟩, c3⟩, c4⟩, c5⟩ := hc
      split
      · rename_i i c hi hg
        have E := K.glob x _ hg
        split
        · rename_i hr
          obtain ⟨q1, q2, hq⟩ := retsN_ok hr
          rw [hq]
          exact psm_tryR (K.stk c1).1 (K.stk c1).2 K.nd (by rw [K.N]; exact slotOf_ok hi) (by rw [K.sc]; exact beq_iff_eq.mp c5) ⟨K.gl c2, (nameOk_ok c3).1, .inl E.1⟩ tk (nameOk_ok c4).1 (nameOk_ok c4).2 K.exm K.ev
            fun W' pn xe tk' hp => hB C (X.tr pn xe) W' (CtxOk.tr K hp) tk' body
        split
        · rename_i a b e hq
          unfold qSuite at hq
          split at hq
          · rename_i a' b' pp e' pp2 pr hz
            split at hq
            · cases hq
            · rename_i hm
              have hm := Bool.eq_false_iff.mpr hm
              cases hq
              cases hz
              refine psm_tryQ (K.stk c1).1 (K.stk c1).2 K.nd (by rw [K.N]; exact slotOf_ok hi) (by rw [K.sc]; exact beq_iff_eq.mp c5) ⟨K.gl c2, (nameOk_ok c3).1, .inl E.1⟩ tk K.exm K.xf
                (fun W' pn xe tk' hp => hB C (X.tr pn xe) W' (CtxOk.tr K hp) tk' body) (fun a0 oe cls d pn hz hff => ?_)
              have KH := K.suite a0 oe pn
              have hE := hQ _ _ W0 KH takes0
              exact pss_one (ps_ret (hq_ok KH.un (hx_ok hz hff (by rw [K.N]; exact slotOf_ok hi) (.inl (by rw [K.sc]; exact beq_iff_eq.mp c5)) (nameOk_ok c4).1 (nameOk_ok c4).2 6 a) (hE b) (hE e) hm))
          · cases hq
        exact psm_try (K.stk c1).1 (K.stk c1).2 K.nd (by rw [K.N]; exact slotOf_ok hi) (by rw [K.sc]; exact beq_iff_eq.mp c5) ⟨K.gl c2, (nameOk_ok c3).1, .inl E.1⟩ tk (nameOk_ok c4).1 (nameOk_ok c4).2 K.exm K.xf
          fun W' pn xe tk' hp => hB C (X.tr pn xe) W' (CtxOk.tr K hp) tk' body
      · exact ps_badS
    · exact ps_badS
  · exact ps_badS
include hB
theorem stepS_ok (hQ : SmOkH ca S) (st : Stmt) : PS X st (rdS X.K ca W (stepS S B C st)) := by
  have hE := (h C X W K tk).1
  have hT := (h C X W K tk).2
  have hBd := hB C X W K tk
  cases st with
  | Pass p => exact psm_pass
  | Break p => exact psm_break
  | Continue p => exact psm_continue
  | Expr e p =>
    have gen : noComp e = true → PS X (.Expr e p) (rdS X.K ca W (sDrop (S.E C e))) := fun hn => psm_expr (hE e) (noComp_ok hn none _ _)
    cases e with
    | Constant c k p' =>
      cases c with
      | str x => exact psm_doc
      | _ => exact gen rfl
    | ListComp _ _ _ _ => exact ps_badS
    | SetComp _ _ _ _ => exact ps_badS
    | DictComp _ _ _ _ _ => exact ps_badS
    | _ => exact gen rfl
  | Return o p =>
    cases o with
    | none => exact psm_retN
    | some e => exact psm_ret (hE e)
  | If c a b p => exact psm_if (hT c) (hBd a) (hBd b)
  | Assign ts v p =>
    cases ts with
    | nil => exact ps_badS
    | cons t r =>
      cases r with
      | nil => exact asgS_ok h K tk
      | cons _ _ => exact ps_badS
  | For tg it body els p =>
    cases els with
    | nil =>
      show PS X _ (rdS X.K ca W (if okIter it then _ else _))
      split
      · rename_i hi
        exact psm_for K.passes K.env.calm (semI_ok h K tk) (pgm_any (semTg_ok K _) fun _ _ => trivial) (hBd body) (okIter_ok hi _)
      · exact ps_badS
    | cons _ _ => exact ps_badS
  | While c body els p =>
    cases els with
    | nil => exact psm_while _ K.passes (hT c) (hBd body)
    | cons _ _ => exact ps_badS
  | Raise o cause p => exact raiseS_ok h K tk
  | Try body hs els fin p =>
    cases els with
    | nil =>
      cases fin with
      | nil => exact tryS_ok hB K tk hQ
      | cons _ _ => exact ps_badS
    | cons _ _ => exact ps_badS
  | _ => exact ps_badS
theorem stepB_ok (hQ : SmOkH ca S) : ∀ b : List Stmt, PSs X b (rdS X.K ca W (stepB S B C b))
  | [] => psm_nil
  | s :: r => psm_cons (stepS_ok h hB K tk hQ s) (stepB_ok hQ r)
end
/-! ### by fuel -/
structure Sx extends Sm where
  B : BM
def sem : Nat → Sx
  | 0 => { E := fun _ _ => xBad, T := fun _ _ => xBad, B := fun _ _ => sBad }
  | n + 1 => { E := fun C e => if C.hot = true then stepEH (sem n).toSm C e else stepE (sem n).toSm C e, T := fun C e => if C.hot = true then xBad else stepT (sem n).toSm C e, B := fun C b => if C.hot = true then stepBH (sem n).toSm C b else stepB (sem n).toSm (sem n).B C b }
def BmOkH (ca : Str → Addr) (B : BM) : Prop := ∀ (C : Ctx) (X : Cx) (W : WX), CtxOkH ca C X → Takes X W → ∀ b, PSs X b (rdS X.K ca W (B C b))
theorem sem_okA (ca : Str → Addr) : ∀ n, (SmOk ca (sem n).toSm ∧ BmOk ca (sem n).B) ∧ SmOkH ca (sem n).toSm ∧ BmOkH ca (sem n).B
  | 0 => ⟨⟨fun C X W K tk => ⟨fun e => re_bad, fun e => rt_bad⟩, fun C X W K tk b => pss_badS⟩, fun C X W K tk e => re_bad, fun C X W K tk b => pss_badS⟩
  | n + 1 => by
    obtain ⟨⟨h1, h2⟩, h3, h4⟩ := sem_okA ca n
    have no : ∀ {C : Ctx}, C.hot = false → ¬ C.hot = true := fun h z => by rw [h] at z; cases z
    refine ⟨⟨fun C X W K tk => ⟨fun e => ?_, fun e => ?_⟩, fun C X W K tk b => ?_⟩, fun C X W K tk e => ?_, fun C X W K tk b => ?_⟩
    · show PE X e (rdE X.K ca W (if C.hot = true then _ else _))
      rw [if_neg (no K.nh)]
      exact stepE_ok h1 K tk e
    · show PT X e (rdT X.K ca W (if C.hot = true then _ else _))
      rw [if_neg (no K.nh)]
      exact stepT_ok h1 K tk e
    · show PSs X b (rdS X.K ca W (if C.hot = true then _ else _))
      rw [if_neg (no K.nh)]
      exact stepB_ok h1 h2 K tk h3 b
    · show PE X e (rdE X.K ca W (if C.hot = true then _ else _))
      rw [if_pos K.nh]
      exact stepEH_ok h3 K tk e
    · show PSs X b (rdS X.K ca W (if C.hot = true then _ else _))
      rw [if_pos K.nh]
      exact stepBH_ok h3 K tk b
theorem sem_ok (ca : Str → Addr) (n : Nat) : SmOk ca (sem n).toSm ∧ BmOk ca (sem n).B := (sem_okA ca n).1
end Mi

set_option maxHeartbeats 4000000
namespace Mi
open PySem PySem.Spec PyProof.Rows L2

/-! ### a def's run -/
def runOf (fu : Nat) (C : Ctx) (body : List Stmt) : Run := fun ds st => match (sem fu).B C body (ds.map some ++ List.replicate (C.N.length - ds.length) none) st with
  | .ok (.rt d, _, st') => .ok (d, st')
  | .ok (.nx, _, st') => .ok (.non, st')
  | .exc c v _ st' => .exc c v [] st'
  | _ => .bad
def SameX (P : Program) (w : World) (K : PySem.W.Frag) (mg : Str → Option Value) (base : Heap) (X : Cx) : Prop := X.prog = P ∧ X.w = w ∧ X.K = K ∧ X.mg = mg ∧ X.base = base
structure TabOk (P : Program) (w : World) (K : PySem.W.Frag) (mg : Str → Option Value) (base : Heap) (ca : Str → Addr) (C : Ctx) : Prop where
  sys : SysIn K
  glob : ∀ X, SameX P w K mg base X → ∀ x g, C.glob x = some g → GlOk ca C.k X x g
  bi : ∀ x, C.bi x = true → mg x = none
  meth : ∀ X, SameX P w K mg base X → ∀ m, MethOk X ca C.k m (C.meth m)
  attr : ∀ f, AttrOk K ca f (C.attr f)
  exm : ExmOk K ca C.exm
  xf : XfOk K ca C.xf
  hm : ∀ X, SameX P w K mg base X → ∀ m, HMethOk X ca C.k m (C.hm m)
  ev : EvOk K ca C.ev
  kit : KitOk K mg C.kit
section
variable {P : Program} {w : World} {K : PySem.W.Frag} {mg : Str → Option Value} {base : Heap} {ca : Str → Addr} {C : Ctx}
theorem guards_deeper {A : Around} {env : Env} (h : A.guards = some []) : (A.deeper env).guards = some [] := by
  simp [Around.deeper, h]
theorem startD {G : Gm} {vs : List V} {ds : List DV} {st : Store} {H : Hp} {N : List Str} (R : RelS K ca G [] [] st H) (r : RepVs K G vs ds) (hl : vs.length ≤ N.length) : RelS K ca G (L2.start N vs) (ds.map some ++ List.replicate (N.length - ds.length) none) st H := by
  have e := r.len
  refine R.envs (by unfold L2.start; simp [e]) fun i d h => ?_
  unfold L2.start
  by_cases hi : i < ds.length
  · rw [List.getElem?_append_left (by simpa using hi), List.getElem?_map] at h
    have hd : ds[i]? = some d := by
      cases q : ds[i]? with
      | none => rw [q] at h; cases h
      | some z => rw [q] at h; exact Option.some.inj h
    obtain ⟨v, h1, h2⟩ := r.get hd
    refine ⟨v, ?_, h2⟩
    rw [List.getElem?_append_left (by rw [List.length_map, e]; exact hi), List.getElem?_map, h1]
    rfl
  · rw [List.getElem?_append_right (by simpa using hi)] at h
    rw [List.getElem?_replicate] at h
    split at h <;> cases h
/-- what the body's meaning says of the def's promise -/
theorem out_run {fu : Nat} {body : List Stmt} {G : Gm} {σ : St} {ds : List DV} {st : Store} {H : Hp} {Q : VK} {E : XK} (R : RelS K ca G σ (ds.map some ++ List.replicate (C.N.length - ds.length) none) st H)
    (o : OutC K ca E G Q (runOf fu C body ds st)) : rdS K ca (fun c d _ H => E c d H) ((sem fu).B C body) { nx := fun _ H' => Q .non H', rt := Q } σ H := by
  refine ⟨G, _, st, R, ?_⟩
  unfold runOf at o
  cases e : (sem fu).B C body (ds.map some ++ List.replicate (C.N.length - ds.length) none) st with
  | bad => rw [e] at o; exact o.elim
  | exc c v ρ' st' =>
    rw [e] at o
    exact fun G' σ' H' dd x le R' hb e1 r => o G' H' dd x le R'.bare hb e1 r
  | ok p =>
    obtain ⟨f, ρ', st'⟩ := p
    rw [e] at o
    cases f with
    | nx => exact fun G' σ' H' le R' => o G' H' _ le R'.bare .non
    | rt d => exact fun G' σ' H' le R' v r => o G' H' v le R'.bare r
    | bk => exact o.elim
    | ct => exact o.elim
/-- THE RULE: a def of the text keeps the promise of its run -/
theorem fnG_of {fu : Nat} {x qual : Str} {params : Arguments} {body : List Stmt} {scope : Scope} {dvs : List V} {kws : List (Str × V)} {f : Addr} {fd : FuncData} {ps : List Str}
    (F : FunD K x qual params body scope dvs kws f fd) (hs : C8.scC C.N ps scope = true) (hsc : C.sc = scope) (hfn : C.fn = true) (hnh : C.hot = false) (T : TabOk P w K mg base ca C) : FnG P w K mg base (C.k + 2) f fd ps (spM K ca ps.length (runOf fu C body)) := by
  have S := C8.fnScope_by hs
  refine FunD.okG F S (fun vs H Q E h => h.1) fun cdv A outer s H vs Q E hr hg hsp => ?_
  obtain ⟨hl, G, st, ds, R, r, o⟩ := hsp
  have hN : vs.length ≤ C.N.length := by
    have := congrArg List.length S.pre
    rw [List.length_take] at this
    omega
  refine ⟨_, ?_, out_run (startD R r hN) o⟩
  refine (sem_ok ca fu).2 C (cxOf (L2.CX P w) P w K mg base C.N qual scope f cdv A outer s H E) (fun c d _ H => E c d H) ⟨⟨rfl, T.sys, guards_deeper hg, hr.units⟩, S.nd, rfl, hsc.symm, ?_, fun _ _ => rfl, hr, passes_of rfl, T.glob _ ⟨rfl, rfl, rfl, rfl, rfl⟩, T.bi, T.meth _ ⟨rfl, rfl, rfl, rfl, rfl⟩, T.attr, T.exm, T.xf, fun _ => ⟨rfl, rfl⟩, T.hm _ ⟨rfl, rfl, rfl, rfl, rfl⟩, hnh, T.ev, T.kit⟩ (takes_of rfl rfl rfl rfl) body
  rw [hsc]
  exact S.kind
/-- .. while an exception is handled -/
theorem fnQ_of {fu : Nat} {x qual : Str} {params : Arguments} {body : List Stmt} {scope : Scope} {dvs : List V} {kws : List (Str × V)} {f : Addr} {fd : FuncData} {ps : List Str}
    (F : FunD K x qual params body scope dvs kws f fd) (hs : C8.scC C.N ps scope = true) (hsc : C.sc = scope) (hh : C.hot = true) (T : TabOk P w K mg base ca C) : FnQ P w K mg base (C.k + 2) f fd ps (spM K ca ps.length (runOf fu C body)) := by
  have S := C8.fnScope_by hs
  refine FunD.okQ F S (fun vs H Q E h => h.1) fun cdv A outer s H vs Q E p hr hh' hsp => ?_
  obtain ⟨hl, G, st, ds, R, r, o⟩ := hsp
  have hN : vs.length ≤ C.N.length := by
    have := congrArg List.length S.pre
    rw [List.length_take] at this
    omega
  refine ⟨_, ?_, out_run (startD R r hN) o⟩
  have hn : (A.deeper (envOfC qual scope s.heap.objs.size f cdv)).handled = some (.ref p.1) := hh'
  refine (sem_okA ca fu).2.2 C (L2H.cxH (L2.CX P w) P w K mg base C.N qual scope f cdv A outer s H E p) (fun c d _ H => E c d H) ⟨S.nd, rfl, hsc.symm, ?_, ?_, ?_, T.attr, T.hm _ ⟨rfl, rfl, rfl, rfl, rfl⟩, ⟨p, hn, List.mem_cons_self⟩, hh, T.ev⟩ (takes_of rfl rfl rfl rfl) body
  · have := hr.un; show (A.deeper _).units + 64 < cLine; omega
  · exact hr.mono (Nat.le_succ _)
  · exact fun x d e => T.glob _ ⟨rfl, rfl, rfl, rfl, rfl⟩ x _ e
theorem fnAt_of {f : Addr} {fd : FuncData} {ps : List Str} {df : Df} (h : ps.length = df.n) (F : FnG P w K mg base C.k f fd ps (spM K ca df.n df.run)) (b : Binds K fd ps []) {X : Cx} (s : SameX P w K mg base X) : FnAt X ca C.k f df := by
  obtain ⟨e1, e2, e3, e4, e5⟩ := s
  refine ⟨⟨fd, ps, h, ?_, ?_⟩⟩
  · rw [e1, e2, e3, e4, e5]
    exact F
  · rw [e3]
    exact b
end
/-! ### the law's end -/
theorem outC_true {K : PySem.W.Frag} {ca : Str → Addr} {E : XK} {G : Gm} {Q : VK} {r : Res (DV × Store)} {st' : Store} (h : r = .ok (.bl true, st')) (q : ∀ H v, v = .bl true → Q v H) : OutC K ca E G Q r := by
  rw [h]
  intro G' H' v le R r
  cases r
  exact q H' _ rfl
/-- the relation at the start: nothing is there but the script -/
theorem relS0 (K : PySem.W.Frag) (ca : Str → Addr) (H : Hp) (F : Hp) (s : Same F H) : RelS K ca ⟨fun _ => 0, 0, F, fun _ => none⟩ [] [] [] H where
  n := rfl
  sub := s
  cells := fun i c e => by simp at e
  inj := fun i j c d e => by simp at e
  out := fun i c e => by simp at e
  gh := fun a o e => by cases e
  outB := fun i c e => by simp at e
  apart := fun a o e => by cases e
  len := rfl
  env := fun i d e => by simp at e
theorem sp_law {K : PySem.W.Frag} {ca : Str → Addr} {run : Run} {H : Hp} {a : Addr} {ns : List Int} {E : XK} (hS : SqL K H a (ns.map V.int)) {st' : Store} (h : run [.scr (ns.map .int)] [] = .ok (.bl true, st')) : spM K ca 1 run [.ref a] H (fun v _ => v = .bl true) E := by
  refine ⟨rfl, ⟨fun _ => 0, 0, H, fun _ => none⟩, [], [.scr (ns.map .int)], relS0 K ca H H (fun _ _ e => e), .cons (.scr hS RepVs.ints) .nil, outC_true h fun _ _ e => e⟩
end Mi

set_option maxHeartbeats 4000000
namespace Mi
open PySem PySem.Spec PyProof.Rows L2

/-! ### the head: what stands behind the top -/
abbrev caOf (K : PySem.W.Frag) : Str → Addr := fun c => He.ga K c
/-- one def: where it stands, its text; clo: the class that it closes over -/
structure Fd where
  at_ : Str × Option Str
  name : Str
  qual : Str
  params : Arguments
  body : List Stmt
  scope : Scope
  clo : Option Str := none
abbrev FnZ : Type := Option (Str × Str × Arguments × FuncBody × Scope × Addr × List Str × Addr)
def fnZ (K : PySem.W.Frag) (p : Str × Option Str) : FnZ := match K.lookup (He.fAd K p) with
  | some ⟨_, _, .func fd, _⟩ => some (fd.name, fd.qualname, fd.params, fd.body, fd.scope, fd.globals, fd.closure.map (·.1), fd.builtins)
  | _ => none
def Fd.val (d : Fd) : FnZ := some (d.name, d.qual, d.params, .stmts d.body, d.scope, mainGlobals, (match d.clo with
  | none => []
  | some _ => ["__class__"]), builtinsNs)
def cellB (K : PySem.W.Frag) (cc D : Addr) : Bool := match K.lookup cc with
  | some ⟨_, _, .cell (some (.ref a)), _⟩ => decide (a = D)
  | _ => false
def fileB (K : PySem.W.Frag) (file : Str) (c : Value) : Bool := match c with
  | .ref cda => (match K.lookup cda with
    | some ⟨_, _, .fields vs, _⟩ => (match (vs[2]? : Option Value) with
      | some (Value.str f _) => file == f
      | _ => false)
    | _ => false)
  | _ => false
def isNoneV : Value → Bool
  | .none => true
  | _ => false
def cloB (K : PySem.W.Frag) (file : Str) (fd : FuncData) : Option Str → Bool
  | none => true
  | some D => (match fd.closure with
    | [(_, cc)] => cellB K cc (He.ga K D)
    | _ => false) && fileB K file fd.code && (PySem.W.clsIn K (He.ga K D)).isSome
def Fd.ok (K : PySem.W.Frag) (file : Str) (d : Fd) : Bool := PySem.W.keepIn K (.ref (He.fAd K d.at_)) && (match K.lookup (He.fAd K d.at_) with
  | some ⟨_, _, .func fd, _⟩ => PySem.W.codeIn K fd.code d.qual && isNoneV fd.defaults && cloB K file fd d.clo
  | _ => false)
section
variable {K : PySem.W.Frag} {d : Fd} {file : Str}
theorem ba {a b : Bool} (h : (a && b) = true) : a = true ∧ b = true := Bool.and_eq_true_iff.mp h
theorem Fd.funD (e : fnZ K d.at_ = d.val) (c : d.ok K file = true) (hc : d.clo = none) : ∃ fd, FunD K d.name d.qual d.params d.body d.scope [] [] (He.fAd K d.at_) fd := by
  obtain ⟨kp, c2⟩ := ba c
  unfold fnZ at e
  unfold Fd.val at e
  rw [hc] at e
  cases q : K.lookup (He.fAd K d.at_) with
  | none => rw [q] at c2; cases c2
  | some o =>
    obtain ⟨oc, od, dt, osl⟩ := o
    rw [q] at c2 e
    cases dt with
    | func fd =>
      obtain ⟨n1, n2, n3, n4, n5, n6, n7, n8, n9, n10, n11, n12, n13, n14, n15⟩ := fd
      have e2 : (some (n1, n2, n3, n4, n5, n6, n7.map (·.1), n15) : FnZ) = some (d.name, d.qual, d.params, .stmts d.body, d.scope, mainGlobals, [], builtinsNs) := e
      simp only [Option.some.injEq, Prod.mk.injEq, List.map_eq_nil_iff] at e2
      obtain ⟨h1, h2, h3, h4, h5, h6, h7, h8⟩ := e2
      subst h1 h2 h3 h4 h5 h6 h7 h8
      obtain ⟨c3, _⟩ := ba c2
      obtain ⟨k1, k2⟩ := ba c3
      have k3 : n8 = .none := by
        have k2' : isNoneV n8 = true := k2
        cases n8 <;> first | rfl | cases k2'
      subst k3
      exact ⟨_, ⟨oc, od, .none, n9, n10, n11, n12, n13, n14, osl, rfl, q, k1, .inl ⟨rfl, rfl⟩, .inl rfl⟩, kp⟩
    | _ => cases c2
theorem Fd.clD {P : Program} {D : Str} (e : fnZ K d.at_ = d.val) (c : d.ok K P.main.file = true) (hc : d.clo = some D) (hs : PySem.W.nsIn K mainGlobals "super" = some none) (ht : (P.main.scope.names.lookup ("super" : Str)).isSome = false) :
    ∃ fd cda cc, ClD P K d.name d.qual d.params d.body d.scope (He.ga K D) (He.fAd K d.at_) cda cc fd := by
  obtain ⟨kp, c2⟩ := ba c
  unfold fnZ at e
  unfold Fd.val at e
  rw [hc] at e
  cases q : K.lookup (He.fAd K d.at_) with
  | none => rw [q] at c2; cases c2
  | some o =>
    obtain ⟨oc, od, dt, osl⟩ := o
    rw [q] at c2 e
    cases dt with
    | func fd =>
      obtain ⟨n1, n2, n3, n4, n5, n6, n7, n8, n9, n10, n11, n12, n13, n14, n15⟩ := fd
      have e2 : (some (n1, n2, n3, n4, n5, n6, n7.map (·.1), n15) : FnZ) = some (d.name, d.qual, d.params, FuncBody.stmts d.body, d.scope, mainGlobals, ([("__class__" : Str)] : List Str), builtinsNs) := e
      simp only [Option.some.injEq, Prod.mk.injEq] at e2
      obtain ⟨h1, h2, h3, h4, h5, h6, h7, h8⟩ := e2
      subst h1 h2 h3 h4 h5 h6 h8
      obtain ⟨c3, c4⟩ := ba c2
      obtain ⟨k1, k2⟩ := ba c3
      have k3 : n8 = .none := by
        have k2' : isNoneV n8 = true := k2
        cases n8 <;> first | rfl | cases k2'
      subst k3
      rw [hc] at c4
      obtain ⟨c5, c6⟩ := ba c4
      obtain ⟨c7, c8⟩ := ba c5
      cases n7 with
      | nil => cases h7
      | cons p r =>
        obtain ⟨x, cc⟩ := p
        cases r with
        | cons _ _ => cases h7
        | nil =>
          have hx : x = "__class__" := by simpa using h7
          subst hx
          have c7' : cellB K cc (He.ga K D) = true := c7
          have c8' : fileB K P.main.file n13 = true := c8
          cases n13 with
          | ref cda =>
            refine ⟨_, cda, cc, ⟨⟨oc, od, n10, n11, n12, n14, osl, n9, rfl, q⟩, k1, ?_, ?_, Option.isSome_iff_exists.mp c6, hs, ht, kp⟩⟩
            · unfold fileB at c8'
              simp only at c8'
              cases q2 : K.lookup cda with
              | none => rw [q2] at c8'; cases c8'
              | some o2 =>
                obtain ⟨a1, a2, a3, a4⟩ := o2
                rw [q2] at c8'
                cases a3 with
                | fields vs =>
                  simp only at c8'
                  cases q3 : vs[2]? with
                  | none => rw [q3] at c8'; cases c8'
                  | some v =>
                    rw [q3] at c8'
                    cases v with
                    | str f tf => exact ⟨a1, a2, vs, a4, f, tf, rfl, q3, c8'⟩
                    | _ => cases c8'
                | _ => cases c8'
            · unfold cellB at c7'
              cases q2 : K.lookup cc with
              | none => rw [q2] at c7'; cases c7'
              | some o2 =>
                obtain ⟨a1, a2, a3, a4⟩ := o2
                rw [q2] at c7'
                cases a3 with
                | cell ov =>
                  cases ov with
                  | none => cases c7'
                  | some v =>
                    cases v with
                    | ref a =>
                      have : a = He.ga K D := of_decide_eq_true c7'
                      subst this
                      exact ⟨a1, a2, a4, rfl⟩
                    | _ => cases c7'
                | _ => cases c7'
          | _ => cases c8'
    | _ => cases c2
end
/-! ### the Hook -/
abbrev AlZ : Type := Bool × List FnZ
def obsZ (file : Str) (ck : PySem.W.Frag → Bool) (fn : List Fd) (K : PySem.W.Frag) : AlZ := (ck K && fn.all fun d => d.ok K file, fn.map fun d => fnZ K d.at_)
def valZ (fn : List Fd) : AlZ := (true, fn.map Fd.val)
def SaysZ (file : Str) (ck : PySem.W.Frag → Bool) (fn : List Fd) (K : PySem.W.Frag) : Prop := obsZ file ck fn K = valZ fn
/-- what the module's names reach, level by level, nothing struck out -/
def rfA (o : Obj) : List Addr := match o.data with
  | .cls cd => cd.ns :: cd.mro.flatMap He.refV
  | .seq its _ => its.toList.flatMap He.refV
  | .dict es _ => es.toList.flatMap fun e => He.refV e.val
  | .func fd => fd.closure.map (·.2) ++ He.refV fd.code ++ He.refV fd.defaults ++ He.refV fd.kwdefaults
  | _ => []
def grA (g : Addr → Option Obj) (as : List Addr) : List Addr := as.flatMap fun a => match g a with
  | some o => rfA o
  | none => []
def asA (g : Addr → Option Obj) (n : Nat) (as : List Addr) : List Addr := match n with
  | 0 => as
  | n + 1 => as ++ asA g n (grA g as)
def obsZG (file : Str) (n : Nat) (ck : PySem.W.Frag → Bool) (fn : List Fd) (g : Addr → Option Obj) : AlZ := obsZ file ck fn (He.frG g (sysModules :: cStatics :: asA g n [mainGlobals]))
def hookZ (file : Str) (n : Nat) (ck : PySem.W.Frag → Bool) (fn : List Fd) : PySem.W.Hook where
  α := AlZ
  obs := fun s => obsZG file n ck fn s.heap.get?
  val := fun _ => valZ fn
  says := fun _ h => ∃ K : PySem.W.Frag, K.In h ∧ SaysZ file ck fn K
  of := fun _ _ e => ⟨_, He.frG_in, e⟩
  keeps := fun _ _ _ ⟨K, hK, c⟩ k => ⟨K, PySem.W.Frag.In.keeps hK k, c⟩
theorem obsZG_eq {file : Str} {n : Nat} {ck : PySem.W.Frag → Bool} {fn : List Fd} {g : Addr → Option Obj} {s : Shared} (h : ∀ a, g a = s.heap.get? a) : obsZG file n ck fn g = (hookZ file n ck fn).obs s := by
  have e : g = s.heap.get? := funext h
  rw [e] <;> rfl
section
variable {file : Str} {ck : PySem.W.Frag → Bool} {fn : List Fd} {K : PySem.W.Frag}
theorem SaysZ.check (c : SaysZ file ck fn K) : ck K = true := (ba (show (ck K && fn.all fun d => d.ok K file) = true from congrArg (fun z : AlZ => z.1) c)).1
theorem SaysZ.def_ (c : SaysZ file ck fn K) (i : Nat) {d : Fd} (h : fn[i]? = some d) : fnZ K d.at_ = d.val ∧ d.ok K file = true := by
  have c2 := (ba (show (ck K && fn.all fun d => d.ok K file) = true from congrArg (fun z : AlZ => z.1) c)).2
  have e : fn.map (fun d => fnZ K d.at_) = fn.map Fd.val := congrArg (fun z : AlZ => z.2) c
  have e2 : (fn.map fun d => fnZ K d.at_)[i]? = (fn.map Fd.val)[i]? := by rw [e]
  rw [List.getElem?_map, List.getElem?_map, h] at e2
  exact ⟨Option.some.inj e2, List.all_eq_true.mp c2 d (List.mem_of_getElem? h)⟩
end
/-! ### looks at the written part -/
def all2 (f : Value → DV → Bool) : List Value → List DV → Bool
  | [], [] => true
  | u :: us, d :: ds => f u d && all2 f us ds
  | _, _ => false
/-- u stands for d, whatever the heap -/
def repB (K : PySem.W.Frag) : Nat → Value → DV → Bool
  | 0, _, _ => false
  | n + 1, u, d => match d with
    | .non => isNoneV u
    | .bl b => (match u with
      | .bool c => b == c
      | _ => false)
    | .int i => (match u with
      | .int j _ => decide (i = j)
      | _ => false)
    | .str x => (match u with
      | .str y _ => decide (x = y)
      | _ => false)
    | .tup ds => (match u with
      | .ref a => (match K.lookup a with
        | some ⟨.type c, _, .seq its _, _⟩ => decide (c = "tuple") && decide (its.size ≤ sizeLine) && all2 (repB K n) its.toList ds
        | _ => false)
      | _ => false)
    | .scr ds => (match u with
      | .ref a => (match K.lookup a with
        | some ⟨.type c, none, .seq its _, _⟩ => decide (c = "list") && decide (its.size ≤ sizeLine) && all2 (repB K n) its.toList ds
        | _ => false)
      | _ => false)
    | _ => false
end Mi

set_option maxHeartbeats 4000000
namespace Mi
open PySem PySem.Spec PyProof.Rows L2

theorem repB_ok {K : PySem.W.Frag} : ∀ (n : Nat) (u : Value) (d : DV), repB K n u d = true → ∃ v, RelV v u ∧ ∀ G, RepV K G v d
  | 0, _, _, h => by
    unfold repB at h
    cases h
  | n + 1, u, d, h => by
    have ih := repB_ok (K := K) n
    have many : ∀ {us : List Value} {ds : List DV}, all2 (repB K n) us ds = true → ∃ vs, Vals vs us ∧ ∀ G, RepVs K G vs ds := by
      intro us
      induction us with
      | nil =>
        intro ds h
        cases ds with
        | nil => exact ⟨[], .nil, fun G => .nil⟩
        | cons _ _ => cases h
      | cons u us ihl =>
        intro ds h
        cases ds with
        | nil => cases h
        | cons d ds =>
          have h' : (repB K n u d && all2 (repB K n) us ds) = true := h
          obtain ⟨h1, h2⟩ := ba h'
          obtain ⟨v, r1, r2⟩ := ih u d h1
          obtain ⟨vs, r3, r4⟩ := ihl h2
          exact ⟨v :: vs, .cons r1 r3, fun G => .cons (r2 G) (r4 G)⟩
    cases d with
    | non =>
      have h' : isNoneV u = true := h
      cases u with
      | none => exact ⟨.non, rfl, fun G => .non⟩
      | _ => cases h'
    | bl b =>
      cases u with
      | bool c =>
        have h' : (b == c) = true := h
        have e : b = c := eq_of_beq h'
        subst e
        exact ⟨.bl b, rfl, fun G => .bl b⟩
      | _ => cases h
    | int i =>
      cases u with
      | int j t =>
        have e : i = j := of_decide_eq_true h
        subst e
        exact ⟨.int i, ⟨t, rfl⟩, fun G => .int i⟩
      | _ => cases h
    | str x =>
      cases u with
      | str y t =>
        have e : x = y := of_decide_eq_true h
        subst e
        exact ⟨.str x, ⟨t, rfl⟩, fun G => .str x⟩
      | _ => cases h
    | tup ds =>
      cases u with
      | ref a =>
        unfold repB at h
        simp only at h
        cases q : K.lookup a with
        | none => rw [q] at h; cases h
        | some o =>
          obtain ⟨oc, od, dt, osl⟩ := o
          rw [q] at h
          cases oc with
          | type c =>
            cases dt with
            | seq its m =>
              simp only at h
              obtain ⟨h1, h2⟩ := ba h
              obtain ⟨h3, h4⟩ := ba h1
              obtain ⟨vs, r1, r2⟩ := many h2
              exact ⟨.ref a, rfl, fun G => .tup (.inr ⟨_, its, m, q, congrArg Value.type (of_decide_eq_true h3), rfl, of_decide_eq_true h4, r1⟩) (r2 G)⟩
            | _ => cases h
          | _ => cases dt <;> cases h
      | _ => cases h
    | scr ds =>
      cases u with
      | ref a =>
        unfold repB at h
        simp only at h
        cases q : K.lookup a with
        | none => rw [q] at h; cases h
        | some o =>
          obtain ⟨oc, od, dt, osl⟩ := o
          rw [q] at h
          cases oc with
          | type c =>
            cases od with
            | none =>
              cases dt with
              | seq its m =>
                simp only at h
                obtain ⟨h1, h2⟩ := ba h
                obtain ⟨h3, h4⟩ := ba h1
                obtain ⟨vs, r1, r2⟩ := many h2
                exact ⟨.ref a, rfl, fun G => .scr (.inr ⟨_, its, m, q, congrArg Value.type (of_decide_eq_true h3), rfl, rfl, of_decide_eq_true h4, r1⟩) (r2 G)⟩
              | _ => cases h
            | some _ => cases dt <;> cases h
          | _ => cases od <;> cases dt <;> cases h
      | _ => cases h
    | ref k => cases h
    | exn C d => cases h
    | lst ds => cases h
    | dct ds => cases h
def valB (K : PySem.W.Frag) (x : Str) (d : DV) : Bool := match PySem.W.nsIn K mainGlobals x with
  | some (some u) => repB K 10 u d
  | _ => false
theorem valB_ok {K : PySem.W.Frag} {h : Heap} {mg : Str → Option Value} (X : K.In h) (G : h.Ns mainGlobals mg) {x : Str} {d : DV} (e : valB K x d = true) : ∃ v u, mg x = some u ∧ RelV v u ∧ ∀ G, RepV K G v d := by
  unfold valB at e
  cases q : PySem.W.nsIn K mainGlobals x with
  | none => rw [q] at e; cases e
  | some o =>
    cases o with
    | none => rw [q] at e; cases e
    | some u =>
      rw [q] at e
      obtain ⟨v, r1, r2⟩ := repB_ok 10 u d e
      exact ⟨v, u, PySem.W.mg_of X G q, r1, r2⟩
/-- an own exception class over ValueError -/
def oexB (K : PySem.W.Frag) (C : Addr) : Bool := (match K.lookup C with
  | some ⟨.type "type", _, .cls cd, sl⟩ => (match cd.mro, sl.toList with
    | .ref C' :: bm, [_, _, _, _, some (.builtin n), _] => decide (C' = C) && decide (n = "ValueError.__new__") && !cd.hasDel && cd.hasDict && PySem.HandSPX.refsVE bm
    | _, _ => false)
  | _ => false) && decide (PySem.W.findIn K (.ref C) "__setattr__" = some (some (.builtin "object.__setattr__"))) && decide (PySem.W.subIn K (.ref C) (.type "BaseException") = some true) && decide (PySem.W.typeIn K (.ref C) = some (.type "type")) && PySem.W.keepIn K (.ref C)
theorem oexB_ok {K : PySem.W.Frag} {C : Addr} (h : oexB K C = true) : OexC K C := by
  unfold oexB at h
  obtain ⟨h, h5⟩ := ba h
  obtain ⟨h, h4⟩ := ba h
  obtain ⟨h, h3⟩ := ba h
  obtain ⟨h1, h2⟩ := ba h
  refine ⟨?_, of_decide_eq_true h2, of_decide_eq_true h3, of_decide_eq_true h4, h5⟩
  split at h1
  · rename_i dd cd sl ho
    split at h1
    · rename_i C' bm k0 k1 k2 k3 n k5 hm hs
      simp only [Bool.and_eq_true, Bool.not_eq_true', decide_eq_true_eq] at h1
      obtain ⟨⟨⟨⟨rfl, rfl⟩, hdel⟩, hdi⟩, hre⟩ := h1
      obtain ⟨nm, bs, mro, ns, qn, hd, sn, sub, ab, col, del⟩ := cd
      dsimp only at hm hdel hdi
      subst hm hdel hdi
      have hsl : sl = #[k0, k1, k2, k3, some (.builtin "ValueError.__new__"), k5] := by
        obtain ⟨l⟩ := sl
        simp only at hs
        rw [hs]
      subst hsl
      exact ⟨nm, qn, ns, bs, bm, sn, sub, ab, col, dd, k0, k1, k2, k3, k5, ho, hre⟩
    · cases h1
  · cases h1
end Mi

set_option maxHeartbeats 4000000
namespace Mi
open PySem PySem.Spec PyProof.Rows L2

/-! ### what a law's text has at its head -/
structure Hd where
  box : Str
  attrs : List (Str × Str)
  exms : List ((Str × Str) × Bool)
  xfs : List Str
  bis : List Str
  vals : List (Str × DV)
  fns : List Str
  clss : List Str
  mths : List ((Str × Str) × Str)
  /-- exceptions that are values -/
  evs : List Str := []
  /-- isinstance: a class's name, a built-in one, what is asked of it -/
  kits : List ((Str × Bool) × List (Option Str × Bool)) := []
def sysB (K : PySem.W.Frag) : Bool := match K.lookup sysModules with
  | some ⟨_, _, .dict _ _, _⟩ => true
  | _ => false
def glB' (K : PySem.W.Frag) (x : Str) : Bool := (He.Fa.glo x).ok K && (He.Fa.keep x).ok K
def xcB (K : PySem.W.Frag) (box c : Str) : Bool := xfB K (He.ga K c) && (He.Fa.noat c "at").ok K && (He.Fa.glo c).ok K && oexB K (He.ga K c) && decide (PySem.W.mroIn K (He.ga K c) (.ref (He.ga K box)) = some true) &&
  decide (PySem.W.ks_superIn K (He.ga K c) (He.ga K box) "__init__" = some (some (.builtin "ValueError.__init__"))) && decide (PySem.W.subIn K (.ref (He.ga K c)) (.type "ValueError") = some true) &&
  decide (PySem.W.findIn K (.ref (He.ga K c)) "__init__" = some (some (.ref (He.ma K (He.ga K box) "__init__")))) && decide (PySem.W.typeIn K (.ref (He.ma K (He.ga K box) "__init__")) = some (.type "function"))
def mtB (K : PySem.W.Frag) (p : (Str × Str) × Str) : Bool := (He.Fa.cls p.1.2).ok K && (He.Fa.meth p.1.2 p.1.1).ok K && decide (He.ma K (He.ga K p.1.2) p.1.1 = He.ma K (He.ga K p.2) p.1.1)
/-- built-in classes that isinstance may name -/
def nmB (x : Str) : Option String := if x = ("ValueError" : Str) then some "ValueError" else if x = ("int" : Str) then some "int" else if x = ("bool" : Str) then some "bool" else none
theorem nmB_ok {x : Str} {T : String} (h : nmB x = some T) : bootBuiltins x = some (.type T) := by
  unfold nmB at h
  split at h
  · rename_i e; subst e; cases h; first | rfl | kernel_rfl
  · split at h
    · rename_i e; subst e; cases h; first | rfl | kernel_rfl
    · split at h
      · rename_i e; subst e; cases h; first | rfl | kernel_rfl
      · cases h
def kitV (K : PySem.W.Frag) (p : Str × Bool) : Option Value := if p.2 then (match nmB p.1 with
  | some T => if (He.Fa.free p.1).ok K then some (.type T) else none
  | none => none) else (if (He.Fa.glo p.1).ok K then some (.ref (He.ga K p.1)) else none)
def kitR (K : PySem.W.Frag) (cv : Value) (r : Option Str × Bool) : Bool := match r.1 with
  | some c => decide (PySem.W.kitOne K (.ref (He.ga K c)) cv = some r.2)
  | none => decide (PySem.W.kitOne K (.type "int") cv = some r.2)
def kitB (K : PySem.W.Frag) (p : (Str × Bool) × List (Option Str × Bool)) : Bool := match kitV K p.1 with
  | some cv => p.2.all (kitR K cv)
  | none => false
def Hd.ck (h : Hd) (K : PySem.W.Frag) : Bool := sysB K && decide (PySem.W.nsIn K cStatics "thirdparty.any" = some none) && (He.Fa.free "super").ok K && (h.attrs.all fun p => (He.Fa.cls p.2).ok K && (He.Fa.noat p.2 p.1).ok K) && (h.exms.all fun p => (He.Fa.exm p.1.1 p.1.2 p.2).ok K) &&
  (h.xfs.all fun c => xcB K h.box c) && (h.bis.all fun x => (He.Fa.free x).ok K) && (h.vals.all fun p => valB K p.1 p.2) && (h.fns.all fun x => glB' K x) && (h.clss.all fun c => (He.Fa.glo c).ok K && (He.Fa.mkr c).ok K) && (h.mths.all fun p => mtB K p) && (h.evs.all fun c => exnB K (He.ga K c)) && (h.kits.all fun p => kitB K p)
structure HdOk (h : Hd) (K : PySem.W.Frag) : Prop where
  sys : SysIn K
  st : PySem.W.nsIn K cStatics "thirdparty.any" = some none
  sup : (He.Fa.free "super").ok K = true
  attr : ∀ p ∈ h.attrs, Cls K (He.ga K p.2) ∧ NoAttr K (He.ga K p.2) p.1
  exm : ∀ p ∈ h.exms, PySem.W.exmOne K (.ref (He.ga K p.1.1)) (.ref (He.ga K p.1.2)) = some p.2
  xf : ∀ c ∈ h.xfs, xcB K h.box c = true
  bi : ∀ x ∈ h.bis, (He.Fa.free x).ok K = true
  val : ∀ p ∈ h.vals, valB K p.1 p.2 = true
  fn : ∀ x ∈ h.fns, (He.Fa.glo x).ok K = true ∧ PySem.W.keepIn K (.ref (He.ga K x)) = true
  cls : ∀ c ∈ h.clss, (He.Fa.glo c).ok K = true ∧ Mk K (He.ga K c) (He.ma K (He.ga K c) "__init__")
  ev : ∀ c ∈ h.evs, exnB K (He.ga K c) = true
  kit : ∀ p ∈ h.kits, kitB K p = true
  mth : ∀ p ∈ h.mths, Cls K (He.ga K p.1.2) ∧ Meth K (He.ga K p.1.2) p.1.1 (He.ma K (He.ga K p.1.2) p.1.1) ∧ He.ma K (He.ga K p.1.2) p.1.1 = He.ma K (He.ga K p.2) p.1.1
theorem Hd.ok {h : Hd} {K : PySem.W.Frag} (e : h.ck K = true) : HdOk h K := by
  unfold Hd.ck at e
  obtain ⟨e, e13⟩ := ba e
  obtain ⟨e, e12⟩ := ba e
  obtain ⟨e, e11⟩ := ba e
  obtain ⟨e, e10⟩ := ba e
  obtain ⟨e, e9⟩ := ba e
  obtain ⟨e, e8⟩ := ba e
  obtain ⟨e, e7⟩ := ba e
  obtain ⟨e, e6⟩ := ba e
  obtain ⟨e, e5⟩ := ba e
  obtain ⟨e, e4⟩ := ba e
  obtain ⟨e, e3⟩ := ba e
  obtain ⟨e1, e2⟩ := ba e
  refine ⟨?_, of_decide_eq_true e2, e3, fun p hp => ?_, fun p hp => He.exm_ok (List.all_eq_true.mp e5 p hp), List.all_eq_true.mp e6, List.all_eq_true.mp e7, List.all_eq_true.mp e8, fun x hx => ba (List.all_eq_true.mp e9 x hx), fun c hc => ?_, List.all_eq_true.mp e12, List.all_eq_true.mp e13, fun p hp => ?_⟩
  · unfold sysB at e1
    split at e1
    · rename_i a b es n sl hl
      exact ⟨_, es, n, hl, rfl⟩
    · cases e1
  · obtain ⟨a, b⟩ := ba (List.all_eq_true.mp e4 p hp)
    exact ⟨He.cls_ok a, He.noat_ok b⟩
  · obtain ⟨a, b⟩ := ba (List.all_eq_true.mp e10 c hc)
    exact ⟨a, He.mkr_ok b⟩
  · have z := List.all_eq_true.mp e11 p hp
    unfold mtB at z
    obtain ⟨z, z3⟩ := ba z
    obtain ⟨z1, z2⟩ := ba z
    exact ⟨He.cls_ok z1, He.meth_ok z2, of_decide_eq_true z3⟩
def Hd.isEv (h : Hd) (c : Str) : Bool := h.evs.contains c
def Hd.kit (h : Hd) (x : Str) : Option (Option Str → Option Bool) := (h.kits.find? fun p => p.1.1 == x).map fun p o => p.2.lookup o
/-! ### tables of what is known -/
abbrev Gl' := List (Str × Gk)
abbrev Mt' := List ((Str × Str) × Df)
def MtOk (ca : Str → Addr) (k : Nat) (X : Cx) (p : (Str × Str) × Df) : Prop := Cls X.K (ca p.1.2) ∧ ∃ f, Meth X.K (ca p.1.2) p.1.1 f ∧ FnAt X ca k f p.2
theorem lookup_mem' {α β : Type} [BEq α] [LawfulBEq α] {k : α} {v : β} : ∀ {l : List (α × β)}, l.lookup k = some v → (k, v) ∈ l
  | [], h => by cases h
  | (a, b) :: r, h => by
    rw [List.lookup_cons] at h
    cases e : (k == a) with
    | true =>
      rw [e] at h
      cases h
      rw [eq_of_beq e]
      exact List.mem_cons_self
    | false =>
      rw [e] at h
      exact List.mem_cons_of_mem _ (lookup_mem' h)
structure Tabs (P : Program) (w : World) (K : PySem.W.Frag) (mg : Str → Option Value) (base : Heap) (k : Nat) (gl : Gl') (mt : Mt') : Prop where
  g : ∀ X, SameX P w K mg base X → ∀ p ∈ gl, GlOk (caOf K) k X p.1 p.2
  m : ∀ X, SameX P w K mg base X → ∀ p ∈ mt, MtOk (caOf K) k X p
def mkC (h : Hd) (mu frz : Pos → Bool) (fuel : Nat) (N : List Str) (sc : Scope) (k : Nat) (gl : Gl') (mt : Mt') : Mi.Ctx := { N := N, sc := sc, fn := true, k := k, glob := fun x => gl.lookup x, bi := fun x => h.bis.contains x && (gl.lookup x).isNone, meth := fun m c => mt.lookup (m, c), attr := fun f c => h.attrs.contains (f, c), exm := fun c x => h.exms.lookup (c, x), xf := fun c => h.xfs.contains c, mu := mu, frz := frz, fuel := fuel, ev := h.isEv, kit := h.kit }
section
variable {P : Program} {w : World} {K : PySem.W.Frag} {mg : Str → Option Value} {base hp : Heap} {h : Hd} {k k' : Nat} {gl : Gl'} {mt : Mt'}
theorem FnAt.mono {X : Cx} {ca : Str → Addr} {f : Addr} {df : Df} (F : FnAt X ca k f df) (l : k ≤ k') : FnAt X ca k' f df := by
  obtain ⟨fd, ps, a, b, c⟩ := F.ok
  exact ⟨⟨fd, ps, a, b.mono l, c⟩⟩
theorem GlOk.mono {X : Cx} {ca : Str → Addr} {x : Str} {g : Gk} (F : GlOk ca k X x g) (l : k ≤ k') : GlOk ca k' X x g := by
  cases g with
  | val d => exact F
  | fn df =>
    obtain ⟨f, a, b, c⟩ := F
    exact ⟨f, a, b, c.mono l⟩
  | cls c df =>
    obtain ⟨a, f, b, c⟩ := F
    exact ⟨a, f, b, c.mono l⟩
  | exc c => exact F
theorem Tabs.step {ng : Gl'} {nm : Mt'} (T : Tabs P w K mg base k gl mt) (l : k ≤ k') (h1 : ∀ X, SameX P w K mg base X → ∀ p ∈ ng, GlOk (caOf K) k' X p.1 p.2) (h2 : ∀ X, SameX P w K mg base X → ∀ p ∈ nm, MtOk (caOf K) k' X p) :
    Tabs P w K mg base k' (ng ++ gl) (nm ++ mt) := by
  refine ⟨fun X s p hp => ?_, fun X s p hp => ?_⟩
  · rcases List.mem_append.mp hp with z | z
    · exact h1 X s p z
    · exact (T.g X s p z).mono l
  · rcases List.mem_append.mp hp with z | z
    · exact h2 X s p z
    · obtain ⟨a, f, b, c⟩ := T.m X s p z
      exact ⟨a, f, b, c.mono l⟩
theorem Tabs.ok {mu frz : Pos → Bool} {fuel : Nat} {N : List Str} {sc : Scope} (T : Tabs P w K mg base k gl mt) (H : HdOk h K) (hk : PySem.W.Frag.In K hp) (G : hp.Ns mainGlobals mg) : TabOk P w K mg base (caOf K) (mkC h mu frz fuel N sc k gl mt) where
  sys := H.sys
  glob := fun X s x g e => T.g X s (x, g) (PySem.mem_of_lookup e)
  bi := fun x e => by
    obtain ⟨e1, e2⟩ := ba e
    exact He.free_ok hk G (H.bi x (List.contains_iff_mem.mp e1))
  meth := fun X s m c df e => by
    have e' : mt.lookup (m, c) = some df := e
    exact T.m X s ((m, c), df) (lookup_mem' e')
  attr := fun f c e => H.attr (f, c) (List.contains_iff_mem.mp e)
  exm := fun c x b e => by
    have e' : h.exms.lookup (c, x) = some b := e
    exact H.exm ((c, x), b) (lookup_mem' e')
  xf := fun c e => by
    have z := H.xf c (List.contains_iff_mem.mp e)
    unfold xcB at z
    obtain ⟨z, _⟩ := ba z
    obtain ⟨z, _⟩ := ba z
    obtain ⟨z, _⟩ := ba z
    obtain ⟨z, _⟩ := ba z
    obtain ⟨z, _⟩ := ba z
    obtain ⟨z, _⟩ := ba z
    obtain ⟨z, _⟩ := ba z
    obtain ⟨z1, z2⟩ := ba z
    exact ⟨xfB_ok z1, He.noat_ok z2⟩
  ev := fun c e => ⟨rfl, exnB_ok (H.ev c (List.contains_iff_mem.mp e))⟩
  kit := fun x f e => by
    obtain ⟨p, hp, rfl⟩ := Option.map_eq_some_iff.mp (show (h.kits.find? fun p => p.1.1 == x).map (fun p o => p.2.lookup o) = some f from e)
    have hx : p.1.1 = x := eq_of_beq (List.find?_some (p := fun p : (Str × Bool) × List (Option Str × Bool) => p.1.1 == x) hp)
    have z := H.kit p (List.mem_of_find?_eq_some hp)
    unfold kitB at z
    split at z
    · rename_i cv hv
      have rows : ∀ (o : Option Str) (b : Bool), p.2.lookup o = some b → (match o with
          | some c => PySem.W.kitOne K (.ref (He.ga K c)) cv = some b
          | none => PySem.W.kitOne K (.type "int") cv = some b) := fun o b q => by
        have y := List.all_eq_true.mp z (o, b) (lookup_mem' q)
        cases o with
        | some c => exact of_decide_eq_true y
        | none => exact of_decide_eq_true y
      unfold kitV at hv
      split at hv
      · split at hv
        · rename_i T hT
          split at hv
          · rename_i hfr
            cases hv
            rw [hx] at hT hfr
            exact ⟨.ty T, .type T, ⟨rfl, fun u q => q, .inr ⟨He.free_ok hk G hfr, nmB_ok hT⟩⟩, rows⟩
          · cases hv
        · cases hv
      · split at hv
        · rename_i hgl
          cases hv
          rw [hx] at hgl rows
          exact ⟨.ref (He.ga K x), .ref (He.ga K x), ⟨rfl, fun u q => q, .inl (He.glo_ok hk G hgl)⟩, rows⟩
        · cases hv
    · cases z
  hm := fun X s m c df e => by cases e
theorem TabOk.toHot {C : Mi.Ctx} (T : TabOk P w K mg base (caOf K) C) : TabOk P w K mg base (caOf K) { C with hot := true } := ⟨T.sys, T.glob, T.bi, T.meth, T.attr, T.exm, T.xf, T.hm, T.ev, T.kit⟩
theorem TabOk.withHm {C : Mi.Ctx} (T : TabOk P w K mg base (caOf K) C) {f : Str → Str → Option Df} (h : ∀ X, SameX P w K mg base X → ∀ m, HMethOk X (caOf K) C.k m (f m)) : TabOk P w K mg base (caOf K) { C with hm := f } := ⟨T.sys, T.glob, T.bi, T.meth, T.attr, T.exm, T.xf, h, T.ev, T.kit⟩
/-- a def that keeps its run -/
def UOk (P : Program) (w : World) (K : PySem.W.Frag) (mg : Str → Option Value) (base : Heap) (k : Nat) (f : Addr) (df : Df) : Prop := ∃ fd ps, ps.length = df.n ∧ FnG P w K mg base k f fd ps (spM K (caOf K) df.n df.run) ∧ Binds K fd ps []
theorem UOk.at_ {f : Addr} {df : Df} (U : UOk P w K mg base k f df) (l : k ≤ k') {X : Cx} (s : SameX P w K mg base X) : FnAt X (caOf K) k' f df := by
  obtain ⟨fd, ps, a, b, c⟩ := U
  obtain ⟨e1, e2, e3, e4, e5⟩ := s
  refine ⟨⟨fd, ps, a, ?_, ?_⟩⟩
  · rw [e1, e2, e3, e4, e5]
    exact b.mono l
  · rw [e3]
    exact c
theorem unit_ok {file : Str} {ck : PySem.W.Frag → Bool} {fn : List Fd} {d : Fd} {i : Nat} {C : Mi.Ctx} {ps : List Str} {fu : Nat} (c : SaysZ file ck fn K) (hi : fn[i]? = some d) (hc : d.clo = none) (hs : C8.scC C.N ps d.scope = true) (hsc : C.sc = d.scope) (hfn : C.fn = true) (T : TabOk P w K mg base (caOf K) C)
    (hb : ∀ (kV doc pm : Value) (an : Option Addr) (cdv ct : Value) (us : List Value), us.length = ps.length → bindArgs (PySem.W.fnOf d.name d.qual d.params d.body d.scope .none kV doc pm an cdv ct) ⟨us, []⟩ = pure (ps.zip us)) (hnh : C.hot = false := by rfl) :
    UOk P w K mg base (C.k + 2) (He.fAd K d.at_) ⟨ps.length, runOf fu C d.body⟩ := by
  obtain ⟨e1, e2⟩ := c.def_ i hi
  obtain ⟨fd, F⟩ := d.funD e1 e2 hc
  exact ⟨fd, ps, rfl, fnG_of F hs hsc hfn hnh T, FunD.bindsN F hb⟩
/-- .. while an exception is handled -/
def UOkQ (P : Program) (w : World) (K : PySem.W.Frag) (mg : Str → Option Value) (base : Heap) (k : Nat) (f : Addr) (df : Df) : Prop := ∃ fd ps, ps.length = df.n ∧ FnQ P w K mg base k f fd ps (spM K (caOf K) df.n df.run) ∧ Binds K fd ps []
theorem FnQ.mono {j k : Nat} {f : Addr} {fd : FuncData} {ps : List Str} {sp : Sp} (F : FnQ P w K mg base j f fd ps sp) (h : j ≤ k) : FnQ P w K mg base k f fd ps sp := ⟨F.len, fun A outer s H args us vs Q E p hr => F.run A outer s H args us vs Q E p (hr.mono h)⟩
theorem unitQ_ok {file : Str} {ck : PySem.W.Frag → Bool} {fn : List Fd} {d : Fd} {i : Nat} {C : Mi.Ctx} {ps : List Str} {fu : Nat} (c : SaysZ file ck fn K) (hi : fn[i]? = some d) (hc : d.clo = none) (hs : C8.scC C.N ps d.scope = true) (hsc : C.sc = d.scope) (T : TabOk P w K mg base (caOf K) C)
    (hb : ∀ (kV doc pm : Value) (an : Option Addr) (cdv ct : Value) (us : List Value), us.length = ps.length → bindArgs (PySem.W.fnOf d.name d.qual d.params d.body d.scope .none kV doc pm an cdv ct) ⟨us, []⟩ = pure (ps.zip us)) :
    UOkQ P w K mg base (C.k + 2) (He.fAd K d.at_) ⟨ps.length, runOf fu { C with hot := true } d.body⟩ := by
  obtain ⟨e1, e2⟩ := c.def_ i hi
  obtain ⟨fd, F⟩ := d.funD e1 e2 hc
  exact ⟨fd, ps, rfl, fnQ_of (C := { C with hot := true }) F hs hsc rfl T.toHot, FunD.bindsN F hb⟩
/-- new names -/
theorem gl_fn {x : Str} {df : Df} (H : HdOk h K) (hk : PySem.W.Frag.In K hp) (G : hp.Ns mainGlobals mg) (hx : x ∈ h.fns) (U : UOk P w K mg base k (He.fAd K (x, none)) df) (l : k ≤ k') {X : Cx} (s : SameX P w K mg base X) : GlOk (caOf K) k' X x (.fn df) := by
  obtain ⟨a, b⟩ := H.fn x hx
  refine ⟨He.ga K x, ?_, ?_, U.at_ l s⟩
  · rw [s.2.2.2.1]
    exact He.glo_ok hk G a
  · rw [s.2.2.1]
    exact b
theorem gl_cls {c c' : Str} {df : Df} (H : HdOk h K) (hk : PySem.W.Frag.In K hp) (G : hp.Ns mainGlobals mg) (hx : c ∈ h.clss) (hm : ((("__init__" : Str), c), c') ∈ h.mths) (U : UOk P w K mg base k (He.fAd K (c', some ("__init__" : Str))) df) (l : k ≤ k') {X : Cx} (s : SameX P w K mg base X) : GlOk (caOf K) k' X c (.cls c df) := by
  obtain ⟨a, b⟩ := H.cls c hx
  obtain ⟨_, _, e⟩ := H.mth _ hm
  refine ⟨?_, He.ma K (He.ga K c) "__init__", ?_, ?_⟩
  · rw [s.2.2.2.1]
    exact He.glo_ok hk G a
  · rw [s.2.2.1]
    exact b
  · have e' : He.ma K (He.ga K c) "__init__" = He.fAd K (c', some ("__init__" : Str)) := e
    rw [e']
    exact U.at_ l s
theorem mt_of {m c c' : Str} {df : Df} (H : HdOk h K) (hm : ((m, c), c') ∈ h.mths) (U : UOk P w K mg base k (He.fAd K (c', some m)) df) (l : k ≤ k') {X : Cx} (s : SameX P w K mg base X) : MtOk (caOf K) k' X ((m, c), df) := by
  obtain ⟨a, b, e⟩ := H.mth _ hm
  refine ⟨?_, He.ma K (He.ga K c) m, ?_, ?_⟩
  · rw [s.2.2.1]; exact a
  · rw [s.2.2.1]; exact b
  · have e' : He.ma K (He.ga K c) m = He.fAd K (c', some m) := e
    rw [e']
    exact U.at_ l s
theorem mtQ_of {m c c' : Str} {df : Df} (H : HdOk h K) (hm : ((m, c), c') ∈ h.mths) (U : UOkQ P w K mg base k (He.fAd K (c', some m)) df) (l : k ≤ k') {X : Cx} (s : SameX P w K mg base X) : Cls X.K (caOf K c) ∧ ∃ f, Meth X.K (caOf K c) m f ∧ FnQAt X (caOf K) k' f df := by
  obtain ⟨a, b, e⟩ := H.mth _ hm
  refine ⟨?_, He.ma K (He.ga K c) m, ?_, ?_⟩
  · rw [s.2.2.1]; exact a
  · rw [s.2.2.1]; exact b
  · have e' : He.ma K (He.ga K c) m = He.fAd K (c', some m) := e
    rw [e']
    obtain ⟨fd, ps, u1, u2, u3⟩ := U
    obtain ⟨e1, e2, e3, e4, e5⟩ := s
    refine ⟨⟨fd, ps, u1, ?_, ?_⟩⟩
    · rw [e1, e2, e3, e4, e5]
      exact u2.mono l
    · rw [e3]
      exact u3
/-- the constants and the exceptions -/
def Hd.gl0 (h : Hd) : Gl' := h.vals.map (fun p => (p.1, .val p.2)) ++ h.xfs.map (fun c => (c, .exc c))
theorem tabs0 (H : HdOk h K) (hk : PySem.W.Frag.In K hp) (G : hp.Ns mainGlobals mg) (hb : h.xfs ≠ [] → ∃ fd, FnOk P w K mg base C8.CX0 1 (He.ma K (He.ga K h.box) "__init__") fd ["self", "at"] (spBox K (He.ga K h.box)) ∧ Binds K fd ["self", "at"] []) : Tabs P w K mg base k h.gl0 [] := by
  refine ⟨fun X s p hp' => ?_, fun X s p hp' => by cases hp'⟩
  obtain ⟨e1, e2, e3, e4, e5⟩ := s
  rcases List.mem_append.mp hp' with z | z
  · obtain ⟨q, hq, rfl⟩ := List.mem_map.mp z
    obtain ⟨v, u, a, b, c⟩ := valB_ok hk G (H.val q hq)
    exact ⟨v, u, by rw [e4]; exact a, b, by rw [e3]; exact c⟩
  · obtain ⟨c, hc, rfl⟩ := List.mem_map.mp z
    obtain ⟨fd, F1, B1⟩ := hb fun z => by rw [z] at hc; cases hc
    have q := H.xf c hc
    unfold xcB at q
    obtain ⟨q, q9⟩ := ba q
    obtain ⟨q, q8⟩ := ba q
    obtain ⟨q, q7⟩ := ba q
    obtain ⟨q, q6⟩ := ba q
    obtain ⟨q, q5⟩ := ba q
    obtain ⟨q, q4⟩ := ba q
    obtain ⟨q, q3⟩ := ba q
    obtain ⟨q1, q2⟩ := ba q
    refine ⟨by rw [e4]; exact He.glo_ok hk G q3, He.ga K h.box, He.ma K (He.ga K h.box) "__init__", fd, ?_, ?_, ?_, ?_, ?_, ?_⟩
    · rw [e3]; exact ⟨oexB_ok q4, of_decide_eq_true q5, of_decide_eq_true q6, of_decide_eq_true q7⟩
    · rw [e3]; exact He.noat_ok q2
    · rw [e3]; exact of_decide_eq_true q8
    · rw [e3]; exact of_decide_eq_true q9
    · rw [e1, e2, e3, e4, e5]; exact F1
    · rw [e3]; exact B1
/-- BoxError's __init__ -/
theorem box_ok {ck : PySem.W.Frag → Bool} {fn : List Fd} {d : Fd} {i : Nat} {D : Str} {p0 p1 p2 p3 p4 p5 p6 p7 p8 p9 : Pos} (H : HdOk h K) (hk : PySem.W.Frag.In K hp) (G : hp.Ns mainGlobals mg) (c : SaysZ P.main.file ck fn K) (hi : fn[i]? = some d) (hc : d.clo = some D) (ha : d.at_ = (D, some ("__init__" : Str))) (hn : d.name = "__init__")
    (ht : (P.main.scope.names.lookup ("super" : Str)).isSome = false) (hbd : d.body = boxBody p0 p1 p2 p3 p4 p5 p6 p7 p8 p9) (hs : NdefX.nscB boxN ["self", "at"] ["__class__"] d.scope = true) (hp' : (d.params.posonlyargs ++ d.params.args).head?.map (·.arg) = some "self")
    (h1 : d.scope.names.lookup ("super" : Str) = some .globalImplicit) (hl : (p2.endLine == p4.line) = true)
    (hb : ∀ (cl : List (Str × Addr)) (kV doc pm : Value) (an : Option Addr) (cdv ct : Value) (us : List Value), us.length = 2 → bindArgs (PySem.W.fnX d.name d.qual d.params d.body d.scope cl .none kV doc pm an cdv ct) ⟨us, []⟩ = pure ((["self", "at"] : List Str).zip us)) :
    ∃ fd, FnOk P w K mg base C8.CX0 1 (He.ma K (He.ga K D) "__init__") fd ["self", "at"] (spBox K (He.ga K D)) ∧ Binds K fd ["self", "at"] [] := by
  obtain ⟨e1, e2⟩ := c.def_ i hi
  have hsup : PySem.W.nsIn K mainGlobals "super" = some none := He.eqO_ok H.sup
  obtain ⟨fd, cda, cc, F⟩ := d.clD (P := P) e1 e2 hc hsup ht
  have F' := F
  rw [hn, hbd, ha] at F
  refine ⟨fd, fnBox F hs hp' h1 H.st (He.free_ok hk G H.sup) hl, ?_⟩
  obtain ⟨oc, od, doc, pm, an, ct, osl, kV, rfl, lk⟩ := F'.fn
  exact .all fun us hl => hb _ kV doc pm an _ ct us hl
end
end Mi

set_option maxHeartbeats 4000000
namespace Mi
open PySem PySem.Spec PyProof.Rows L2

/-! ### from a run of the law to the law -/
/-- what the caller is told -/
abbrev Told (s₁ : Shared) (r : Result) (s' : Shared) : Prop := r = .ok (.ret (.bool true)) ∧ OldK s₁.heap s'.heap ∧ s'.os = s₁.os ∧ AllBare s'.gens
section
variable {P : Program} {w : World} {K : PySem.W.Frag} {mg mb : Str → Option Value} {k : Nat} {fa a : Addr} {fd : FuncData} {x : Str} {sp : Sp} {s₁ : Shared} {vs : List Value} {ns : List Int} {H : Hp}
theorem hid_at {h : Heap} (z : ∀ b, H b ≠ none → b = a) {b : Addr} {o : Obj} (e : h.get? b = some o) (ne : b ≠ a) : (hidT h H).get? b = some o := hidT_get e (by
  by_cases q : H b = none
  · exact q
  · exact absurd (z b q) ne)
theorem hid_ns {h : Heap} {o : Obj} {its : Array Value} {m : Nat} (z : ∀ b, H b ≠ none → b = a) (ea : h.get? a = some o) (ed : o.data = .seq its m) {b : Addr} {f : Str → Option Value} (n : h.Ns b f) : (hidT h H).Ns b f := by
  obtain ⟨ob, es, ep, e1, e2, e3⟩ := n
  refine ⟨ob, es, ep, hid_at z e1 fun q => ?_, e2, e3⟩
  rw [q, ea] at e1
  rw [← Option.some.inj e1, ed] at e2
  cases e2
/-- the call, the script tracked by H or not at all -/
theorem call_told (KX : K.In s₁.heap) (g1 : s₁.heap.Ns mainGlobals mg) (g2 : s₁.heap.Ns builtinsNs mb) (g3 : ∀ y : Str, y ≠ "__name__" → mb y = bootBuiltins y) (g4 : s₁.heap.NoLimit) (g5 : s₁.gens = #[])
    {m : Nat} {o : Obj} {its : Array Value} (ea : s₁.heap.get? a = some o) (ed : o.data = .seq its m) (rm : Room k callerA)
    (F : ∀ base : Heap, K.In base → base.Ns mainGlobals mg → FnG P w K mg base k fa fd [x] sp) (B : ∀ (s : Shared) (u : Value), BindsTo s fd ⟨[u], []⟩ [(x, u)])
    (z : ∀ b, H b ≠ none → b = a) (zk : H a ≠ none → K.lookup a = none) (O : Only H) (ok : HOk P w H s₁.heap) (p : sp [.ref a] H (fun v _ => v = .bl true) fun _ _ _ => False) :
    codeAny (model P w) callerA (.call (.ref fa) ⟨[.ref a], []⟩) (Told s₁) s₁ := by
  have kb : K.In (hidT s₁.heap H) := fun b ob e => by
    by_cases q : H b = none
    · exact hidT_get (KX b ob e) q
    · have hb := z b q
      rw [hb] at e q
      rw [zk q] at e
      cases e
  have nsG := hid_ns z ea ed g1
  obtain ⟨mc, l1, l2⟩ := g4
  have md : Mod K mg (hidT s₁.heap H) := ⟨kb, nsG, ⟨mb, hid_ns z ea ed g2, g3⟩, ⟨mc, hid_ns z ea ed l1, l2⟩⟩
  have en : Env0 P w K mg (hidT s₁.heap H) callerA [] s₁ H := ⟨rfl, md, fun b ob e => of_hidT e, Nat.le_of_eq (hidT_size _ _), trivial, (fun b hb => by cases hb), ok, .of_eq g5⟩
  have run := (F _ kb nsG).run callerA [] s₁ H ⟨[.ref a], []⟩ [.ref a] [.ref a] (fun v _ => v = .bl true) (fun _ _ _ => False) rm rfl en (B s₁ (.ref a)) (.cons rfl .nil) p
  refine codeAny_mono run fun r s' q => ?_
  match r, q with
  | .error e, q =>
    obtain ⟨_, _, _, _, _, _, _, _, _, _, _, _, bad⟩ := q
    exact bad.elim
  | .ok (.ret u), q =>
    obtain ⟨v, H', eo, bare, un, ok', rv, ev⟩ := q
    have ev' : v = .bl true := ev
    rw [ev'] at rv
    have eu : u = Value.bool true := rv
    refine ⟨by rw [eu], OldK.of_keep fun b ob e => ?_, eo, bare⟩
    rcases O b with q | ⟨o2, xs, q⟩
    · exact un.keep b ob e q (fun c => by cases c) fun c => by cases c
    · have c1 := (ok b _ q).1
      have c2 := (ok' b _ (un.frzs b o2 _ q)).1
      rw [e] at c1
      rw [c2, Option.some.inj c1]
theorem law_told (KX : K.In s₁.heap) (g1 : s₁.heap.Ns mainGlobals mg) (g2 : s₁.heap.Ns builtinsNs mb) (g3 : ∀ y : Str, y ≠ "__name__" → mb y = bootBuiltins y) (g4 : s₁.heap.NoLimit) (g5 : s₁.gens = #[])
    (ea : s₁.heap.get? a = some { cls := .type "list", data := .seq vs.toArray }) (hi : IntsAre vs ns) (hl : ns.length ≤ sizeLine) (rm : Room k callerA)
    (F : ∀ base : Heap, K.In base → base.Ns mainGlobals mg → FnG P w K mg base k fa fd [x] sp) (B : ∀ (s : Shared) (u : Value), BindsTo s fd ⟨[u], []⟩ [(x, u)])
    (p : ∀ H : Hp, SqL K H a (ns.map V.int) → sp [.ref a] H (fun v _ => v = .bl true) fun _ _ _ => False) : codeAny (model P w) callerA (.call (.ref fa) ⟨[.ref a], []⟩) (Told s₁) s₁ := by
  have rv := vals_ints hi
  have ln := hi.length
  cases hk : K.lookup a with
  | some o =>
    have e := KX a o hk
    rw [ea] at e
    have eo := Option.some.inj e
    refine call_told (H := fun _ => none) KX g1 g2 g3 g4 g5 ea rfl rm F B (fun b q => absurd rfl q) (fun q => absurd rfl q) (fun b => .inl rfl) (fun b u q => by cases q) (p _ (.inr ⟨o, vs.toArray, _, hk, by rw [← eo], by rw [← eo], by rw [← eo], ?_, by simpa using rv⟩))
    rw [List.size_toArray, ln]
    exact hl
  | none =>
    let ob : HO := .frz { cls := .type "list", data := .seq vs.toArray } (.lst (ns.map V.int))
    have hne : ∀ {b : Addr}, b ≠ a → upd (fun _ => none) a ob b = none := fun h => upd_ne h
    refine call_told (H := upd (fun _ => none) a ob) KX g1 g2 g3 g4 g5 ea rfl rm F B (fun b q => ?_) (fun _ => hk) (fun b => ?_) (fun b u q => ?_) (p _ (.inl (.inr ⟨_, upd_same⟩)))
    · by_cases hb : b = a
      · exact hb
      · exact absurd (hne hb) q
    · by_cases hb : b = a
      · exact .inr ⟨_, _, by rw [hb]; exact upd_same⟩
      · exact .inl (hne hb)
    · by_cases hb : b = a
      · rw [hb, upd_same] at q
        rw [← Option.some.inj q, hb]
        exact ⟨ea, by rw [List.length_map]; exact hl, vs, _, rv, ea⟩
      · rw [hne hb] at q
        cases q
end
/-- a law whose def keeps a promise of its script -/
theorem walk_ofG {l : PySem.W.OpenLaw} {n k : Nat} {q : Program} {loose : List Str} {XP : (Str → Option Value) → Heap → Prop} {YP : World → Heap → Prop} {d : DefRec} {x : Str} (hn : l.most = some n) (hn2 : n ≤ sizeLine) (hdf : d.params.defaults = []) (rm : Room k callerA)
    (F : ∀ (w : World) (mg : Str → Option Value) (fa : Addr) (h : Heap), YP w h → h.Ns mainGlobals mg → mg d.name = some (.ref fa) → ∃ (K : PySem.W.Frag) (fd : FuncData) (sp : Sp), K.In h ∧ (∀ (s : Shared) (u : Value), BindsTo s fd ⟨[u], []⟩ [(x, u)]) ∧
      (∀ (H : Hp) (a : Addr) (ns : List Int), ns.length ≤ n → SqL K H a (ns.map V.int) → sp [.ref a] H (fun v _ => v = .bl true) fun _ _ _ => False) ∧ ∀ base : Heap, K.In base → base.Ns mainGlobals mg → FnG l.prog w K mg base k fa fd [x] sp) :
    PySem.W.WalkO q loose XP YP l.row.toRowW d [] (fun f vs => PySem.call f vs) := by
  refine Att.attach_call hn hdf fun w s₀ s₁ mg mb fa o pm cd doc a vs ns G Y c1 c2 c3 hm ha hi hl hg => ?_
  obtain ⟨K, fd, sp, KX, B, p, FG⟩ := F w mg fa _ Y G.T.g hm
  exact law_told KX G.T.g G.T.b G.T.builtins G.T.nolimit hg ha hi (Nat.le_trans hl hn2) rm FG B fun H hS => p H a ns hl hS
/-- the end of a law's proof -/
theorem law_end {P : Program} {w : World} {K : PySem.W.Frag} {h : Heap} {mg : Str → Option Value} {fa : Addr} {C : Mi.Ctx} {d : Fd} {file : Str} {ck : PySem.W.Frag → Bool} {fn : List Fd} {i fu : Nat} (g : (He.Fa.glo "law").ok K = true)
    (KX : K.In h) (G : h.Ns mainGlobals mg) (hm : mg ("law" : Str) = some (.ref fa)) (c : SaysZ file ck fn K) (hi : fn[i]? = some d) (ha : d.at_ = (("law" : Str), none)) (hc : d.clo = none) (hs : C8.scC C.N ["script"] d.scope = true) (hsc : C.sc = d.scope) (hfn : C.fn = true)
    (T : ∀ base : Heap, TabOk P w K mg base (caOf K) C)
    (hb : ∀ (kV doc pm : Value) (an : Option Addr) (cdv ct : Value) (us : List Value), us.length = (["script"] : List Str).length → bindArgs (PySem.W.fnOf d.name d.qual d.params d.body d.scope .none kV doc pm an cdv ct) ⟨us, []⟩ = pure ((["script"] : List Str).zip us))
    (pl : ∀ ns : List Int, ns.length ≤ 63 → ∃ st, runOf fu C d.body [.scr (ns.map .int)] [] = .ok (.bl true, st)) (hnh : C.hot = false := by rfl) :
    ∃ (K : PySem.W.Frag) (fd : FuncData) (sp : Sp), K.In h ∧ (∀ (s : Shared) (u : Value), BindsTo s fd ⟨[u], []⟩ [("script", u)]) ∧
      (∀ (H : Hp) (a : Addr) (ns : List Int), ns.length ≤ 63 → SqL K H a (ns.map V.int) → sp [.ref a] H (fun v _ => v = .bl true) fun _ _ _ => False) ∧ ∀ base : Heap, K.In base → base.Ns mainGlobals mg → FnG P w K mg base (C.k + 2) fa fd ["script"] sp := by
  obtain ⟨e1, e2⟩ := c.def_ i hi
  obtain ⟨fd, F⟩ := d.funD e1 e2 hc
  have ef : He.fAd K d.at_ = fa := by
    rw [ha]
    have q := hm.symm.trans (He.glo_ok KX G g)
    have q2 := Option.some.inj q
    injection q2 with q3
    exact q3.symm
  rw [ef] at F
  refine ⟨K, fd, spM K (caOf K) 1 (runOf fu C d.body), KX, fun s u => FunD.bindsA F hb s [u] rfl, fun H a ns hl hS => ?_, fun base _ _ => fnG_of F hs hsc hfn hnh (T base)⟩
  obtain ⟨st, e⟩ := pl ns hl
  exact sp_law hS e
end Mi

set_option maxHeartbeats 4000000
namespace Mi
open PySem PySem.Spec PyProof.Rows L2

/-! ### what is wanted behind a step of the mirror -/
abbrev EQ := Str → DV → Ev → Store → Prop
def NoE : EQ := fun _ _ _ _ => False
def XR {β : Type} (r : Res (β × Store)) (Q : β → Store → Prop) (E : EQ) : Prop := match r with
  | .ok a => Q a.1 a.2
  | .exc c v ρ st => E c v ρ st
  | .bad => False
def SR (r : Res (Fl × Ev × Store)) (Q : Fl → Ev → Store → Prop) (E : EQ) : Prop := match r with
  | .ok a => Q a.1 a.2.1 a.2.2
  | .exc c v ρ st => E c v ρ st
  | .bad => False
abbrev RE := Str → DV → Store → Prop
/-- a def's run -/
def RR (r : Res (DV × Store)) (Q : DV → Store → Prop) (E : RE) : Prop := match r with
  | .ok a => Q a.1 a.2
  | .exc c v _ st => E c v st
  | .bad => False
def OQ {β : Type} (o : Option (β × Store)) (Q : β → Store → Prop) : Prop := match o with
  | some a => Q a.1 a.2
  | none => False
def VQ (o : Option (Option DV)) (Q : DV → Prop) : Prop := match o with
  | some (some d) => Q d
  | _ => False
def BQ (d : DV) (Q : Bool → Prop) : Prop := match d with
  | .bl b => Q b
  | _ => False
def TQ (o : Option Ev) (Q : Ev → Prop) : Prop := match o with
  | some ρ => Q ρ
  | none => False
def CQ {α : Type} (o : Option α) (Q : α → Prop) : Prop := match o with
  | some a => Q a
  | none => False
@[simp] theorem oq_some {β : Type} {d : β} {st : Store} {Q : β → Store → Prop} : OQ (some (d, st)) Q = Q d st := (rfl)
@[simp] theorem vq_some {d : DV} {Q : DV → Prop} : VQ (some (some d)) Q = Q d := (rfl)
@[simp] theorem bq_bl {b : Bool} {Q : Bool → Prop} : BQ (.bl b) Q = Q b := (rfl)
@[simp] theorem tq_some {ρ : Ev} {Q : Ev → Prop} : TQ (some ρ) Q = Q ρ := (rfl)
@[simp] theorem cq_some {α : Type} {a : α} {Q : α → Prop} : CQ (some a) Q = Q a := (rfl)
def ifQ (k : Bool) (p q : Prop) : Prop := (k = true → p) ∧ (k = false → q)
@[simp] theorem ifQ_t {p q : Prop} : ifQ true p q = p := by simp [ifQ]
@[simp] theorem ifQ_f {p q : Prop} : ifQ false p q = q := by simp [ifQ]
section
variable {β γ : Type} {ρ : Ev} {st : Store} {E : EQ}
theorem XR.mono {r : Res (β × Store)} {Q Q' : β → Store → Prop} (h : XR r Q E) (k : ∀ d st, Q d st → Q' d st) : XR r Q' E := by
  cases r with
  | ok a => exact k _ _ h
  | exc c v ρ st => exact h
  | bad => exact h
theorem RR.mono {r : Res (DV × Store)} {Q Q' : DV → Store → Prop} {F F' : RE} (h : RR r Q F) (k : ∀ d st, Q d st → Q' d st) (k' : ∀ c v st, F c v st → F' c v st) : RR r Q' F' := by
  cases r with
  | ok a => exact k _ _ h
  | exc c v ρ st => exact k' _ _ _ h
  | bad => exact h
theorem SR.mono {r : Res (Fl × Ev × Store)} {Q Q' : Fl → Ev → Store → Prop} {F F' : EQ} (h : SR r Q F) (k : ∀ f ρ st, Q f ρ st → Q' f ρ st) (k' : ∀ c v ρ st, F c v ρ st → F' c v ρ st) : SR r Q' F' := by
  cases r with
  | ok a => exact k _ _ _ h
  | exc c v ρ st => exact k' _ _ _ _ h
  | bad => exact h
@[simp] theorem xr_bind {a : XM β} {f : β → XM γ} {Q : γ → Store → Prop} : XR (xBind a f ρ st) Q E = XR (a ρ st) (fun d st1 => XR (f d ρ st1) Q E) E := by
  unfold xBind
  cases a ρ st <;> rfl
@[simp] theorem xr_pure {d : β} {Q : β → Store → Prop} : XR (xPure d ρ st) Q E = Q d st := (rfl)
@[simp] theorem xr_v {m : Store → Option (β × Store)} {Q : β → Store → Prop} : XR (xV m ρ st) Q E = OQ (m st) Q := by
  unfold xV
  cases m st <;> rfl
@[simp] theorem xr_var {i : Nat} {Q : DV → Store → Prop} : XR (xVar i ρ st) Q E = VQ ρ[i]? fun d => Q d st := by
  unfold xVar
  cases h : ρ[i]? with
  | none => rfl
  | some o => cases o <;> rfl
@[simp] theorem xr_x2 {a b : XM DV} {m : V2} {Q : DV → Store → Prop} : XR (x2 a b m ρ st) Q E = XR (a ρ st) (fun x st1 => XR (b ρ st1) (fun y st2 => OQ (m x y st2) Q) E) E := by
  unfold x2
  rw [xr_bind]
  simp only [xr_bind, xr_v]
@[simp] theorem xr_x1 {a : XM DV} {m : DV → Store → Option (DV × Store)} {Q : DV → Store → Prop} : XR (x1 a m ρ st) Q E = XR (a ρ st) (fun x st1 => OQ (m x st1) Q) E := by
  unfold x1
  rw [xr_bind]
  simp only [xr_v]
@[simp] theorem xr_n {a : XM (List DV)} {m : List DV → Store → Option (DV × Store)} {Q : DV → Store → Prop} : XR (xN a m ρ st) Q E = XR (a ρ st) (fun x st1 => OQ (m x st1) Q) E := by
  unfold xN
  rw [xr_bind]
  simp only [xr_v]
@[simp] theorem xr_nil {Q : List DV → Store → Prop} : XR (xNil ρ st) Q E = Q [] st := (rfl)
@[simp] theorem xr_cons {a : XM DV} {r : XM (List DV)} {Q : List DV → Store → Prop} : XR (xCons a r ρ st) Q E = XR (a ρ st) (fun d st1 => XR (r ρ st1) (fun ds st2 => Q (d :: ds) st2) E) E := by
  unfold xCons
  simp only [xr_bind, xr_pure]
@[simp] theorem xr_if {c : XM Bool} {a b : XM β} {Q : β → Store → Prop} : XR (xIf c a b ρ st) Q E = XR (c ρ st) (fun k st1 => ifQ k (XR (a ρ st1) Q E) (XR (b ρ st1) Q E)) E := by
  unfold xIf
  rw [xr_bind]
  congr 1
  funext k st1
  cases k <;> simp [ifQ]
@[simp] theorem xr_asB {a : XM DV} {Q : Bool → Store → Prop} : XR (xAsB a ρ st) Q E = XR (a ρ st) (fun d st1 => BQ d fun k => Q k st1) E := by
  unfold xAsB
  rw [xr_bind]
  congr 1
  funext d st1
  cases d <;> rfl
@[simp] theorem xr_not {a : XM Bool} {Q : Bool → Store → Prop} : XR (xNot a ρ st) Q E = XR (a ρ st) (fun k st1 => Q (!k) st1) E := by
  unfold xNot
  rw [xr_bind]
  rfl
@[simp] theorem xr_and {a b : XM Bool} {Q : Bool → Store → Prop} : XR (xAnd a b ρ st) Q E = XR (a ρ st) (fun k st1 => ifQ k (XR (b ρ st1) Q E) (Q false st1)) E := by
  unfold xAnd
  rw [xr_if]
  rfl
@[simp] theorem xr_or {a b : XM Bool} {Q : Bool → Store → Prop} : XR (xOr a b ρ st) Q E = XR (a ρ st) (fun k st1 => ifQ k (Q true st1) (XR (b ρ st1) Q E)) E := by
  unfold xOr
  rw [xr_if]
  rfl
@[simp] theorem xr_tru {a : XM DV} {Q : Bool → Store → Prop} : XR (xTru a ρ st) Q E = XR (a ρ st) (fun d st1 => CQ (truD d st1) fun k => Q k st1) E := by
  unfold xTru
  rw [xr_bind]
  congr 1
  funext d st1
  cases h : truD d st1 <;> rfl
@[simp] theorem xr_notV {a : XM DV} {Q : DV → Store → Prop} : XR (xNotV a ρ st) Q E = XR (a ρ st) (fun d st1 => CQ (truD d st1) fun k => Q (.bl (!k)) st1) E := by
  unfold xNotV
  rw [xr_bind]
  congr 1
  funext d st1
  cases h : truD d st1 <;> rfl
@[simp] theorem xr_list {mu : Bool} {a : XM (List DV)} {Q : DV → Store → Prop} : XR (xList mu a ρ st) Q E = XR (a ρ st) (fun ds st1 => ds.length ≤ sizeLine ∧ Q (newL mu ds st1).1 (newL mu ds st1).2) E := by
  unfold xList
  rw [xr_bind]
  congr 1
  funext ds st1
  by_cases h : ds.length ≤ sizeLine
  · rw [if_pos h]
    simp [XR, h]
  · rw [if_neg h]
    simp [XR, xBad, h]
@[simp] theorem xr_tup {a : XM (List DV)} {Q : DV → Store → Prop} : XR (xTup a ρ st) Q E = XR (a ρ st) (fun ds st1 => ds.length ≤ sizeLine ∧ Q (.tup ds) st1) E := by
  unfold xTup
  rw [xr_bind]
  congr 1
  funext ds st1
  by_cases h : ds.length ≤ sizeLine
  · rw [if_pos h]
    simp [XR, xPure, h]
  · rw [if_neg h]
    simp [XR, xBad, h]
theorem xr_ofN {n : Nat} {run : Run} {ds : List DV} {Q : DV → Store → Prop} : XR (ofN n run ds ρ st) Q E = (ds.length = n ∧ RR (run ds st) Q fun c v s => E c v ρ s) := by
  unfold ofN
  by_cases h : ds.length = n
  · rw [if_pos h]
    unfold callR
    cases run ds st <;> simp [XR, RR, h]
  · rw [if_neg h]
    simp [XR, xBad, h]
@[simp] theorem xr_call {n : Nat} {run : Run} {a : XM (List DV)} {Q : DV → Store → Prop} : XR (xCall n run a ρ st) Q E = XR (a ρ st) (fun ds st1 => ds.length = n ∧ RR (run ds st1) Q fun c v s => E c v ρ s) E := by
  unfold xCall
  rw [xr_bind]
  simp only [xr_ofN]
@[simp] theorem xr_make {c : Str} {df : Df} {a : XM (List DV)} {Q : DV → Store → Prop} : XR (xMake c df a ρ st) Q E = XR (a ρ st) (fun ds st1 => ds.length + 1 = df.n ∧ RR (df.run (.ref st1.length :: ds) (st1 ++ [.ins c []])) (fun d s => d = .non ∧ Q (.ref st1.length) s) fun c v s => E c v ρ s) E := by
  unfold xMake
  rw [xr_bind]
  congr 1
  funext ds st1
  unfold ofN
  by_cases h : (DV.ref st1.length :: ds).length = df.n
  · rw [if_pos h]
    have h' : ds.length + 1 = df.n := by simpa using h
    unfold callR
    cases e : df.run (.ref st1.length :: ds) (st1 ++ [.ins c []]) with
    | ok p =>
      obtain ⟨d, s⟩ := p
      cases d <;> simp [XR, RR, h']
    | exc _ _ _ _ => simp [XR, RR, h']
    | bad => simp [XR, RR, h']
  · rw [if_neg h]
    have h' : ¬ ds.length + 1 = df.n := by simpa using h
    simp [XR, xBad, h']
end
/-- the instance at n -/
def insQ (d : DV) (st : Store) (Q : Str → List (Str × DV) → Prop) : Prop := CQ (insOf d st) fun p => Q p.1 p.2
section
variable {ρ : Ev} {st : Store} {E : EQ}
@[simp] theorem xr_fld {at_ : Str → Bool} {f : Str} {o : XM DV} {Q : DV → Store → Prop} : XR (xFld at_ f o ρ st) Q E = XR (o ρ st) (fun d st1 => insQ d st1 fun c fs => at_ c = true ∧ CQ (fs.lookup f) fun v => Q v st1) E := by
  unfold xFld
  rw [xr_bind]
  congr 1
  funext d st1
  rw [xr_v]
  unfold insQ
  cases h : insOf d st1 with
  | none => rfl
  | some p =>
    obtain ⟨c, fs⟩ := p
    cases h1 : at_ c with
    | false => cases h2 : fs.lookup f <;> simp [OQ, CQ, h1, h2]
    | true => cases h2 : fs.lookup f <;> simp [OQ, CQ, h1, h2]
theorem xr_any {mt : Str → Option Df} {m : Str} {o : XM DV} {a : XM (List DV)} {Q : DV → Store → Prop} : XR (xAny mt m o a ρ st) Q E = XR (o ρ st) (fun d st1 => match insOf d st1 with
    | some (c, fs) => fs.lookup m = none ∧ CQ (mt c) fun df => XR (a ρ st1) (fun ds st2 => ds.length + 1 = df.n ∧ RR (df.run (d :: ds) st2) Q fun c v s => E c v ρ s) E
    | none => CQ (bMeth (kindOf d st1) m) fun f => XR (a ρ st1) (fun ds st2 => OQ (f d ds st2) Q) E) E := by
  unfold xAny
  rw [xr_bind]
  congr 1
  funext d st1
  cases h : insOf d st1 with
  | none =>
    simp only [h]
    cases h2 : bMeth (kindOf d st1) m with
    | none => simp [XR, CQ]
    | some f =>
      simp only [CQ]
      rw [xr_bind]
      simp only [xr_v]
  | some p =>
    obtain ⟨c, fs⟩ := p
    simp only [h]
    cases h1 : fs.lookup m with
    | some z => simp [XR, h1]
    | none =>
      cases h2 : mt c with
      | none => simp [XR, CQ, h1, h2]
      | some df =>
        simp only [CQ, true_and]
        rw [xr_bind]
        simp only [xr_ofN, List.length_cons]
@[simp] theorem xr_nopart {Q : Option Int → Store → Prop} : XR (xNoPart ρ st) Q E = Q none st := (rfl)
def IQ (d : DV) (Q : Int → Prop) : Prop := match d with
  | .int i => Q i
  | _ => False
@[simp] theorem iq_int {i : Int} {Q : Int → Prop} : IQ (.int i) Q = Q i := (rfl)
@[simp] theorem xr_part {a : XM DV} {Q : Option Int → Store → Prop} : XR (xPart a ρ st) Q E = XR (a ρ st) (fun d st1 => IQ d fun i => Q (some i) st1) E := by
  unfold xPart
  rw [xr_bind]
  congr 1
  funext d st1
  cases d <;> rfl
@[simp] theorem xr_sl {mu : Bool} {a : XM DV} {lo hi : XO} {Q : DV → Store → Prop} : XR (xSl mu a lo hi ρ st) Q E = XR (a ρ st) (fun x st1 => XR (lo ρ st1) (fun l st2 => XR (hi ρ st2) (fun h st3 => OQ (oSl mu x l h st3) Q) E) E) E := by
  unfold xSl
  simp only [xr_bind, xr_v]
@[simp] theorem xr_pairs0 {Q : List (DV × DV) → Store → Prop} : XR (xPairs [] ρ st) Q E = Q [] st := (rfl)
@[simp] theorem xr_pairs {k v : XM DV} {r : List (XM DV × XM DV)} {Q : List (DV × DV) → Store → Prop} : XR (xPairs ((k, v) :: r) ρ st) Q E = XR (k ρ st) (fun x st1 => XR (v ρ st1) (fun y st2 => XR (xPairs r ρ st2) (fun ps st3 => Q ((x, y) :: ps) st3) E) E) E := by
  rw [xPairs]
  simp only [xr_bind, xr_pure]
@[simp] theorem xr_disp {mu : Bool} {prs : List (XM DV × XM DV)} {Q : DV → Store → Prop} : XR (xDisp mu prs ρ st) Q E = XR (xPairs prs ρ st) (fun ps st1 => CQ (kvOf ps) fun kvs => kvs.length ≤ 15 ∧ Q (newD mu (mergeKD [] kvs) st1).1 (newD mu (mergeKD [] kvs) st1).2) E := by
  unfold xDisp
  rw [xr_bind]
  congr 1
  funext ps st1
  cases h : kvOf ps with
  | none => rfl
  | some kvs =>
    by_cases hl : kvs.length ≤ 15
    · simp [XR, CQ, hl]
    · simp [XR, CQ, hl]
@[simp] theorem xr_dict0 {mu : Bool} {Q : DV → Store → Prop} : XR (xDict0 mu ρ st) Q E = Q (newD mu [] st).1 (newD mu [] st).2 := (rfl)
@[simp] theorem xr_chain {m m' : V2} {a b c : XM DV} {Q : DV → Store → Prop} : XR (xChain m m' a b c ρ st) Q E = XR (a ρ st) (fun x st1 => XR (b ρ st1) (fun y st2 => OQ (m x y st2) fun d st3 => BQ d fun k => ifQ k (XR (c ρ st3) (fun z st4 => OQ (m' y z st4) Q) E) (Q (.bl false) st3)) E) E := by
  unfold xChain
  rw [xr_bind]
  congr 1
  funext x st1
  rw [xr_bind]
  congr 1
  funext y st2
  cases h : m x y st2 with
  | none => rfl
  | some p =>
    obtain ⟨d, st3⟩ := p
    cases d with
    | bl k =>
      cases k with
      | true =>
        simp only [OQ, BQ, ifQ_t]
        rw [xr_bind]
        simp only [xr_v, OQ]
      | false => simp [XR, OQ, BQ, ifQ_f]
    | _ => rfl
@[simp] theorem xr_star {a : XM DV} {r : XM (List DV)} {Q : List DV → Store → Prop} : XR (xStar a r ρ st) Q E = XR (a ρ st) (fun d st1 => CQ (rseq d st1) fun xs => XR (r ρ st1) (fun ds st2 => Q (xs ++ ds) st2) E) E := by
  unfold xStar
  rw [xr_bind]
  congr 1
  funext d st1
  cases h : rseq d st1 with
  | none => rfl
  | some xs =>
    simp only [CQ]
    rw [xr_bind]
    rfl
@[simp] theorem xr_frz {i : Nat} {Q : DV → Store → Prop} : XR (xFrz i ρ st) Q E = VQ ρ[i]? fun d => match d with
    | .ref n => (match st[n]? with
      | some (.lst xs) => Q (.lst xs) (st.set n .dead)
      | some (.dct xs) => Q (.dct xs) (st.set n .dead)
      | _ => False)
    | _ => False := by
  unfold xFrz
  cases h : ρ[i]? with
  | none => rfl
  | some o =>
    cases o with
    | none => rfl
    | some d =>
      cases d with
      | ref n =>
        simp only [VQ]
        cases h2 : st[n]? with
        | none => rfl
        | some c => cases c <;> rfl
      | _ => rfl
/-! ### statements -/
theorem sr_bind {β : Type} {a : XM β} {f : β → SM} {Q : Fl → Ev → Store → Prop} : SR (sBind a f ρ st) Q E = XR (a ρ st) (fun d st1 => SR (f d ρ st1) Q E) E := by
  unfold sBind
  cases a ρ st <;> rfl
@[simp] theorem sr_nx {Q : Fl → Ev → Store → Prop} : SR (sNx ρ st) Q E = Q .nx ρ st := (rfl)
theorem sr_seq {a b : SM} {Q : Fl → Ev → Store → Prop} : SR (sSeq a b ρ st) Q E = SR (a ρ st) (fun f ρ1 st1 => match f with
    | .nx => SR (b ρ1 st1) Q E
    | f => Q f ρ1 st1) E := by
  unfold sSeq
  cases h : a ρ st with
  | ok p =>
    obtain ⟨f, ρ1, st1⟩ := p
    cases f <;> rfl
  | exc c v r s => rfl
  | bad => rfl
@[simp] theorem sr_drop {a : XM DV} {Q : Fl → Ev → Store → Prop} : SR (sDrop a ρ st) Q E = XR (a ρ st) (fun _ st1 => Q .nx ρ st1) E := by
  unfold sDrop
  rw [sr_bind]
  rfl
@[simp] theorem sr_ret {a : XM DV} {Q : Fl → Ev → Store → Prop} : SR (sRet a ρ st) Q E = XR (a ρ st) (fun d st1 => Q (.rt d) ρ st1) E := by
  unfold sRet
  rw [sr_bind]
  rfl
@[simp] theorem sr_retN {Q : Fl → Ev → Store → Prop} : SR (sRetN ρ st) Q E = Q (.rt .non) ρ st := (rfl)
@[simp] theorem sr_if {c : XM Bool} {a b : SM} {Q : Fl → Ev → Store → Prop} : SR (sIf c a b ρ st) Q E = XR (c ρ st) (fun k st1 => ifQ k (SR (a ρ st1) Q E) (SR (b ρ st1) Q E)) E := by
  unfold sIf
  rw [sr_bind]
  congr 1
  funext k st1
  cases k <;> simp [ifQ]
@[simp] theorem sr_asg {a : XM DV} {t : TM} {Q : Fl → Ev → Store → Prop} : SR (sAsg a t ρ st) Q E = XR (a ρ st) (fun d st1 => TQ (t d ρ) fun ρ' => Q .nx ρ' st1) E := by
  unfold sAsg
  rw [sr_bind]
  congr 1
  funext d st1
  cases h : t d ρ <;> rfl
@[simp] theorem tq_name {i : Nat} {d : DV} {Q : Ev → Prop} : TQ (tmName i d ρ) Q = Q (ρ.set i (some d)) := (rfl)
@[simp] theorem sr_par2 {i j : Nat} {a : XM (List DV)} {Q : Fl → Ev → Store → Prop} : SR (sPar2 i j a ρ st) Q E = XR (a ρ st) (fun ds st1 => match ds with
    | [x, y] => Q .nx ((ρ.set i (some x)).set j (some y)) st1
    | _ => False) E := by
  unfold sPar2
  rw [sr_bind]
  congr 1
  funext ds st1
  match ds with
  | [] => rfl
  | [_] => rfl
  | [_, _] => rfl
  | _ :: _ :: _ :: _ => rfl
@[simp] theorem sr_par3 {i j k : Nat} {a : XM (List DV)} {Q : Fl → Ev → Store → Prop} : SR (sPar3 i j k a ρ st) Q E = XR (a ρ st) (fun ds st1 => match ds with
    | [x, y, z] => Q .nx (((ρ.set i (some x)).set j (some y)).set k (some z)) st1
    | _ => False) E := by
  unfold sPar3
  rw [sr_bind]
  congr 1
  funext ds st1
  match ds with
  | [] => rfl
  | [_] => rfl
  | [_, _] => rfl
  | [_, _, _] => rfl
  | _ :: _ :: _ :: _ :: _ => rfl
@[simp] theorem sr_raise {c : Str} {a : XM (List DV)} {Q : Fl → Ev → Store → Prop} : SR (sRaise c a ρ st) Q E = XR (a ρ st) (fun ds st1 => match ds with
    | [d] => E c d ρ st1
    | _ => False) E := by
  unfold sRaise
  rw [sr_bind]
  congr 1
  funext ds st1
  match ds with
  | [] => rfl
  | [_] => rfl
  | _ :: _ :: _ => rfl
@[simp] theorem sr_fld {at_ : Str → Bool} {f : Str} {v o : XM DV} {Q : Fl → Ev → Store → Prop} : SR (sFldM at_ f v o ρ st) Q E = XR (v ρ st) (fun y st1 => XR (o ρ st1) (fun x st2 => CQ (insAt x st2) fun p => at_ p.2.1 = true ∧ p.2.2.length < 1000 ∧ Q .nx ρ (st2.set p.1 (.ins p.2.1 (putN f y p.2.2)))) E) E := by
  unfold sFldM
  rw [sr_bind]
  congr 1
  funext y st1
  rw [sr_bind]
  congr 1
  funext x st2
  cases h : insAt x st2 with
  | none => rfl
  | some p =>
    obtain ⟨n, c, fs⟩ := p
    by_cases h1 : at_ c = true
    · by_cases h2 : fs.length < 1000
      · simp [SR, CQ, h1, h2]
      · simp [SR, CQ, h1, h2]
    · simp [SR, CQ, h1]
/-- the run, by the body's code -/
theorem rr_run {fu : Nat} {C : Mi.Ctx} {body : List Stmt} {code : SM} {ds : List DV} {Q : DV → Store → Prop} {F : RE} (hc : (sem fu).B C body = code)
    (h : SR (code (ds.map some ++ List.replicate (C.N.length - ds.length) none) st) (fun f _ s => match f with
      | .rt d => Q d s
      | .nx => Q .non s
      | _ => False) (fun c v _ s => F c v s)) : RR (runOf fu C body ds st) Q F := by
  unfold runOf
  rw [hc]
  cases e : code (ds.map some ++ List.replicate (C.N.length - ds.length) none) st with
  | ok p =>
    obtain ⟨f, ρ', s⟩ := p
    rw [e] at h
    cases f <;> exact h
  | exc c v r s =>
    rw [e] at h
    exact h
  | bad =>
    rw [e] at h
    exact h
end
end Mi

set_option maxHeartbeats 4000000
namespace Mi
open PySem PySem.Spec PyProof.Rows L2

/-! ### loops -/
def FQ (Q : Fl → Ev → Store → Prop) (I : Ev → Store → Prop) : Fl → Ev → Store → Prop := fun f ρ st => match f with
  | .nx => I ρ st
  | .ct => I ρ st
  | .bk => Q .nx ρ st
  | .rt d => Q (.rt d) ρ st
def SQ (Q : Fl → Ev → Store → Prop) (N : Ev → Store → Prop) : Fl → Ev → Store → Prop := fun f ρ st => match f with
  | .nx => N ρ st
  | f => Q f ρ st
def RQ (Q : DV → Store → Prop) : Fl → Ev → Store → Prop := fun f _ s => match f with
  | .rt d => Q d s
  | .nx => Q .non s
  | _ => False
section
variable {Q : Fl → Ev → Store → Prop} {N I : Ev → Store → Prop} {R : DV → Store → Prop} {ρ : Ev} {st : Store} {d : DV}
@[simp] theorem fq_nx : FQ Q I .nx ρ st = I ρ st := (rfl)
@[simp] theorem fq_ct : FQ Q I .ct ρ st = I ρ st := (rfl)
@[simp] theorem fq_bk : FQ Q I .bk ρ st = Q .nx ρ st := (rfl)
@[simp] theorem fq_rt : FQ Q I (.rt d) ρ st = Q (.rt d) ρ st := (rfl)
@[simp] theorem sq_nx : SQ Q N .nx ρ st = N ρ st := (rfl)
@[simp] theorem sq_ct : SQ Q N .ct ρ st = Q .ct ρ st := (rfl)
@[simp] theorem sq_bk : SQ Q N .bk ρ st = Q .bk ρ st := (rfl)
@[simp] theorem sq_rt : SQ Q N (.rt d) ρ st = Q (.rt d) ρ st := (rfl)
@[simp] theorem rq_nx : RQ R .nx ρ st = R .non st := (rfl)
@[simp] theorem rq_rt : RQ R (.rt d) ρ st = R d st := (rfl)
@[simp] theorem rr_ok {F : RE} : RR (.ok (d, st)) R F = R d st := (rfl)
@[simp] theorem rr_exc {c : Str} {F : RE} : RR (.exc c d ρ st) R F = F c d st := (rfl)
end
section
variable {E : EQ} {Q : Fl → Ev → Store → Prop}
@[simp] theorem sr_seqQ {a b : SM} {ρ : Ev} {st : Store} : SR (sSeq a b ρ st) Q E = SR (a ρ st) (SQ Q fun ρ1 st1 => SR (b ρ1 st1) Q E) E := by
  rw [sr_seq]
  congr 1
@[simp] theorem sr_bk {ρ : Ev} {st : Store} : SR (sBk ρ st) Q E = Q .bk ρ st := (rfl)
@[simp] theorem sr_ct {ρ : Ev} {st : Store} : SR (sCt ρ st) Q E = Q .ct ρ st := (rfl)
theorem loop_vals {xs : List DV} {tg : TM} {body : SM} (I : Nat → Ev → Store → Prop)
    (hs : ∀ i d ρ st, xs[i]? = some d → I i ρ st → TQ (tg d ρ) fun ρ1 => SR (body ρ1 st) (FQ Q (I (i + 1))) E)
    (hd : ∀ ρ st, I xs.length ρ st → Q .nx ρ st) : ∀ n i ρ st, i + n = xs.length → I i ρ st → SR (sLoop (.vals xs) tg body (n + 1) i ρ st) Q E
  | 0, i, ρ, st, hn, h => by
    have hi : xs[i]? = none := List.getElem?_eq_none (by omega)
    unfold sLoop
    simp only [srcAt, hi]
    have : i = xs.length := by omega
    subst this
    exact hd _ _ h
  | n + 1, i, ρ, st, hn, h => by
    have hi : xs[i]? = some xs[i] := List.getElem?_eq_getElem (by omega)
    have h1 := hs i _ ρ st hi h
    unfold sLoop
    simp only [srcAt, hi]
    cases ht : tg xs[i] ρ with
    | none => rw [ht] at h1; exact h1.elim
    | some ρ1 =>
      rw [ht] at h1
      simp only [TQ] at h1
      cases hb : body ρ1 st with
      | ok p =>
        obtain ⟨f, ρ2, st2⟩ := p
        rw [hb] at h1
        cases f with
        | nx => simp only [hb]; exact loop_vals I hs hd n (i + 1) ρ2 st2 (by omega) h1
        | ct => simp only [hb]; exact loop_vals I hs hd n (i + 1) ρ2 st2 (by omega) h1
        | bk => simp only [hb]; exact h1
        | rt d => simp only [hb]; exact h1
      | exc c v r s => rw [hb] at h1; simp only [hb]; exact h1
      | bad => rw [hb] at h1; exact h1.elim
/-- a for over values -/
theorem sr_forV {src : XM Src} {tg : TM} {body : SM} {ρ : Ev} {st : Store} {xs : List DV} {st1 : Store} (hs : src ρ st = .ok (.vals xs, st1)) (I : Nat → Ev → Store → Prop) (h0 : I 0 ρ st1)
    (hb : ∀ i d ρ st, xs[i]? = some d → I i ρ st → TQ (tg d ρ) fun ρ1 => SR (body ρ1 st) (FQ Q (I (i + 1))) E)
    (hd : ∀ ρ st, I xs.length ρ st → Q .nx ρ st) : SR (sFor src tg body ρ st) Q E := by
  unfold sFor sBind
  rw [hs]
  exact loop_vals I hb hd xs.length 0 ρ st1 (by omega) h0
/-- a while, by a measure -/
theorem sr_whl {c : XM Bool} {body : SM} (I : Ev → Store → Prop) (m : Ev → Store → Nat)
    (hs : ∀ ρ st, I ρ st → XR (c ρ st) (fun k st1 => ifQ k (SR (body ρ st1) (FQ Q fun ρ2 st2 => I ρ2 st2 ∧ m ρ2 st2 < m ρ st) E) (Q .nx ρ st1)) E) :
    ∀ n ρ st, m ρ st < n → I ρ st → SR (sWhl c body n ρ st) Q E
  | 0, ρ, st, hn, h => by omega
  | n + 1, ρ, st, hn, h => by
    have h1 := hs ρ st h
    unfold sWhl
    rw [sr_bind]
    refine XR.mono h1 fun k st1 h2 => ?_
    cases k with
    | false => exact h2.2 rfl
    | true =>
      have h3 := h2.1 rfl
      simp only [if_true]
      cases hb : body ρ st1 with
      | ok p =>
        obtain ⟨f, ρ2, st2⟩ := p
        rw [hb] at h3
        cases f with
        | nx => simp only [hb]; exact sr_whl I m hs n ρ2 st2 (Nat.lt_of_lt_of_le h3.2 (by omega)) h3.1
        | ct => simp only [hb]; exact sr_whl I m hs n ρ2 st2 (Nat.lt_of_lt_of_le h3.2 (by omega)) h3.1
        | bk => simp only [hb]; exact h3
        | rt d => simp only [hb]; exact h3
      | exc c v r s => rw [hb] at h3; simp only [hb]; exact h3
      | bad => rw [hb] at h3; exact h3.elim
@[simp] theorem sr_try {exm : Str → Str → Option Bool} {xf : Str → Bool} {b : SM} {i : Nat} {hc : Str} {f : DV → Option DV} {ρ : Ev} {st : Store} : SR (sTry exm xf b i hc f ρ st) Q E = SR (b ρ st) Q (fun c v ρ' st' => match exm c hc with
    | some true => xf c = true ∧ i < ρ'.length ∧ CQ (f v) fun d => Q (.rt d) ρ' st'
    | some false => E c v ρ' st'
    | none => False) := by
  unfold sTry
  cases hb : b ρ st with
  | ok p => rfl
  | bad => rfl
  | exc c v ρ' st' =>
    simp only [SR, hb]
    cases he : exm c hc with
    | none => simp [SR]
    | some k =>
      cases k with
      | false => simp [SR]
      | true =>
        by_cases h1 : xf c = true
        · by_cases h2 : i < ρ'.length
          · cases h3 : f v <;> simp [SR, CQ, h1, h2, h3]
          · simp [SR, h1, h2]
        · simp [SR, h1]
/-! ### list comprehensions over values -/
theorem lcgo_vals {xs : List DV} {tg : TM} {tt : XM Bool} {te : XM DV} {ρ : Ev} {P : List DV → Store → Prop} (I : Nat → List DV → Store → Prop) (hl : xs.length ≤ sizeLine)
    (hs : ∀ i d acc st, xs[i]? = some d → I i acc st → TQ (tg d ρ) fun ρ1 => XR (tt ρ1 st) (fun k st1 => ifQ k (XR (te ρ1 st1) (fun y st2 => I (i + 1) (acc ++ [y]) st2) NoE) (I (i + 1) acc st1)) NoE)
    (hd : ∀ acc st, I xs.length acc st → P acc st) : ∀ n i acc st, i + n = xs.length → I i acc.reverse st → OQ (lcGo (.vals xs) tg tt te ρ (n + 1) i acc st) fun a s => P a.reverse s
  | 0, i, acc, st, hn, h => by
    have hi : xs[i]? = none := List.getElem?_eq_none (by omega)
    unfold lcGo
    simp only [srcAt, hi]
    have : i = xs.length := by omega
    subst this
    exact hd _ _ h
  | n + 1, i, acc, st, hn, h => by
    have hi : xs[i]? = some xs[i] := List.getElem?_eq_getElem (by omega)
    have h1 := hs i _ _ st hi h
    unfold lcGo
    simp only [srcAt, hi]
    cases ht : tg xs[i] ρ with
    | none => rw [ht] at h1; exact h1.elim
    | some ρ1 =>
      rw [ht] at h1
      simp only [TQ] at h1
      simp only
      cases hb : tt ρ1 st with
      | ok p =>
        obtain ⟨k, st1⟩ := p
        rw [hb] at h1
        cases k with
        | false => exact lcgo_vals I hl hs hd n (i + 1) acc st1 (by omega) (h1.2 rfl)
        | true =>
          have h2 := h1.1 rfl
          simp only
          cases hy : te ρ1 st1 with
          | ok q =>
            obtain ⟨y, st2⟩ := q
            rw [hy] at h2
            simp only
            rw [if_pos (by omega)]
            exact lcgo_vals I hl hs hd n (i + 1) (y :: acc) st2 (by omega) (by simpa [XR] using h2)
          | exc c v r s => rw [hy] at h2; exact h2.elim
          | bad => rw [hy] at h2; exact h2.elim
      | exc c v r s => rw [hb] at h1; exact h1.elim
      | bad => rw [hb] at h1; exact h1.elim
theorem xr_lcV {mu : Bool} {src : XM Src} {tg : TM} {tt : XM Bool} {te : XM DV} {vs : List Nat} {ρ : Ev} {st st1 : Store} {xs : List DV} {P : DV → Store → Prop} (hs : src ρ st = .ok (.vals xs, st1)) (hl : xs.length ≤ sizeLine) (I : Nat → List DV → Store → Prop) (h0 : I 0 [] st1)
    (hb : ∀ i d acc st, xs[i]? = some d → I i acc st → TQ (tg d (wipeD ρ vs)) fun ρ1 => XR (tt ρ1 st) (fun k st1 => ifQ k (XR (te ρ1 st1) (fun y st2 => I (i + 1) (acc ++ [y]) st2) NoE) (I (i + 1) acc st1)) NoE)
    (hd : ∀ acc st, I xs.length acc st → P (newL mu acc st).1 (newL mu acc st).2) : XR (xLc mu src tg tt te vs ρ st) P E := by
  unfold xLc xBind
  rw [hs]
  have h := lcgo_vals (tg := tg) (tt := tt) (te := te) (ρ := wipeD ρ vs) (P := fun a s => P (newL mu a s).1 (newL mu a s).2) I hl hb hd xs.length 0 [] st1 (by omega) h0
  show XR (match lcGo (.vals xs) tg tt te (wipeD ρ vs) (xs.length + 1) 0 [] st1 with
    | some (acc, st') => .ok (newL mu acc.reverse st')
    | none => .bad) P E
  cases e : lcGo (.vals xs) tg tt te (wipeD ρ vs) (xs.length + 1) 0 [] st1 with
  | none => rw [e] at h; exact h.elim
  | some p =>
    rw [e] at h
    exact h
/-- each element made without touching the store -/
theorem xr_lcM {mu : Bool} {src : XM Src} {tg : TM} {te : XM DV} {vs : List Nat} {ρ : Ev} {st : Store} {xs : List DV} {P : DV → Store → Prop} (hs : src ρ st = .ok (.vals xs, st)) (hl : xs.length ≤ sizeLine) (g : Nat → DV → DV)
    (hb : ∀ i d, xs[i]? = some d → TQ (tg d (wipeD ρ vs)) fun ρ1 => XR (te ρ1 st) (fun y st2 => y = g i d ∧ st2 = st) NoE)
    (hd : P (newL mu (xs.mapIdx g) st).1 (newL mu (xs.mapIdx g) st).2) : XR (xLc mu src tg (xPure true) te vs ρ st) P E := by
  refine xr_lcV hs hl (fun i acc s => acc = (xs.take i).mapIdx g ∧ s = st) ⟨by simp, rfl⟩ (fun i d acc s hd' hI => ?_) fun acc s hI => ?_
  · obtain ⟨rfl, rfl⟩ := hI
    have h := hb i d hd'
    cases e : tg d (wipeD ρ vs) with
    | none => rw [e] at h; exact h
    | some ρ1 =>
      rw [e] at h
      simp only [TQ] at h ⊢
      rw [xr_pure, ifQ_t]
      refine XR.mono h fun y st2 hy => ⟨?_, hy.2⟩
      have hi : i < xs.length := (List.getElem?_eq_some_iff.1 hd').1
      have hx : xs[i] = d := (List.getElem?_eq_some_iff.1 hd').2
      rw [List.take_succ, hd', Option.toList_some, List.mapIdx_append]
      simp [hy.1, Nat.min_eq_left (Nat.le_of_lt hi)]
  · obtain ⟨rfl, rfl⟩ := hI
    simpa using hd
end
end Mi

set_option maxHeartbeats 4000000
namespace Mi
open PySem PySem.Spec PyProof.Rows L2

/-! ### operators on constructors -/
section
variable {Q : DV → Store → Prop} {st : Store} {i j : Int} {mu : Bool}
theorem oq_or {a b : V2} {x y : DV} {d : DV} {s : Store} (h : a x y st = some (d, s)) : (a.or b) x y st = some (d, s) := by
  unfold V2.or
  rw [h]
theorem oq_or' {a b : V2} {x y : DV} (h : a x y st = none) : (a.or b) x y st = b x y st := by
  unfold V2.or
  rw [h]
@[simp] theorem oq_add : OQ (oAdd mu (.int i) (.int j) st) Q = Q (.int (i + j)) st := (rfl)
@[simp] theorem oq_sub : OQ (oSub (.int i) (.int j) st) Q = Q (.int (i - j)) st := (rfl)
@[simp] theorem oq_mul : OQ (oMul mu (.int i) (.int j) st) Q = (cMulB i j = true ∧ Q (.int (i * j)) st) := by
  unfold oMul V2.or oI
  by_cases h : cMulB i j = true
  · simp [OQ, h]
  · simp [OQ, h, oRep, hlst]
@[simp] theorem oq_fdiv : OQ (oFdiv (.int i) (.int j) st) Q = (cDivB i j = true ∧ Q (.int (i.fdiv j)) st) := by
  unfold oFdiv oI
  by_cases h : cDivB i j = true <;> simp [OQ, h]
@[simp] theorem oq_mod : OQ (oMod (.int i) (.int j) st) Q = (j ≠ 0 ∧ Q (.int (i.fmod j)) st) := by
  unfold oMod oI
  by_cases h : j = 0 <;> simp [OQ, h]
theorem oq_lt : OQ (oI (fun _ _ => true) (fun i j => .bl (decide (i < j))) (.int i) (.int j) st) Q = Q (.bl (decide (i < j))) st := rfl
@[simp] theorem oq_i {g : Int → Int → DV} : OQ (oI (fun _ _ => true) g (.int i) (.int j) st) Q = Q (g i j) st := (rfl)
theorem eq_int : oEq (.int i) (.int j) st = some (.bl (decide (i = j)), st) := by
  by_cases h : i = j
  · subst h; simp [oEq, toPD, cmpP, plainTo, PyData.plain, PyData.depth, PyData.eqv]
  · simp [oEq, toPD, cmpP, plainTo, PyData.plain, PyData.depth, PyData.eqv, h]
@[simp] theorem oq_eqI : OQ (oEq (.int i) (.int j) st) Q = Q (.bl (decide (i = j))) st := by
  rw [eq_int]
  rfl
@[simp] theorem oq_neI : OQ (oNe (.int i) (.int j) st) Q = Q (.bl (!decide (i = j))) st := by
  by_cases h : i = j
  · subst h; simp [OQ, oNe, toPD, cmpP, plainTo, PyData.plain, PyData.depth, PyData.eqv, isDct]
  · simp [OQ, oNe, toPD, cmpP, plainTo, PyData.plain, PyData.depth, PyData.eqv, isDct, h, beq_false_of_ne h]
@[simp] theorem oq_eqS {a b : Str} : OQ (oEq (.str a) (.str b) st) Q = Q (.bl (decide (a = b))) st := by
  by_cases h : a = b
  · subst h; simp [OQ, oEq, toPD, cmpP, plainTo, PyData.plain, PyData.depth, PyData.eqv]
  · simp [OQ, oEq, toPD, cmpP, plainTo, PyData.plain, PyData.depth, PyData.eqv, h, beq_false_of_ne h]
@[simp] theorem oq_neS {a b : Str} : OQ (oNe (.str a) (.str b) st) Q = Q (.bl (!decide (a = b))) st := by
  by_cases h : a = b
  · subst h; simp [OQ, oNe, toPD, cmpP, plainTo, PyData.plain, PyData.depth, PyData.eqv, isDct]
  · simp [OQ, oNe, toPD, cmpP, plainTo, PyData.plain, PyData.depth, PyData.eqv, isDct, h, beq_false_of_ne h]
@[simp] theorem oq_ixL {xs : List DV} : OQ (oIx (.lst xs) (.int i) st) Q = CQ (atI xs i) fun d => Q d st := by
  have e1 : oIxSeq (.lst xs) (.int i) st = (match atI xs i with
    | some d => some (d, st)
    | none => none) := rfl
  unfold oIx V2.or
  rw [e1]
  cases h : atI xs i <;> rfl
@[simp] theorem oq_ixT {xs : List DV} : OQ (oIx (.tup xs) (.int i) st) Q = CQ (atI xs i) fun d => Q d st := by
  have e1 : oIxSeq (.tup xs) (.int i) st = (match atI xs i with
    | some d => some (d, st)
    | none => none) := rfl
  unfold oIx V2.or
  rw [e1]
  cases h : atI xs i <;> rfl
@[simp] theorem oq_ixZ {xs : List DV} : OQ (oIx (.scr xs) (.int i) st) Q = CQ (atI xs i) fun d => Q d st := by
  have e1 : oIxSeq (.scr xs) (.int i) st = (match atI xs i with
    | some d => some (d, st)
    | none => none) := rfl
  unfold oIx V2.or
  rw [e1]
  cases h : atI xs i <;> rfl
@[simp] theorem oq_ixD {kvs : List (Key × DV)} {k : Str} : OQ (oIx (.dct kvs) (.str k) st) Q = CQ (valD (.inr k) kvs) fun d => Q d st := by
  have e1 : oIxSeq (.dct kvs) (.str k) st = none := rfl
  have e2 : oIxStr (.dct kvs) (.str k) st = none := rfl
  have e3 : oIxDct (.dct kvs) (.str k) st = (match valD (.inr k) kvs with
    | some d => some (d, st)
    | none => none) := rfl
  unfold oIx V2.or
  rw [e1, e2, e3]
  cases h : valD (.inr k) kvs <;> rfl
@[simp] theorem oq_lenL {xs : List DV} : OQ (bLen [.lst xs] st) Q = Q (.int xs.length) st := (rfl)
@[simp] theorem oq_lenT {xs : List DV} : OQ (bLen [.tup xs] st) Q = Q (.int xs.length) st := (rfl)
@[simp] theorem oq_lenZ {xs : List DV} : OQ (bLen [.scr xs] st) Q = Q (.int xs.length) st := (rfl)
@[simp] theorem oq_int : OQ (bInt [.int i] st) Q = Q (.int i) st := (rfl)
@[simp] theorem oq_intB {k : Bool} : OQ (bInt [.bl k] st) Q = Q (.int (if k then 1 else 0)) st := (rfl)
@[simp] theorem oq_abs : OQ (bAbs [.int i] st) Q = Q (.int (if i < 0 then -i else i)) st := (rfl)
@[simp] theorem oq_min : OQ (bMin [.int i, .int j] st) Q = Q (.int (if j < i then j else i)) st := (rfl)
@[simp] theorem oq_max : OQ (bMax [.int i, .int j] st) Q = Q (.int (if j > i then j else i)) st := (rfl)
@[simp] theorem oq_list {xs : List DV} : OQ (bList mu [.lst xs] st) Q = Q (newL mu xs st).1 (newL mu xs st).2 := (rfl)
@[simp] theorem newL_f {xs : List DV} : newL false xs st = (.lst xs, st) := (rfl)
@[simp] theorem newL_t {xs : List DV} : newL true xs st = (.ref st.length, st ++ [.lst xs]) := (rfl)
@[simp] theorem newD_f {xs : List (Key × DV)} : newD false xs st = (.dct xs, st) := (rfl)
@[simp] theorem newD_t {xs : List (Key × DV)} : newD true xs st = (.ref st.length, st ++ [.dct xs]) := (rfl)
theorem bols_map : ∀ bs : List Bool, bolsOf (bs.map .bl) = some bs
  | [] => rfl
  | b :: r => by
    have ih := bols_map r
    unfold bolsOf at ih ⊢
    simp only [List.map_cons, mapO, ih]
theorem oq_all {bs : List Bool} : OQ (bAll [.lst (bs.map .bl)] st) Q = Q (.bl (bs.all id)) st := by
  show OQ (match bolsOf (bs.map .bl) with
    | some ns => some (.bl (ns.all id), st)
    | none => none) Q = _
  rw [bols_map]
  rfl
@[simp] theorem oq_is {x : DV} {neg : Bool} : OQ (oIs neg x .non st) Q = Q (.bl (if neg then !isNon x else isNon x)) st := (rfl)
@[simp] theorem oq_cat {xs ys : List DV} : OQ (oAdd mu (.lst xs) (.lst ys) st) Q = (xs.length + ys.length ≤ sizeLine ∧ Q (newL mu (xs ++ ys) st).1 (newL mu (xs ++ ys) st).2) := by
  show OQ (match oCat mu (.lst xs) (.lst ys) st with
    | some r => some r
    | none => none) Q = _
  unfold oCat hlst
  by_cases h : xs.length + ys.length ≤ sizeLine <;> simp [OQ, h]
@[simp] theorem oq_rep {xs : List DV} : OQ (oMul mu (.lst xs) (.int j) st) Q = ((-(2 ^ 63) ≤ j ∧ j < 2 ^ 63 ∧ xs.length * j.toNat ≤ sizeLine) ∧ Q (newL mu (List.replicate j.toNat xs).flatten st).1 (newL mu (List.replicate j.toNat xs).flatten st).2) := by
  show OQ (oRep mu (.lst xs) (.int j) st) Q = _
  unfold oRep hlst
  by_cases h : -(2 ^ 63) ≤ j ∧ j < 2 ^ 63 ∧ xs.length * j.toNat ≤ sizeLine
  · simp only [if_pos h, OQ]
    exact propext ⟨fun z => ⟨h, z⟩, fun z => z.2⟩
  · simp only [if_neg h, OQ]
    exact propext ⟨fun z => z.elim, fun z => h z.1⟩
theorem cmul_l (h : -(2 ^ 64) < i ∧ i < 2 ^ 64) : cMulB i j = true := by
  unfold cMulB
  rw [decide_eq_true h]
  rfl
theorem cmul_r (h : -(2 ^ 64) < j ∧ j < 2 ^ 64) : cMulB i j = true := by
  unfold cMulB
  rw [decide_eq_true h, Bool.or_true]
theorem cdiv_ok (h : j ≠ 0 ∧ j.natAbs < 1073741824) : cDivB i j = true := decide_eq_true h
end
/-! ### what a loop runs over -/
def srcQ (d : DV) (st : Store) (Q : Src → Prop) : Prop := match d with
  | .tup xs => Q (.vals xs)
  | .lst xs => Q (.vals xs)
  | .scr xs => Q (.vals xs)
  | .ref n => (match st[n]? with
    | some (.lst _) => Q (.cell n)
    | _ => False)
  | _ => False
section
variable {ρ : Ev} {st : Store} {E : EQ} {S : Src → Store → Prop}
@[simp] theorem srcq_lst {xs : List DV} {Q : Src → Prop} : srcQ (.lst xs) st Q = Q (.vals xs) := (rfl)
@[simp] theorem srcq_tup {xs : List DV} {Q : Src → Prop} : srcQ (.tup xs) st Q = Q (.vals xs) := (rfl)
@[simp] theorem srcq_scr {xs : List DV} {Q : Src → Prop} : srcQ (.scr xs) st Q = Q (.vals xs) := (rfl)
@[simp] theorem xr_iter {m : XM DV} : XR (xIter m ρ st) S E = XR (m ρ st) (fun d st1 => srcQ d st1 fun s => S s st1) E := by
  unfold xIter
  rw [xr_bind]
  congr 1
  funext d st1
  cases d with
  | ref n =>
    simp only [srcQ]
    cases h : st1[n]? with
    | none => rfl
    | some c => cases c <;> rfl
  | _ => rfl
@[simp] theorem xr_rg1 {m : XM (List DV)} : XR (xRange m ρ st) S E = XR (m ρ st) (fun ds st1 => match ds with
    | [.int j] => rgOk j = true ∧ S (.vals ((List.range j.toNat).map fun i => .int (0 + (i : Nat)))) st1
    | [.int i, .int j] => (rgOk i && rgOk j) = true ∧ S (.vals ((List.range (j - i).toNat).map fun k => .int (i + (k : Nat)))) st1
    | _ => False) E := by
  unfold xRange
  rw [xr_bind]
  congr 1
  funext ds st1
  split
  · rename_i j
    by_cases h : rgOk j = true <;> simp [XR, xPure, xBad, h]
  · rename_i i j
    by_cases h : (rgOk i && rgOk j) = true
    · rw [if_pos h]; simp only [XR, xPure, h, true_and]
    · rw [if_neg h]; simp only [XR, xBad, h, false_and]; simp
  · rename_i h1 h2
    first
    | rfl
    | (split
       · exact absurd rfl (h1 _)
       · exact absurd rfl (h2 _ _)
       · rfl)
@[simp] theorem xr_rg3 {m : XM (List DV)} : XR (xRange3 m ρ st) S E = XR (m ρ st) (fun ds st1 => CQ (rg3 ds) fun xs => S (.vals xs) st1) E := by
  unfold xRange3
  rw [xr_bind]
  congr 1
  funext ds st1
  cases rg3 ds <;> rfl
@[simp] theorem sr_for {src : XM Src} {tg : TM} {body : SM} {Q : Fl → Ev → Store → Prop} : SR (sFor src tg body ρ st) Q E = XR (src ρ st) (fun s st1 => SR (sLoop s tg body (srcLen s st1 + 1) 0 ρ st1) Q E) E := by
  unfold sFor
  rw [sr_bind]
@[simp] theorem xr_lc {mu : Bool} {src : XM Src} {tg : TM} {tt : XM Bool} {te : XM DV} {vs : List Nat} {Q : DV → Store → Prop} : XR (xLc mu src tg tt te vs ρ st) Q E = XR (src ρ st) (fun s st1 => OQ (lcGo s tg tt te (wipeD ρ vs) (srcLen s st1 + 1) 0 [] st1) fun acc st' => Q (newL mu acc.reverse st').1 (newL mu acc.reverse st').2) E := by
  unfold xLc
  rw [xr_bind]
  congr 1
  funext s st1
  cases lcGo s tg tt te (wipeD ρ vs) (srcLen s st1 + 1) 0 [] st1 <;> rfl
end
end Mi

set_option maxHeartbeats 4000000
namespace Mi
open PySem PySem.Spec PyProof.Rows L2
def rOk (i : Int) : Prop := -(2 ^ 62) ≤ i ∧ i < 2 ^ 62
theorem rgOk_iff {i : Int} : (rgOk i = true) = rOk i := by
  unfold rgOk rOk
  simp
theorem atI_map {α : Type} {f : α → DV} {L : List α} {i : Int} {z : α} (h : 0 ≤ i) (h1 : i < L.length) : atI (L.map f) i = some (f (L.getD i.toNat z)) := by
  unfold atI ixN
  rw [if_pos h, if_pos (by simpa using h1)]
  have h2 : i.toNat < L.length := by omega
  simp [h2]
theorem atI_neg {α : Type} {f : α → DV} {L : List α} {i : Int} {z : α} (h : i < 0) (h1 : -(L.length : Int) ≤ i) : atI (L.map f) i = some (f (L.getD (i + L.length).toNat z)) := by
  unfold atI ixN
  rw [if_neg (by omega), if_pos (by simpa using h1)]
  have h2 : (i + L.length).toNat < L.length := by omega
  simp [h2]
/-! ### the laws' own draws -/
def cMix : SM :=
  (sSeq (sAsg (xPure (.int (0))) (tmName 3))
  (sSeq (sIf (xAsB (x2 (xN (xCons (xVar 0) xNil) bLen) (xPure (.int (0))) (oI (fun _ _ => true) fun i j => .bl (decide (j < i)))))
    (sSeq (sAsg (x2 (xVar 0) (x2 (xN (xCons (xVar 1) xNil) bInt) (xN (xCons (xVar 0) xNil) bLen) oMod) oIx) (tmName 3))
    sNx)
    sNx)
  (sSeq (sIf (xAsB (x2 (xVar 1) (xN (xCons (xVar 0) xNil) bLen) (oI (fun _ _ => true) fun i j => .bl (decide (i < j)))))
    (sSeq (sRet (x2 (xN (xCons (xVar 3) xNil) bInt) (xVar 2) oMod))
    sNx)
    sNx)
  (sSeq (sRet (x2 (xN (xCons (x2 (xN (xCons (x2 (x2 (xVar 3) (xPure (.int (7919))) (oMul false)) (x2 (xVar 1) (xPure (.int (104729))) (oMul false)) (oAdd false)) xNil) bInt) (xPure (.int (3))) oFdiv) xNil) bInt) (xVar 2) oMod))
  sNx))))
def cellI (L : List Int) (k : Int) : Int := if L = [] then 0 else L.getD (k.fmod L.length).toNat 0
def mixI (L : List Int) (k m : Int) : Int := if k < L.length then (cellI L k).fmod m else ((cellI L k * 7919 + k * 104729).fdiv 3).fmod m
theorem mix_code {L : List Int} {k m : Int} {st : Store} {Q : DV → Store → Prop} {E : EQ} (hm : m ≠ 0) (h : Q (.int (mixI L k m)) st) : SR (cMix [some (.lst (L.map .int)), some (.int k), some (.int m), none] st) (RQ Q) E := by
  have c1 : ∀ i, cMulB i 7919 = true := fun i => cmul_r ⟨by decide, by decide⟩
  have c2 : ∀ i, cMulB i 104729 = true := fun i => cmul_r ⟨by decide, by decide⟩
  have c3 : ∀ i, cDivB i 3 = true := fun i => cdiv_ok ⟨by decide, by decide⟩
  have key : ∀ c, c = cellI L k → (k < L.length → Q (.int (c.fmod m)) st) ∧ (¬ k < L.length → Q (.int (((c * 7919 + k * 104729).fdiv 3).fmod m)) st) := by
    intro c hc
    subst hc
    unfold mixI at h
    constructor
    · intro z; rwa [if_pos z] at h
    · intro z; rwa [if_neg z] at h
  unfold cMix
  by_cases hL : L = []
  · subst hL
    have hk := key 0 rfl
    simp [c1, c2, c3, hm, ifQ] at hk ⊢
    exact ⟨hk.1, hk.2⟩
  · have hp : 0 < L.length := List.length_pos_iff.2 hL
    have hf := Int.fmod_nonneg_of_pos k (b := (L.length : Int)) (by omega)
    have hf' := Int.fmod_lt_of_pos k (b := (L.length : Int)) (by omega)
    have hat := atI_map (f := DV.int) (L := L) (z := 0) hf hf'
    have hk := key (L.getD (k.fmod L.length).toNat 0) (by unfold cellI; rw [if_neg hL])
    have hz : ¬ ((L.length : Int) = 0) := by omega
    simp [c1, c2, c3, hm, ifQ, hat, hp, hL, hz] at hk ⊢
    exact ⟨hk.1, hk.2⟩
theorem mixI_nn (L : List Int) (k : Int) {m : Int} (h : 0 < m) : 0 ≤ mixI L k m := by
  unfold mixI
  split <;> exact Int.fmod_nonneg_of_pos _ h
theorem mixI_lt (L : List Int) (k : Int) {m : Int} (h : 0 < m) : mixI L k m < m := by
  unfold mixI
  split <;> exact Int.fmod_lt_of_pos _ h
end Mi

set_option maxHeartbeats 4000000
namespace Mi
open PySem PySem.Spec PyProof.Rows L2
/-! ### a list that grows -/
def lstQ (d : DV) (st : Store) : Prop := match d with
  | .ref n => (match st[n]? with
    | some (.lst _) => True
    | _ => False)
  | _ => False
def apQ (d : DV) (ds : List DV) (st : Store) (Q : DV → Store → Prop) : Prop := match d, ds with
  | .ref n, [y] => (match st[n]? with
    | some (.lst xs) => xs.length < sizeLine ∧ Q .non (st.set n (.lst (xs ++ [y])))
    | _ => False)
  | _, _ => False
section
variable {ρ : Ev} {st : Store} {E : EQ} {Q : DV → Store → Prop}
theorem xr_app {mt : Str → Option Df} {o : XM DV} {a : XM (List DV)} (h : XR (o ρ st) (fun d st1 => lstQ d st1 ∧ XR (a ρ st1) (fun ds st2 => apQ d ds st2 Q) E) E) : XR (xAny mt "append" o a ρ st) Q E := by
  rw [xr_any]
  refine XR.mono h fun d st1 hd => ?_
  obtain ⟨h1, h2⟩ := hd
  cases d with
  | ref n =>
    simp only [lstQ] at h1
    cases e : st1[n]? with
    | none => rw [e] at h1; exact h1.elim
    | some c =>
      cases c with
      | lst xs =>
        have e1 : insOf (.ref n) st1 = none := by simp [insOf, e]
        have e2 : kindOf (.ref n) st1 = "list" := by simp [kindOf, rlst, hlst, e]
        have e3 : bMeth "list" (("append" : Str)) = some mAppend := by rfl
        rw [e1]
        simp only [e2, e3, cq_some]
        refine XR.mono h2 fun ds st2 h3 => ?_
        match ds with
        | [] => exact h3.elim
        | [y] =>
          simp only [apQ] at h3
          cases e4 : st2[n]? with
          | none => rw [e4] at h3; exact h3.elim
          | some c =>
            cases c with
            | lst xs => rw [e4] at h3; simp [mAppend, mlst, e4, h3.1, h3.2]
            | _ => rw [e4] at h3; exact h3.elim
        | _ :: _ :: _ => exact h3.elim
      | _ => rw [e] at h1; exact h1.elim
  | _ => exact h1.elim
@[simp] theorem lstq_end {xs : List DV} : lstQ (.ref st.length) (st ++ [.lst xs]) = True := by simp [lstQ]
@[simp] theorem apq_end {xs : List DV} {y : DV} : apQ (.ref st.length) [y] (st ++ [.lst xs]) Q = (xs.length < sizeLine ∧ Q .non (st ++ [.lst (xs ++ [y])])) := by simp [apQ]
theorem pow_10_18 : OQ (oPow (.int 10) (.int 18) st) Q = Q (.int 1000000000000000000) st := (rfl)
end
def cDraws (mt : Str → Option Df) : SM :=
  (sSeq (sAsg (xList true xNil) (tmName 1))
  (sSeq (sFor (xRange (xCons (xN (xCons (xPure (.int (63))) (xCons (xN (xCons (xVar 0) xNil) bLen) xNil)) bMin) xNil)) (tmName 2)
    (sSeq (sAsg (xN (xCons (x2 (xVar 0) (xVar 2) oIx) xNil) bAbs) (tmName 3))
    (sSeq (sIf (xAsB (x2 (xVar 3) (x2 (xPure (.int (10))) (xPure (.int (18))) oPow) (oI (fun _ _ => true) fun i j => .bl (decide (j ≤ i)))))
      (sSeq (sFor (xRange (xCons (xPure (.int (60))) xNil)) (tmName 4)
        (sSeq (sIf (xAsB (x2 (xVar 3) (xPure (.int (0))) (oI (fun _ _ => true) fun i j => .bl (decide (j < i)))))
          (sSeq (sDrop (xAny mt "append" (xVar 1) (xCons (x2 (xN (xCons (xVar 3) xNil) bInt) (xPure (.int (65536))) oMod) xNil)))
          (sSeq (sAsg (x2 (xVar 3) (xPure (.int (65536))) oFdiv) (tmName 3))
          sNx))
          sNx)
        sNx))
      sNx)
      (sSeq (sAsg (x2 (xN (xCons (x2 (x2 (xVar 3) (xPure (.int (48271))) (oMul false)) (x2 (x2 (xVar 2) (xPure (.int (1))) (oAdd false)) (xPure (.int (69621))) (oMul false)) (oAdd false)) xNil) bInt) (xPure (.int (2147483647))) oMod) (tmName 5))
      (sSeq (sAsg (x2 (xN (xCons (x2 (x2 (x2 (xVar 5) (xPure (.int (16807))) (oMul false)) (x2 (xPure (.int (11))) (xVar 2) (oMul false)) (oAdd false)) (xPure (.int (5))) (oAdd false)) xNil) bInt) (xPure (.int (2147483629))) oMod) (tmName 5))
      (sSeq (sDrop (xAny mt "append" (xVar 1) (xCons (x2 (xN (xCons (xVar 5) xNil) bInt) (xPure (.int (65536))) oMod) xNil)))
      (sSeq (sDrop (xAny mt "append" (xVar 1) (xCons (x2 (xN (xCons (x2 (xVar 5) (xPure (.int (65536))) oFdiv) xNil) bInt) (xPure (.int (32768))) oMod) xNil)))
      sNx)))))
    sNx)))
  (sSeq (sRet (xFrz 1))
  sNx)))
def Words (L : List Int) : Prop := ∀ x ∈ L, 0 ≤ x ∧ x < 65536
theorem Words.add {L : List Int} (h : Words L) {x : Int} (h1 : 0 ≤ x ∧ x < 65536) : Words (L ++ [x]) := by
  intro y hy
  rcases List.mem_append.1 hy with z | z
  · exact h y z
  · rw [List.mem_singleton.1 z]; exact h1
def DrI (ns : List DV) (st : Store) (n : Nat) (x2 : Option DV) (ρ : Ev) (s : Store) : Prop := ∃ (L : List Int) (a b c : Option DV), ρ = [some (.scr ns), some (.ref st.length), x2, a, b, c] ∧ s = st ++ [.lst (L.map .int)] ∧ L.length ≤ n ∧ Words L
def DrJ (ns : List DV) (st : Store) (n : Nat) (w2 : Option DV) (ρ : Ev) (s : Store) : Prop := ∃ (L : List Int) (R : Int) (b c : Option DV), ρ = [some (.scr ns), some (.ref st.length), w2, some (.int R), b, c] ∧ s = st ++ [.lst (L.map .int)] ∧ L.length ≤ n ∧ Words L
theorem draws_code {mt : Str → Option Df} {ns : List Int} {st : Store} {E : EQ} (hl : ns.length ≤ 63) : SR (cDraws mt [some (.scr (ns.map .int)), none, none, none, none, none] st) (RQ fun d s => ∃ L : List Int, d = .lst (L.map .int) ∧ L.length ≤ 3780 ∧ Words L ∧ s = st ++ [.dead]) E := by
  have hs : sizeLine = 16777216 := rfl
  have r60 : rOk 60 := ⟨by decide, by decide⟩
  unfold cDraws
  have hmin : (if (ns.length : Int) < 63 then (ns.length : Int) else 63) = ns.length := by split <;> omega
  have hr : rOk (ns.length : Int) := ⟨by omega, by omega⟩
  simp [rgOk_iff, hmin, hr]
  refine loop_vals (fun i ρ s => ∃ x2, DrI (ns.map .int) st (60 * i) x2 ρ s) (fun i d ρ s hd hI => ?_) (fun ρ s hI => ?_) _ 0 _ _ (by simp [srcLen]) ⟨none, [], none, none, none, rfl, rfl, by simp, fun x h => nomatch h⟩
  · obtain ⟨w2, L, a, b, c, rfl, rfl, h1, h2⟩ := hI
    have hi : i < ns.length := by
      have := (List.getElem?_eq_some_iff.1 hd).1
      simpa using this
    have hd' : d = .int (i : Nat) := by
      simp [hi] at hd
      exact hd.symm
    subst hd'
    have hat := atI_map (f := DV.int) (L := ns) (z := 0) (i := (i : Int)) (by omega) (by omega)
    have d1 : ∀ x y : Int, cDivB x 65536 = true := fun x _ => cdiv_ok ⟨by decide, by decide⟩
    have w1 : ∀ x : Int, 0 ≤ x.fmod 65536 ∧ x.fmod 65536 < 65536 := fun x => ⟨Int.fmod_nonneg_of_pos _ (by decide), Int.fmod_lt_of_pos _ (by decide)⟩
    have w2' : ∀ x : Int, 0 ≤ x.fmod 32768 ∧ x.fmod 32768 < 65536 := fun x => ⟨Int.fmod_nonneg_of_pos _ (by decide), Int.lt_trans (Int.fmod_lt_of_pos _ (by decide)) (by decide)⟩
    have m1 : ∀ x, cMulB x 48271 = true := fun x => cmul_r ⟨by decide, by decide⟩
    have m2 : ∀ x, cMulB x 69621 = true := fun x => cmul_r ⟨by decide, by decide⟩
    have m3 : ∀ x, cMulB x 16807 = true := fun x => cmul_r ⟨by decide, by decide⟩
    have m4 : ∀ x, cMulB 11 x = true := fun x => cmul_l ⟨by decide, by decide⟩
    have d2 : ∀ x : Int, cDivB x 65536 = true := fun x => d1 x 0
    have hb : 60 * i ≤ 3720 := by omega
    simp [hat, pow_10_18, rgOk_iff, r60]
    generalize (if ns[i]?.getD 0 < 0 then -ns[i]?.getD 0 else ns[i]?.getD 0) = R
    refine ⟨fun _ => ?_, fun _ => ?_⟩
    · refine loop_vals (fun j ρ s => DrJ (ns.map .int) st (60 * i + j) (some (.int (i : Int))) ρ s) (fun j d ρ s hd hI => ?_) (fun ρ s hI => ?_) _ 0 _ _ (by simp [srcLen]) ⟨L, R, b, c, rfl, rfl, by simpa using h1, h2⟩
      · have hj : j < 60 := by
          have := (List.getElem?_eq_some_iff.1 hd).1
          simpa using this
        obtain ⟨L, R, b, c, rfl, rfl, h1, h2⟩ := hI
        simp
        refine ⟨fun _ => ?_, fun _ => ?_⟩
        · refine xr_app ?_
          simp [d2]
          have e := h2.add (w1 R)
          refine ⟨by omega, L ++ [R.fmod 65536], _, _, _, rfl, by simp, by simp; omega, e⟩
        · exact ⟨L, R, _, _, rfl, rfl, by omega, h2⟩
      · obtain ⟨L, R, b, c, rfl, rfl, h1, h2⟩ := hI
        have h3 : L.length ≤ 60 * i + 60 := by simpa using h1
        simp
        exact ⟨_, L, _, _, _, rfl, rfl, by omega, h2⟩
    · simp [m1, m2, m3, m4]
      refine xr_app ?_
      simp
      refine ⟨by omega, xr_app ?_⟩
      simp [d2]
      have e1 := h2.add (w1 (((R * 48271 + ((i : Int) + 1) * 69621).fmod 2147483647 * 16807 + 11 * (i : Int) + 5).fmod 2147483629))
      have e2 := e1.add (w2' ((((R * 48271 + ((i : Int) + 1) * 69621).fmod 2147483647 * 16807 + 11 * (i : Int) + 5).fmod 2147483629).fdiv 65536))
      refine ⟨by omega, _, _, _, _, _, rfl, ?_, ?_, e2⟩
      · simp
      · simp; omega
  · obtain ⟨w2, L, a, b, c, rfl, rfl, h1, h2⟩ := hI
    simp
    exact ⟨L, rfl, by simpa using Nat.le_trans h1 (by simp; omega), h2⟩
end Mi

set_option maxHeartbeats 4000000
namespace Mi
open PySem PySem.Spec PyProof.Rows L2
/-! ### a def's run by its code -/
def Runs (run : Run) (n : Nat) (code : SM) : Prop := ∀ (ds : List DV) (st : Store) (Q : DV → Store → Prop) (F : RE), SR (code (ds.map some ++ List.replicate (n - ds.length) none) st) (RQ Q) (fun c v _ s => F c v s) → RR (run ds st) Q F
theorem runs_of {fu n : Nat} {C : Mi.Ctx} {body : List Stmt} {code : SM} {run : Run} (hr : run = runOf fu C body) (hn : C.N.length = n) (hc : (sem fu).B C body = code) : Runs run n code := by
  intro ds st Q F h
  rw [hr]
  subst hn
  exact rr_run hc h
theorem rr_eq {r : Res (DV × Store)} {d : DV} {s : Store} (h : RR r (fun d' s' => d' = d ∧ s' = s) fun _ _ _ => False) : r = .ok (d, s) := by
  cases r with
  | ok p =>
    obtain ⟨h1, h2⟩ := h
    cases p
    exact congrArg Res.ok (Prod.ext h1 h2)
  | exc c v ρ st => exact h.elim
  | bad => exact h.elim
theorem mix_run {run : Run} (h : Runs run 4 cMix) {L : List Int} {k m : Int} {st : Store} (hm : m ≠ 0) : run [.lst (L.map .int), .int k, .int m] st = .ok (.int (mixI L k m), st) :=
  rr_eq (h _ st _ _ (mix_code hm ⟨rfl, rfl⟩))
theorem draws_run {run : Run} {mt : Str → Option Df} (h : Runs run 6 (cDraws mt)) {ns : List Int} {st : Store} (hl : ns.length ≤ 63) : ∃ L : List Int, run [.scr (ns.map .int)] st = .ok (.lst (L.map .int), st ++ [.dead]) ∧ L.length ≤ 3780 ∧ Words L := by
  have h1 := h [.scr (ns.map .int)] st (fun d s => ∃ L : List Int, d = .lst (L.map .int) ∧ L.length ≤ 3780 ∧ Words L ∧ s = st ++ [.dead]) (fun _ _ _ => False) (draws_code hl)
  cases e : run [.scr (ns.map .int)] st with
  | ok p =>
    rw [e] at h1
    obtain ⟨L, h2, h3, h4, h5⟩ := h1
    cases p
    simp only at h2 h5
    subst h2
    subst h5
    exact ⟨L, rfl, h3, h4⟩
  | exc c v ρ s => rw [e] at h1; exact h1.elim
  | bad => rw [e] at h1; exact h1.elim
section
variable {ρ : Ev} {st : Store} {E : EQ}
@[simp] theorem xr_log {o : Bool} {a b : XM DV} {Q : DV → Store → Prop} : XR (xLog o a b ρ st) Q E = XR (a ρ st) (fun d st1 => CQ (truD d st1) fun k => ifQ (k == o) (Q d st1) (XR (b ρ st1) Q E)) E := by
  unfold xLog
  rw [xr_bind]
  congr 1
  funext d st1
  cases h : truD d st1 with
  | none => rfl
  | some k => cases k <;> cases o <;> simp [XR, CQ, ifQ]
@[simp] theorem tru_bl {b : Bool} {s : Store} : truD (.bl b) s = some b := (rfl)
@[simp] theorem tru_non {s : Store} : truD .non s = some false := (rfl)
@[simp] theorem tru_int {i : Int} {s : Store} : truD (.int i) s = some (i != 0) := (rfl)
@[simp] theorem insq_end {c : Str} {fs : List (Str × DV)} {Q : Str → List (Str × DV) → Prop} : insQ (.ref st.length) (st ++ [.ins c fs]) Q = Q c fs := by simp [insQ, insOf]
theorem insq_at {n : Nat} {c : Str} {fs : List (Str × DV)} {Q : Str → List (Str × DV) → Prop} (h : st[n]? = some (.ins c fs)) : insQ (.ref n) st Q = Q c fs := by simp [insQ, insOf, h]
@[simp] theorem insat_end {c : Str} {fs : List (Str × DV)} : insAt (.ref st.length) (st ++ [.ins c fs]) = some (st.length, c, fs) := by simp [insAt]
@[simp] theorem set_end {a b : Cell} : (st ++ [a]).set st.length b = st ++ [b] := by simp
/-- a method of an own class -/
theorem xr_meth {mt : Str → Option Df} {m c : Str} {o : XM DV} {a : XM (List DV)} {Q : DV → Store → Prop} {df : Df} (hm : mt c = some df) (h : XR (o ρ st) (fun d st1 => insQ d st1 fun c' fs => c' = c ∧ fs.lookup m = none ∧ XR (a ρ st1) (fun ds st2 => ds.length + 1 = df.n ∧ RR (df.run (d :: ds) st2) Q fun c v s => E c v ρ s) E) E) : XR (xAny mt m o a ρ st) Q E := by
  rw [xr_any]
  refine XR.mono h fun d st1 hd => ?_
  unfold insQ at hd
  cases e : insOf d st1 with
  | none => rw [e] at hd; exact hd.elim
  | some p =>
    obtain ⟨c', fs⟩ := p
    rw [e] at hd
    obtain ⟨rfl, h1, h2⟩ := hd
    simp only [h1, hm, true_and, cq_some]
    exact h2
end
end Mi

set_option maxHeartbeats 4000000
namespace Mi
open PySem PySem.Spec PyProof.Rows L2
/-! ### comprehensions that leave the store alone -/
section
variable {tg : TM} {tt : XM Bool} {te : XM DV} {ρ : Ev} {st : Store} {P : List DV → Store → Prop}
theorem take_fm {g : DV → Option DV} {xs : List DV} {i : Nat} {d : DV} (h : xs[i]? = some d) : (xs.take (i + 1)).filterMap g = (xs.take i).filterMap g ++ (g d).toList := by
  rw [List.take_succ, h, Option.toList_some, List.filterMap_append]
  cases e : g d <;> simp [e]
theorem lcgo_fm {xs : List DV} {n : Nat} (g : DV → Option DV) (hn : n = xs.length + 1) (hl : xs.length ≤ sizeLine)
    (hb : ∀ d ∈ xs, TQ (tg d ρ) fun ρ1 => XR (tt ρ1 st) (fun k st1 => st1 = st ∧ ifQ k (XR (te ρ1 st) (fun y st2 => g d = some y ∧ st2 = st) NoE) (g d = none)) NoE)
    (h : P (xs.filterMap g).reverse st) : OQ (lcGo (.vals xs) tg tt te ρ n 0 [] st) P := by
  have h0 := lcgo_vals (xs := xs) (tg := tg) (tt := tt) (te := te) (ρ := ρ) (P := fun acc s => acc = xs.filterMap g ∧ s = st) (fun i acc s => acc = (xs.take i).filterMap g ∧ s = st) hl (fun i d acc s hd hI => ?_) (fun acc s hI => ?_) xs.length 0 [] st (by omega) ⟨by simp, rfl⟩
  · subst hn
    cases e : lcGo (.vals xs) tg tt te ρ (xs.length + 1) 0 [] st with
    | none => rw [e] at h0; exact h0.elim
    | some p =>
      rw [e] at h0
      obtain ⟨h1, h2⟩ := h0
      obtain ⟨a, s⟩ := p
      simp only at h1 h2
      subst h2
      have : a = (xs.filterMap g).reverse := by rw [← h1, List.reverse_reverse]
      subst this
      exact h
  · obtain ⟨rfl, rfl⟩ := hI
    have h1 := hb d (List.mem_of_getElem? hd)
    cases e : tg d ρ with
    | none => rw [e] at h1; exact h1
    | some ρ1 =>
      rw [e] at h1
      simp only [TQ] at h1 ⊢
      refine XR.mono h1 fun k st1 h2 => ?_
      obtain ⟨rfl, h3⟩ := h2
      refine ⟨fun hk => XR.mono (h3.1 hk) fun y st2 h4 => ?_, fun hk => ?_⟩
      · rw [take_fm hd, h4.1]
        exact ⟨rfl, h4.2⟩
      · rw [take_fm hd, h3.2 hk]
        exact ⟨by simp, rfl⟩
  · simpa using hI
theorem lcgo_map {xs : List DV} {n : Nat} (g : DV → DV) (hn : n = xs.length + 1) (hl : xs.length ≤ sizeLine)
    (hb : ∀ d ∈ xs, TQ (tg d ρ) fun ρ1 => XR (te ρ1 st) (fun y st2 => y = g d ∧ st2 = st) NoE)
    (h : P (xs.map g).reverse st) : OQ (lcGo (.vals xs) tg (xPure true) te ρ n 0 [] st) P := by
  refine lcgo_fm (fun d => some (g d)) hn hl (fun d hd => ?_) (by simpa using h)
  have h1 := hb d hd
  cases e : tg d ρ with
  | none => rw [e] at h1; exact h1
  | some ρ1 =>
    rw [e] at h1
    simp only [TQ, xr_pure, ifQ_t, true_and] at h1 ⊢
    exact XR.mono h1 fun y st2 h2 => ⟨by rw [h2.1], h2.2⟩
end
/-! ### numbered elements -/
def enumQ (ds : List DV) (st : Store) (Q : Src → Prop) : Prop := match ds with
  | [.lst xs] => Q (.vals (xs.mapIdx fun i x => .tup [.int i, x]))
  | [.scr xs] => Q (.vals (xs.mapIdx fun i x => .tup [.int i, x]))
  | [.tup xs] => Q (.vals (xs.mapIdx fun i x => .tup [.int i, x]))
  | [.ref n] => (match st[n]? with
    | some (.lst _) => Q (.ecell n)
    | _ => False)
  | _ => False
@[simp] theorem enumq_lst {xs : List DV} {st : Store} {Q : Src → Prop} : enumQ [.lst xs] st Q = Q (.vals (xs.mapIdx fun i x => .tup [.int i, x])) := (rfl)
@[simp] theorem enumq_tup {xs : List DV} {st : Store} {Q : Src → Prop} : enumQ [.tup xs] st Q = Q (.vals (xs.mapIdx fun i x => .tup [.int i, x])) := (rfl)
@[simp] theorem xr_enum {m : XM (List DV)} {ρ : Ev} {st : Store} {E : EQ} {S : Src → Store → Prop} : XR (xEnum m ρ st) S E = XR (m ρ st) (fun ds st1 => enumQ ds st1 fun s => S s st1) E := by
  unfold xEnum
  rw [xr_bind]
  congr 1
  funext ds st1
  match ds with
  | [] => rfl
  | [d] =>
    cases d with
    | ref n =>
      simp only [enumQ]
      cases h : st1[n]? with
      | none => rfl
      | some c => cases c <;> rfl
    | _ => rfl
  | d :: _ :: _ => cases d <;> rfl
@[simp] theorem tq_tup2 {i j : Nat} {x y : DV} {ρ : Ev} {Q : Ev → Prop} : TQ (tmTup 2 (tmCons (tmName i) (tmCons (tmName j) tmNil)) (.tup [x, y]) ρ) Q = Q ((ρ.set i (some x)).set j (some y)) := (rfl)
@[simp] theorem tq_tup3 {i j k : Nat} {x y z : DV} {ρ : Ev} {Q : Ev → Prop} : TQ (tmTup 3 (tmCons (tmName i) (tmCons (tmName j) (tmCons (tmName k) tmNil))) (.tup [x, y, z]) ρ) Q = Q (((ρ.set i (some x)).set j (some y)).set k (some z)) := (rfl)
/-! ### marks in a tuple -/
theorem oq_inS {a : Str} {ss : List Str} {neg : Bool} {st : Store} {Q : DV → Store → Prop} : OQ (oInP neg (.str a) (.tup (ss.map .str)) st) Q = Q (.bl (if neg then !decide (a ∈ ss) else decide (a ∈ ss))) st := by
  have e0 : ∀ n s, toPD (n + 1) st (.str s) = some (.str s) := fun n s => rfl
  have e : ∀ n, mapO (toPD (n + 1) st) (ss.map .str) = some (ss.map .str) := by
    intro n
    induction ss with
    | nil => rfl
    | cons s r ih => rw [List.map_cons, mapO, ih, e0]; rfl
  have e1 : toPD 40 st (.tup (ss.map .str)) = some (.tuple (ss.map .str)) := by
    show (mapO (toPD (38 + 1) st) (ss.map .str)).map PyData.tuple = _
    rw [e 38]
    rfl
  have e2 : toPD 40 st (.str a) = some (.str a) := e0 39 a
  have p1 : PyData.plainAll (ss.map .str) = true := by
    clear e e1
    induction ss with
    | nil => rfl
    | cons s r ih => simp only [List.map_cons, PyData.plainAll, PyData.plain, ih, Bool.and_self]
  have p2 : PyData.depthAll (ss.map .str) ≤ 50 := by
    clear e e1 p1
    suffices PyData.depthAll (ss.map .str) ≤ 1 by omega
    induction ss with
    | nil => simp [PyData.depthAll]
    | cons s r ih => simp only [List.map_cons, PyData.depthAll, PyData.depth]; omega
  have p3 : ((ss.map PyData.str).any fun y => PyData.eqv y (.str a)) = decide (a ∈ ss) := by
    clear e e1 p1 p2
    induction ss with
    | nil => simp
    | cons s r ih =>
      rw [List.map_cons, List.any_cons, ih]
      by_cases h : s = a
      · subst h; simp [PyData.eqv]
      · have h' : ¬ a = s := fun z => h z.symm
        simp [PyData.eqv, h, h', beq_false_of_ne h]
  unfold oInP
  rw [e1, e2]
  simp only [itemsP, p1, p2, PyData.plain, decide_true, Bool.and_self, if_true, OQ]
  rw [p3]
theorem inx_some {a b : DV} {neg : Bool} {st : Store} {Q : DV → Store → Prop} (h : OQ (oInP neg a b st) Q) : OQ ((((oInP neg).or (oInD neg)).or (oInC neg)) a b st) Q := by
  unfold V2.or
  cases e : oInP neg a b st with
  | none => rw [e] at h; exact h.elim
  | some r => rw [e] at h; exact h
end Mi

set_option maxHeartbeats 4000000
namespace Mi
open PySem PySem.Spec PyProof.Rows L2
theorem oq_inI {a : Int} {ss : List Int} {neg : Bool} {st : Store} {Q : DV → Store → Prop} : OQ (oInP neg (.int a) (.tup (ss.map .int)) st) Q = Q (.bl (if neg then !decide (a ∈ ss) else decide (a ∈ ss))) st := by
  have e0 : ∀ n s, toPD (n + 1) st (.int s) = some (.int s) := fun n s => rfl
  have e : ∀ n, mapO (toPD (n + 1) st) (ss.map .int) = some (ss.map .int) := by
    intro n
    induction ss with
    | nil => rfl
    | cons s r ih => rw [List.map_cons, mapO, ih, e0]; rfl
  have e1 : toPD 40 st (.tup (ss.map .int)) = some (.tuple (ss.map .int)) := by
    show (mapO (toPD (38 + 1) st) (ss.map .int)).map PyData.tuple = _
    rw [e 38]
    rfl
  have e2 : toPD 40 st (.int a) = some (.int a) := e0 39 a
  have p1 : PyData.plainAll (ss.map .int) = true := by
    clear e e1
    induction ss with
    | nil => rfl
    | cons s r ih => simp only [List.map_cons, PyData.plainAll, PyData.plain, ih, Bool.and_self]
  have p2 : PyData.depthAll (ss.map .int) ≤ 50 := by
    clear e e1 p1
    suffices PyData.depthAll (ss.map .int) ≤ 1 by omega
    induction ss with
    | nil => simp [PyData.depthAll]
    | cons s r ih => simp only [List.map_cons, PyData.depthAll, PyData.depth]; omega
  have p3 : ((ss.map PyData.int).any fun y => PyData.eqv y (.int a)) = decide (a ∈ ss) := by
    clear e e1 p1 p2
    induction ss with
    | nil => simp
    | cons s r ih =>
      rw [List.map_cons, List.any_cons, ih]
      by_cases h : s = a
      · subst h; simp [PyData.eqv]
      · have h' : ¬ a = s := fun z => h z.symm
        simp [PyData.eqv, h, h', beq_false_of_ne h]
  unfold oInP
  rw [e1, e2]
  simp only [itemsP, p1, p2, PyData.plain, decide_true, Bool.and_self, if_true, OQ]
  rw [p3]
theorem atI_m {α : Type} {f : α → DV} {L : List α} {i : Int} {z : α} (h : 0 ≤ i) (h1 : i < L.length) : atI (L.map f) i = some (f (L[i.toNat]?.getD z)) := by
  rw [atI_map (z := z) h h1, List.getD_eq_getElem?_getD]
theorem atI_n {α : Type} {f : α → DV} {L : List α} {i : Int} {z : α} (h : i < 0) (h1 : -(L.length : Int) ≤ i) : atI (L.map f) i = some (f (L[(i + L.length).toNat]?.getD z)) := by
  rw [atI_neg (z := z) h h1, List.getD_eq_getElem?_getD]
theorem getD_mem {α : Type} {L : List α} {i : Nat} {z : α} (h : i < L.length) : L[i]?.getD z ∈ L := by
  rw [List.getElem?_eq_getElem h, Option.getD_some]
  exact List.getElem_mem h
section
variable {tg : TM} {tt : XM Bool} {te : XM DV} {ρ : Ev} {st : Store} {P : List DV → Store → Prop}
theorem lcgo_inv {xs : List DV} {n : Nat} (I : Nat → List DV → Store → Prop) (hn : n = xs.length + 1) (hl : xs.length ≤ sizeLine)
    (hs : ∀ i d acc st, xs[i]? = some d → I i acc st → TQ (tg d ρ) fun ρ1 => XR (tt ρ1 st) (fun k st1 => ifQ k (XR (te ρ1 st1) (fun y st2 => I (i + 1) (acc ++ [y]) st2) NoE) (I (i + 1) acc st1)) NoE)
    (h0 : I 0 [] st) (hd : ∀ acc st, I xs.length acc st → P acc.reverse st) : OQ (lcGo (.vals xs) tg tt te ρ n 0 [] st) P := by
  have h := lcgo_vals (xs := xs) (tg := tg) (tt := tt) (te := te) (ρ := ρ) (P := fun acc s => P acc.reverse s) I hl hs hd xs.length 0 [] st (by omega) h0
  subst hn
  simpa using h
end
end Mi

set_option maxHeartbeats 4000000
namespace Mi
open PySem PySem.Spec PyProof.Rows L2
/-! ### how long a text is -/
theorem textFrom_len : ∀ (ts : List Str) (n b : Nat) (acc : Str), (∀ t ∈ ts, t.length ≤ b) → (textFrom n acc ts).length ≤ acc.length + ts.length * (b + 2)
  | [], n, b, acc, _ => by rw [textFrom.eq_1]; simp
  | t :: ts, n, b, acc, h => by
    rw [textFrom.eq_2]
    have ih := textFrom_len ts (n + 1) b (acc ++ Str.ofString (if n > 0 then ", " else "") ++ t) fun u hu => h u (List.mem_cons_of_mem _ hu)
    have h1 := h t (List.mem_cons_self ..)
    have h2 : (Str.ofString (if n > 0 then ", " else "")).length ≤ 2 := by split <;> decide +kernel
    rw [Str.length_append, Str.length_append] at ih
    rw [List.length_cons, Nat.add_mul, Nat.one_mul]
    omega
theorem listText_len {ts : List Str} {b : Nat} (h : ∀ t ∈ ts, t.length ≤ b) : (listText ts).length ≤ ts.length * (b + 2) + 2 := by
  unfold listText
  rw [Str.length_append]
  have h1 := textFrom_len ts 0 b (Str.ofString "[") h
  have h2 : (Str.ofString "[").length = 1 := by decide +kernel
  have h3 : (Str.ofString "]").length = 1 := by decide +kernel
  omega
theorem shownAll_map {α : Type} (f : α → PyData) : ∀ xs : List α, PyData.shownAll (xs.map f) = xs.map fun x => (f x).shown
  | [] => rfl
  | x :: r => by
    rw [List.map_cons, PyData.shownAll, shownAll_map f r]
    rfl
theorem showableAll_map {α : Type} (f : α → PyData) : ∀ xs : List α, (∀ x ∈ xs, (f x).showable = true) → PyData.showableAll (xs.map f) = true
  | [], _ => rfl
  | x :: r, h => by
    rw [List.map_cons, PyData.showableAll, h x (List.mem_cons_self ..), showableAll_map f r fun y hy => h y (List.mem_cons_of_mem _ hy)]
    rfl
theorem depthAll_map {α : Type} (f : α → PyData) (n : Nat) : ∀ xs : List α, (∀ x ∈ xs, (f x).depth ≤ n) → PyData.depthAll (xs.map f) ≤ n
  | [], _ => by simp [PyData.depthAll]
  | x :: r, h => by
    have h1 := h x (List.mem_cons_self ..)
    have h2 := depthAll_map f n r fun y hy => h y (List.mem_cons_of_mem _ hy)
    rw [List.map_cons]
    simp only [PyData.depthAll]
    omega
theorem list_len {α : Type} {f : α → PyData} {xs : List α} {b : Nat} (h : ∀ x ∈ xs, (f x).shown.length ≤ b) : (PyData.list (xs.map f)).shown.length ≤ xs.length * (b + 2) + 2 := by
  rw [PyData.shown.eq_5, shownAll_map]
  have := listText_len (ts := xs.map fun x => (f x).shown) (b := b) (by
    intro t ht
    obtain ⟨x, hx, rfl⟩ := List.mem_map.1 ht
    exact h x hx)
  simpa using this
theorem byte_len {i : Int} (h : 0 ≤ i ∧ i < 257) : (PyData.int i).shown.length ≤ 3 := by
  have k : ∀ n : Nat, n < 257 → (PyData.int (n : Int)).shown.length ≤ 3 := by decide +kernel
  have := k i.toNat (by omega)
  rwa [Int.toNat_of_nonneg h.1] at this
/-- data of the store, read -/
theorem toPD_map {α : Type} {f : α → DV} {g : α → PyData} {n : Nat} {st : Store} : ∀ xs : List α, (∀ x ∈ xs, toPD n st (f x) = some (g x)) → mapO (toPD n st) (xs.map f) = some (xs.map g)
  | [], _ => rfl
  | x :: r, h => by
    rw [List.map_cons, mapO, h x (List.mem_cons_self ..), toPD_map r fun y hy => h y (List.mem_cons_of_mem _ hy)]
    rfl
theorem eqvAll_map {α : Type} (f : α → PyData) : ∀ xs : List α, (∀ x ∈ xs, PyData.eqv (f x) (f x) = true) → PyData.eqvAll (xs.map f) (xs.map f) = true
  | [], _ => by simp [PyData.eqvAll]
  | x :: r, h => by
    rw [List.map_cons]
    simp [PyData.eqvAll, h x (List.mem_cons_self ..), eqvAll_map f r fun y hy => h y (List.mem_cons_of_mem _ hy)]
theorem plainAll_map {α : Type} (f : α → PyData) : ∀ xs : List α, (∀ x ∈ xs, (f x).plain = true) → PyData.plainAll (xs.map f) = true
  | [], _ => by simp [PyData.plainAll]
  | x :: r, h => by
    rw [List.map_cons]
    simp [PyData.plainAll, h x (List.mem_cons_self ..), plainAll_map f r fun y hy => h y (List.mem_cons_of_mem _ hy)]
end Mi

set_option maxHeartbeats 400000
namespace Mi
open PySem PySem.Spec PyProof.Rows L2
/-! ### cells that change -/
def subQ (x j y : DV) (st : Store) (Q : Store → Prop) : Prop := match mlst x st, mdct x st with
  | some (n, xs), _ => (match j with
    | .int k => CQ (ixN xs.length k) fun q => Q (st.set n (.lst (xs.set q y)))
    | _ => False)
  | none, some (n, kvs) => CQ (keyOf j) fun k => kvs.length < sizeLine ∧ Q (st.set n (.dct (putKD kvs k y)))
  | none, none => False
section
variable {ρ : Ev} {st : Store} {E : EQ} {n : Nat} {xs : List DV} {kvs : List (Key × DV)} {mu : Bool}
@[simp] theorem sr_sub {v o i : XM DV} {Q : Fl → Ev → Store → Prop} : SR (sSub v o i ρ st) Q E = XR (v ρ st) (fun y st1 => XR (o ρ st1) (fun x st2 => XR (i ρ st2) (fun j st3 => subQ x j y st3 fun s => Q .nx ρ s) E) E) E := by
  unfold sSub
  rw [sr_bind]
  congr 1
  funext y st1
  rw [sr_bind]
  congr 1
  funext x st2
  rw [sr_bind]
  congr 1
  funext j st3
  unfold subQ
  cases h1 : mlst x st3 with
  | some p =>
    obtain ⟨m, zs⟩ := p
    cases j with
    | int k => cases h3 : ixN zs.length k <;> simp [SR, CQ, h3]
    | _ => rfl
  | none =>
    cases h2 : mdct x st3 with
    | none => rfl
    | some p =>
      obtain ⟨m, zs⟩ := p
      cases h3 : keyOf j with
      | none => simp [SR, CQ, h3]
      | some k => by_cases h4 : zs.length < sizeLine <;> simp [SR, CQ, h3, h4]
theorem subq_l {k : Int} {y : DV} {Q : Store → Prop} (h : st[n]? = some (.lst xs)) : subQ (.ref n) (.int k) y st Q = CQ (ixN xs.length k) fun q => Q (st.set n (.lst (xs.set q y))) := by simp [subQ, mlst, h]
theorem subq_d {k y : DV} {Q : Store → Prop} (h : st[n]? = some (.dct kvs)) : subQ (.ref n) k y st Q = CQ (keyOf k) fun k => kvs.length < sizeLine ∧ Q (st.set n (.dct (putKD kvs k y))) := by simp [subQ, mlst, mdct, h]
theorem rseq_ref (h : st[n]? = some (.lst xs)) : rseq (.ref n) st = some xs := by simp [rseq, rlst, hlst, htup, h]
theorem oq_ixS {d : DV} {i : Int} {Q : DV → Store → Prop} (h : rseq d st = some xs) : OQ (oIx d (.int i) st) Q = CQ (atI xs i) fun d => Q d st := by
  have e1 : oIxSeq d (.int i) st = (match atI xs i with
    | some d => some (d, st)
    | none => none) := by
    simp only [oIxSeq, h]
    first | done | (cases atI xs i <;> rfl)
  have e2 : oIxStr d (.int i) st = none := by
    cases d <;> first | rfl | (simp [rseq, rlst, hlst, htup] at h)
  have e3 : oIxDct d (.int i) st = none := by
    cases d with
    | ref m =>
      have : hdct (.ref m) st = none := by
        simp [rseq, rlst, hlst, htup] at h
        cases e : st[m]? with
        | none => simp [hdct, e]
        | some c => cases c <;> simp [hdct, e] <;> simp [e] at h
      simp [oIxDct, this]
    | dct kvs => simp [rseq, rlst, hlst, htup] at h
    | _ => rfl
  unfold oIx V2.or
  rw [e1, e2, e3]
  cases h : atI xs i <;> rfl
theorem oq_ixR {i : Int} {Q : DV → Store → Prop} (h : st[n]? = some (.lst xs)) : OQ (oIx (.ref n) (.int i) st) Q = CQ (atI xs i) fun d => Q d st := oq_ixS (rseq_ref h)
theorem oq_ixRD {k : Str} {Q : DV → Store → Prop} (h : st[n]? = some (.dct kvs)) : OQ (oIx (.ref n) (.str k) st) Q = CQ (valD (.inr k) kvs) fun d => Q d st := by
  have e1 : oIxSeq (.ref n) (.str k) st = none := by
    have : rseq (.ref n) st = none := by simp [rseq, rlst, hlst, htup, h]
    simp [oIxSeq, this]
  have e2 : oIxStr (.ref n) (.str k) st = none := (rfl)
  have e3 : oIxDct (.ref n) (.str k) st = (match valD (.inr k) kvs with
    | some d => some (d, st)
    | none => none) := by
    simp only [oIxDct, hdct, h, keyOf]
    first | done | (cases valD (.inr k) kvs <;> rfl)
  unfold oIx V2.or
  rw [e1, e2, e3]
  cases h : valD (.inr k) kvs <;> rfl
theorem oq_lenR {Q : DV → Store → Prop} (h : st[n]? = some (.lst xs)) : OQ (bLen [.ref n] st) Q = Q (.int xs.length) st := by
  simp [bLen, rseq_ref h, OQ]
theorem oq_listS {d : DV} {Q : DV → Store → Prop} (h : rseq d st = some xs) : OQ (bList mu [d] st) Q = Q (newL mu xs st).1 (newL mu xs st).2 := by
  simp [bList, h, OQ]
theorem oq_tupS {d : DV} {Q : DV → Store → Prop} (h : rseq d st = some xs) : OQ (bTup [d] st) Q = Q (.tup xs) st := by
  simp [bTup, h, OQ]
@[simp] theorem get_app {l : Store} {k : Nat} : (st ++ l)[st.length + k]? = l[k]? := by
  rw [List.getElem?_append_right (by omega), Nat.add_sub_cancel_left]
@[simp] theorem get_app0 {l : Store} : (st ++ l)[st.length]? = l[0]? := by
  rw [List.getElem?_append_right (by omega), Nat.sub_self]
@[simp] theorem set_app {l : Store} {k : Nat} {c : Cell} : (st ++ l).set (st.length + k) c = st ++ l.set k c := by
  rw [List.set_append_right _ _ (by omega), Nat.add_sub_cancel_left]
@[simp] theorem set_app0 {l : Store} {c : Cell} : (st ++ l).set st.length c = st ++ l.set 0 c := by
  rw [List.set_append_right _ _ (by omega), Nat.sub_self]
end
end Mi

set_option maxHeartbeats 400000
namespace Mi
open PySem PySem.Spec PyProof.Rows L2
/-! ### data that can be shown -/
def Sz (p : PyData) (n m : Nat) : Prop := p.showable = true ∧ p.shown.length ≤ n ∧ p.depth ≤ m
theorem Sz.mono {p : PyData} {n m n' m' : Nat} (h : Sz p n m) (hn : n ≤ n') (hm : m ≤ m') : Sz p n' m' := ⟨h.1, Nat.le_trans h.2.1 hn, Nat.le_trans h.2.2 hm⟩
theorem sz_non : Sz .none 4 0 := ⟨rfl, by decide +kernel, by simp [PyData.depth]⟩
theorem sz_bl (b : Bool) : Sz (.bool b) 5 0 := ⟨rfl, by cases b <;> decide +kernel, by simp [PyData.depth]⟩
theorem str_of_len (s : String) : (Str.ofString s).length = s.length := by
  rw [Str.ofString_eq_toList]
  simp [Str.length]
  first | rfl | exact String.length_toList | simp [String.length]
theorem sz_int {i : Int} (h : -10 ^ 18 < i ∧ i < 10 ^ 18) : Sz (.int i) 20 0 := by
  refine ⟨?_, ?_, by simp [PyData.depth]⟩
  · show decide (i.natAbs.log2 < 1920) = true
    rw [decide_eq_true_eq]
    have h1 : i.natAbs < 2 ^ 64 := by omega
    by_cases h0 : i.natAbs = 0
    · rw [h0]; decide
    · have := (Nat.log2_lt h0).2 h1
      omega
  · show (Str.ofString (toString i)).length ≤ 20
    rw [str_of_len]
    cases i with
    | ofNat m =>
      change -10 ^ 18 < (m : Int) ∧ (m : Int) < 10 ^ 18 at h
      show (Nat.repr m).length ≤ 20
      have := (Nat.length_repr_le_iff (n := m) (k := 18) (by decide)).2 (by omega)
      omega
    | negSucc m =>
      show ("-" ++ Nat.repr (m + 1)).length ≤ 20
      rw [String.length_append]
      have := (Nat.length_repr_le_iff (n := m + 1) (k := 18) (by decide)).2 (by omega)
      have e : ("-" : String).length = 1 := by decide
      omega
theorem sz_strOf {s : Str} {n : Nat} (h : (reprText s).length ≤ n) : Sz (.str s) n 0 := ⟨rfl, h, by simp [PyData.depth]⟩
theorem shownAll_of : ∀ xs : List PyData, PyData.shownAll xs = xs.map PyData.shown
  | [] => rfl
  | x :: r => by rw [PyData.shownAll, shownAll_of r]; rfl
theorem piled_le {ts : List Str} {b : Nat} (h : ∀ t ∈ ts, t.length ≤ b) : piled ts ≤ ts.length * (b + 2) := by
  induction ts with
  | nil => simp [piled]
  | cons t r ih =>
    have h1 := h t (List.mem_cons_self ..)
    have h2 := ih fun u hu => h u (List.mem_cons_of_mem _ hu)
    simp only [piled, List.map_cons, List.sum_cons, List.length_cons] at h2 ⊢
    rw [Nat.add_mul, Nat.one_mul]
    omega
theorem join_len {ts : List Str} {b : Nat} (h : ∀ t ∈ ts, t.length ≤ b) : (Str.join ", " ts).length ≤ ts.length * (b + 2) := by
  cases ts with
  | nil => exact Nat.zero_le _
  | cons t r =>
    have h1 := join_length_add (t :: r) (by simp)
    have h2 := piled_le h
    omega
theorem showAll_ok {xs : List PyData} (h : ∀ x ∈ xs, x.showable = true) : PyData.showableAll xs = true := by
  have := showableAll_map id xs h
  rwa [List.map_id] at this
theorem depthAll_ok {xs : List PyData} {m : Nat} (h : ∀ x ∈ xs, x.depth ≤ m) : PyData.depthAll xs ≤ m := by
  have := depthAll_map id m xs h
  rwa [List.map_id] at this
theorem sz_list {xs : List PyData} {b m : Nat} (h : ∀ x ∈ xs, Sz x b m) : Sz (.list xs) (xs.length * (b + 2) + 2) (m + 1) := by
  refine ⟨showAll_ok fun x hx => (h x hx).1, ?_, Nat.succ_le_succ (depthAll_ok fun x hx => (h x hx).2.2)⟩
  have := list_len (f := id) (xs := xs) (b := b) fun x hx => (h x hx).2.1
  rwa [List.map_id] at this
theorem sz_tup {xs : List PyData} {b m : Nat} (h : ∀ x ∈ xs, Sz x b m) : Sz (.tuple xs) (xs.length * (b + 2) + 3) (m + 1) := by
  refine ⟨showAll_ok fun x hx => (h x hx).1, ?_, Nat.succ_le_succ (depthAll_ok fun x hx => (h x hx).2.2)⟩
  show (tupleText (PyData.shownAll xs)).length ≤ _
  rw [shownAll_of]
  unfold tupleText
  rw [Str.length_append, Str.length_append]
  have h1 := join_len (ts := xs.map PyData.shown) (b := b) (by
    intro t ht
    obtain ⟨x, hx, rfl⟩ := List.mem_map.1 ht
    exact (h x hx).2.1)
  rw [List.length_map] at h1
  have h2 : (Str.ofString "(").length = 1 := by decide +kernel
  have h3 : ∀ c : Bool, (Str.ofString (if c then ",)" else ")")).length ≤ 2 := by decide +kernel
  have h4 := h3 ((xs.map PyData.shown).length == 1)
  have h5 : ∀ c : Bool, Str.ofString (if c then ",)" else ")") = (if c then (Str.ofString ",)") else Str.ofString ")") := by intro c; cases c <;> rfl
  omega
theorem sz_dict {kvs : List (PyData × PyData)} {a b m : Nat} (h : ∀ kv ∈ kvs, Sz kv.1 a m ∧ Sz kv.2 b m) : Sz (.dict kvs) (kvs.length * (a + b + 4) + 2) (m + 1) := by
  refine ⟨?_, ?_, ?_⟩
  · show PyData.showableKv kvs = true
    induction kvs with
    | nil => rfl
    | cons kv r ih =>
      have h1 := h kv (List.mem_cons_self ..)
      have h2 := ih fun u hu => h u (List.mem_cons_of_mem _ hu)
      obtain ⟨k, v⟩ := kv
      rw [PyData.showableKv, h1.1.1, h1.2.1, h2]
      rfl
  · show (dictText (PyData.shownKv kvs)).length ≤ _
    have e : ∀ kvs : List (PyData × PyData), PyData.shownKv kvs = kvs.map fun kv => kv.1.shown ++ Str.ofString ": " ++ kv.2.shown := by
      intro kvs
      induction kvs with
      | nil => rfl
      | cons kv r ih => rw [PyData.shownKv, ih]; rfl
    rw [e]
    unfold dictText
    rw [Str.length_append, Str.length_append]
    have h0 : (Str.ofString ": ").length = 2 := by decide +kernel
    have h1 := join_len (ts := kvs.map fun kv => kv.1.shown ++ Str.ofString ": " ++ kv.2.shown) (b := a + b + 2) (by
      intro t ht
      obtain ⟨x, hx, rfl⟩ := List.mem_map.1 ht
      have h2 := (h x hx).1.2.1
      have h3 := (h x hx).2.2.1
      rw [Str.length_append, Str.length_append]
      omega)
    rw [List.length_map] at h1
    have h2 : (Str.ofString "{").length = 1 := by decide +kernel
    have h3 : (Str.ofString "}").length = 1 := by decide +kernel
    have h4 : a + b + 2 + 2 = a + b + 4 := by omega
    rw [h4] at h1
    omega
  · show PyData.depthKv kvs + 1 ≤ m + 1
    suffices PyData.depthKv kvs ≤ m by omega
    induction kvs with
    | nil => simp [PyData.depthKv]
    | cons kv r ih =>
      have h1 := h kv (List.mem_cons_self ..)
      have h2 := ih fun u hu => h u (List.mem_cons_of_mem _ hu)
      obtain ⟨k, v⟩ := kv
      have h3 := h1.1.2.2
      have h4 := h1.2.2.2
      simp only [PyData.depthKv]
      simp only at h3 h4
      omega
section
variable {st : Store}
theorem repr_sz {d : DV} {p : PyData} {n m : Nat} {Q : DV → Store → Prop} (hp : toPD 40 st d = some p) (h : Sz p n m) (hn : n ≤ 16777216) (hm : m ≤ 40) : OQ (bRepr [d] st) Q = Q (.str p.shown) st := by
  unfold bRepr
  simp only [hp]
  rw [if_pos]
  · rfl
  · have h1 : p.shown.length ≤ sizeLine := Nat.le_trans h.2.1 (by rw [show sizeLine = 16777216 from rfl]; exact hn)
    rw [h.1, decide_eq_true (Nat.le_trans h.2.2 hm), decide_eq_true h1]
    rfl
theorem cmp_plain {p : PyData} (h : p.plain = true) (hd : p.depth ≤ 50) : cmpP 50 p p = some true := by
  have h1 : plainTo 50 p = true := by
    unfold plainTo
    rw [h, decide_eq_true hd]
    rfl
  have h2 := PySem.SeqAt.eqv_refl_plain p h
  cases p with
  | dict _ => cases h
  | list xs => rw [cmpP, h1, h2]; rfl
  | tuple xs => rw [cmpP, h1, h2]; rfl
  | _ => simp [cmpP, h1, h2]
theorem ne_pd {x y : DV} {p : PyData} {Q : DV → Store → Prop} (hx : toPD 40 st x = some p) (hy : toPD 40 st y = some p) (h : cmpP 50 p p = some true) (hi : plainTo 50 p = true ∨ isDct p = true) : OQ (oNe x y st) Q = Q (.bl false) st := by
  unfold oNe
  simp only [hx, hy, h]
  rw [if_pos (by rcases hi with h | h <;> simp [h])]
  rfl
theorem eq_pd {x y : DV} {p : PyData} {Q : DV → Store → Prop} (hx : toPD 40 st x = some p) (hy : toPD 40 st y = some p) (h : cmpP 50 p p = some true) : OQ (oEq x y st) Q = Q (.bl true) st := by
  unfold oEq
  simp only [hx, hy, h]
  rfl
theorem ne_plain {x y : DV} {p : PyData} {Q : DV → Store → Prop} (hx : toPD 40 st x = some p) (hy : toPD 40 st y = some p) (h : p.plain = true) (hd : p.depth ≤ 50) : OQ (oNe x y st) Q = Q (.bl false) st :=
  ne_pd hx hy (cmp_plain h hd) (.inl (by unfold plainTo; rw [h, decide_eq_true hd]; rfl))
end
end Mi

set_option maxHeartbeats 400000
namespace Mi
open PySem PySem.Spec PyProof.Rows L2
/-! ### targets that are cells; methods of dicts -/
def NQ (Q : Fl → Ev → Store → Prop) : Fl → Ev → Store → Prop := fun f ρ st => match f with
  | .nx => Q .nx ρ st
  | _ => False
section
variable {ρ : Ev} {st : Store} {E : EQ} {Q : Fl → Ev → Store → Prop} {d : DV}
@[simp] theorem nq_nx : NQ Q .nx ρ st = Q .nx ρ st := (rfl)
@[simp] theorem sr_onNx {b : SM} : SR (onNx b ρ st) Q E = SR (b ρ st) (NQ Q) E := by
  unfold onNx
  cases h : b ρ st with
  | ok p =>
    obtain ⟨f, ρ1, st1⟩ := p
    cases f <;> rfl
  | exc c v r s => rfl
  | bad => rfl
@[simp] theorem sr_asgU {a : XM DV} {g : UM} : SR (sAsgU a g ρ st) Q E = XR (a ρ st) (fun d st1 => SR (onNx (g d) ρ st1) Q E) E := by
  unfold sAsgU
  rw [sr_bind]
@[simp] theorem sr_uTup {n : Nat} {r : List DV → SM} {ds : List DV} : SR (uTup n r (.tup ds) ρ st) Q E = (ds.length = n ∧ SR (r ds ρ st) Q E) := by
  show SR ((if ds.length = n then r ds else sBad) ρ st) Q E = _
  by_cases h : ds.length = n
  · rw [if_pos h]; simp [h]
  · rw [if_neg h]; simp [h, SR, sBad]
@[simp] theorem sr_uCons {g : UM} {r : List DV → SM} {ds : List DV} : SR (uCons g r (d :: ds) ρ st) Q E = SR (sSeq (g d) (r ds) ρ st) Q E := (rfl)
@[simp] theorem sr_uNil : SR (uNil [] ρ st) Q E = Q .nx ρ st := (rfl)
@[simp] theorem sr_uName {i : Nat} : SR (uName i d ρ st) Q E = Q .nx (ρ.set i (some d)) st := (rfl)
@[simp] theorem sr_uSub {o i : XM DV} : SR (uSub o i d ρ st) Q E = XR (o ρ st) (fun x st2 => XR (i ρ st2) (fun j st3 => subQ x j d st3 fun s => Q .nx ρ s) E) E := by
  unfold uSub
  rw [sr_bind]
  congr 1
  funext x st2
  rw [sr_bind]
  congr 1
  funext j st3
  unfold subQ
  cases h1 : mlst x st3 with
  | some p =>
    obtain ⟨m, zs⟩ := p
    cases j with
    | int k => cases h3 : ixN zs.length k <;> simp [SR, CQ, h3]
    | _ => rfl
  | none =>
    cases h2 : mdct x st3 with
    | none => rfl
    | some p =>
      obtain ⟨m, zs⟩ := p
      cases h3 : keyOf j with
      | none => simp [SR, CQ, h3]
      | some k => by_cases h4 : zs.length < sizeLine <;> simp [SR, CQ, h3, h4]
@[simp] theorem sr_uFld {at_ : Str → Bool} {f : Str} {o : XM DV} : SR (uFld at_ f o d ρ st) Q E = XR (o ρ st) (fun x st2 => CQ (insAt x st2) fun p => at_ p.2.1 = true ∧ p.2.2.length < 1000 ∧ Q .nx ρ (st2.set p.1 (.ins p.2.1 (putN f d p.2.2)))) E := by
  unfold uFld
  rw [sr_bind]
  congr 1
  funext x st2
  cases h : insAt x st2 with
  | none => rfl
  | some p =>
    obtain ⟨n, c, fs⟩ := p
    by_cases h1 : at_ c = true
    · by_cases h2 : fs.length < 1000
      · simp [SR, CQ, h1, h2]
      · simp [SR, CQ, h1, h2]
    · simp [SR, CQ, h1]
end
section
variable {ρ : Ev} {st : Store} {E : EQ} {Q : DV → Store → Prop} {n : Nat}
@[simp] theorem xr_rev {mu : Bool} {a : XM DV} : XR (xRev mu a ρ st) Q E = XR (a ρ st) (fun d st1 => CQ (hlst d st1) fun xs => Q (newL mu xs.reverse st1).1 (newL mu xs.reverse st1).2) E := by
  unfold xRev
  rw [xr_bind]
  congr 1
  funext d st1
  cases h : hlst d st1 <;> rfl
@[simp] theorem hlst_lst {xs : List DV} : hlst (.lst xs) st = some xs := (rfl)
theorem xr_bm {mt : Str → Option Df} {m : Str} {T : String} {f : VM} {o : XM DV} {a : XM (List DV)} (hf : bMeth T m = some f) (h : XR (o ρ st) (fun d st1 => (insOf d st1 = none ∧ kindOf d st1 = T) ∧ XR (a ρ st1) (fun ds st2 => OQ (f d ds st2) Q) E) E) : XR (xAny mt m o a ρ st) Q E := by
  rw [xr_any]
  refine XR.mono h fun d st1 hd => ?_
  obtain ⟨⟨h1, h2⟩, h3⟩ := hd
  rw [h1]
  simp only [h2, hf, cq_some]
  exact h3
theorem bm_update : bMeth "dict" (Str.ofString "update") = some mUpdate := by kernel_rfl
theorem bm_get : bMeth "dict" (Str.ofString "get") = some mGet := by kernel_rfl
theorem kind_dct {kvs : List (Key × DV)} (h : st[n]? = some (.dct kvs)) : insOf (.ref n) st = none ∧ kindOf (.ref n) st = "dict" := by
  simp [insOf, kindOf, rlst, hlst, hdct, h]
theorem oq_upd {kvs prs : List (Key × DV)} {ys : List DV} (h : st[n]? = some (.dct kvs)) (hp : pairsOf ys = some prs) : OQ (mUpdate (.ref n) [.lst ys] st) Q = (kvs.length + prs.length ≤ sizeLine ∧ Q .non (st.set n (.dct (mergeKD kvs prs)))) := by
  by_cases hz : kvs.length + prs.length ≤ sizeLine <;> simp [mUpdate, mdct, hlst, h, hp, hz, OQ]
theorem oq_dictR {mu : Bool} {kvs : List (Key × DV)} (h : st[n]? = some (.dct kvs)) : OQ (bDict mu [.ref n] st) Q = Q (newD mu kvs st).1 (newD mu kvs st).2 := by
  simp [bDict, hdct, h, OQ]
theorem oq_dictV {mu : Bool} {kvs : List (Key × DV)} : OQ (bDict mu [.dct kvs] st) Q = Q (newD mu kvs st).1 (newD mu kvs st).2 := (rfl)
end
end Mi

set_option maxHeartbeats 400000
namespace Mi
open PySem PySem.Spec PyProof.Rows L2
/-! ### short loops, sums -/
section
variable {ρ : Ev} {st : Store} {E : EQ} {Q : Fl → Ev → Store → Prop} {xs : List DV} {tg : TM} {body : SM} {n i : Nat} {d : DV}
theorem loop_step (hd : xs[i]? = some d) (h : TQ (tg d ρ) fun ρ1 => SR (body ρ1 st) (FQ Q fun ρ2 st2 => SR (sLoop (.vals xs) tg body n (i + 1) ρ2 st2) Q E) E) : SR (sLoop (.vals xs) tg body (n + 1) i ρ st) Q E := by
  unfold sLoop
  simp only [srcAt, hd]
  cases e : tg d ρ with
  | none => rw [e] at h; exact h.elim
  | some ρ1 =>
    rw [e] at h
    simp only [TQ] at h
    simp only
    cases hb : body ρ1 st with
    | ok p =>
      obtain ⟨f, ρ2, st2⟩ := p
      rw [hb] at h
      cases f with
      | nx => simp only [hb]; exact h
      | ct => simp only [hb]; exact h
      | bk => simp only [hb]; exact h
      | rt d => simp only [hb]; exact h
    | exc c v r s => rw [hb] at h; simp only [hb]; exact h
    | bad => rw [hb] at h; exact h.elim
theorem loop_done (hd : xs[i]? = none) (h : Q .nx ρ st) : SR (sLoop (.vals xs) tg body (n + 1) i ρ st) Q E := by
  unfold sLoop
  simp only [srcAt, hd]
  exact h
end
section
variable {ρ : Ev} {st : Store} {P : List DV → Store → Prop} {xs : List DV} {tg : TM} {tt : XM Bool} {te : XM DV} {n i : Nat} {d : DV} {acc : List DV}
theorem lc_step (hd : xs[i]? = some d) (h : TQ (tg d ρ) fun ρ1 => XR (tt ρ1 st) (fun k st1 => ifQ k (XR (te ρ1 st1) (fun y st2 => acc.length < sizeLine ∧ OQ (lcGo (.vals xs) tg tt te ρ n (i + 1) (y :: acc) st2) P) NoE) (OQ (lcGo (.vals xs) tg tt te ρ n (i + 1) acc st1) P)) NoE) (hl : i < sizeLine) : OQ (lcGo (.vals xs) tg tt te ρ (n + 1) i acc st) P := by
  unfold lcGo
  simp only [srcAt, hd]
  cases e : tg d ρ with
  | none => rw [e] at h; exact h.elim
  | some ρ1 =>
    rw [e] at h
    simp only [TQ] at h
    simp only
    cases hb : tt ρ1 st with
    | ok p =>
      obtain ⟨k, st1⟩ := p
      rw [hb] at h
      cases k with
      | false => exact h.2 rfl
      | true =>
        have h2 := h.1 rfl
        simp only
        cases hy : te ρ1 st1 with
        | ok q =>
          obtain ⟨y, st2⟩ := q
          rw [hy] at h2
          simp only
          rw [if_pos hl]
          exact h2.2
        | exc c v r s => rw [hy] at h2; exact h2.elim
        | bad => rw [hy] at h2; exact h2.elim
    | exc c v r s => rw [hb] at h; exact h.elim
    | bad => rw [hb] at h; exact h.elim
theorem lc_done (hd : xs[i]? = none) (h : P acc st) : OQ (lcGo (.vals xs) tg tt te ρ (n + 1) i acc st) P := by
  unfold lcGo
  simp only [srcAt, hd]
  exact h
end
section
variable {st : Store} {Q : DV → Store → Prop}
theorem ints_map : ∀ ns : List Int, intsOf (ns.map .int) = some ns
  | [] => rfl
  | b :: r => by
    have ih := ints_map r
    unfold intsOf at ih ⊢
    simp only [List.map_cons, mapO, ih]
theorem oq_sum {ns : List Int} : OQ (bSum [.lst (ns.map .int)] st) Q = Q (.int ns.sum) st := by
  show OQ (match intsOf (ns.map .int) with
    | some ns => some (.int ns.sum, st)
    | none => none) Q = _
  rw [ints_map]
  rfl
end
end Mi

set_option maxHeartbeats 4000000
namespace Mi
open PySem PySem.Spec PyProof.Rows L2
section
variable {ρ : Ev} {st s : Store} {E : EQ} {Q : Fl → Ev → Store → Prop}
@[simp] theorem sr_tryQ {exm : Str → Str → Option Bool} {xf : Str → Bool} {b : SM} {i : Nat} {hc : Str} {g : DV → XM DV} : SR (sTryQ exm xf b i hc g ρ st) Q E = SR (b ρ st) Q (fun c v ρ' st' => match exm c hc with
    | some true => xf c = true ∧ i < ρ'.length ∧ XR (g v (ρ'.set i none) st') (fun d st2 => Q (.rt d) (ρ'.set i none) st2) fun _ _ _ _ => False
    | some false => E c v ρ' st'
    | none => False) := by
  unfold sTryQ
  cases hb : b ρ st with
  | ok p => rfl
  | bad => rfl
  | exc c v ρ' st' =>
    simp only [SR, hb]
    cases he : exm c hc with
    | none => simp [SR]
    | some k =>
      cases k with
      | false => simp [SR]
      | true =>
        by_cases h1 : xf c = true
        · by_cases h2 : i < ρ'.length
          · cases h3 : g v (ρ'.set i none) st' with
            | ok p => simp [SR, XR, h1, h2, h3]
            | exc _ _ _ _ => simp [SR, XR, h1, h2, h3]
            | bad => simp [SR, XR, h1, h2, h3]
          · simp [SR, h1, h2]
        · simp [SR, h1]
@[simp] theorem xr_hand {x : DV} {b e : XM DV} {Q : DV → Store → Prop} : XR (xHand x b e ρ st) Q E = XR (b ρ st) (fun y st1 => OQ (oEq x y st1) fun d st2 => BQ d fun k => ifQ k (XR (e ρ st2) Q E) (Q (.bl false) st2)) E := by
  unfold xHand
  rw [xr_bind]
  congr 1
  funext y st1
  cases h : oEq x y st1 with
  | none => simp [OQ, XR]
  | some p =>
    obtain ⟨d, st2⟩ := p
    cases d with
    | bl k => cases k <;> simp [OQ, XR, BQ, ifQ]
    | _ => simp [OQ, XR, BQ]
theorem xr_methQ {mt : Str → Option Df} {m c : Str} {o : XM DV} {n : Nat} {fs : List (Str × DV)} {df : Df} {d : DV} {Q : DV → Store → Prop} (ho : o ρ st = .ok (.ref n, st)) (hs : st[n]? = some (.ins c fs)) (hl : fs.lookup m = none) (hm : mt c = some df) (hn : df.n = 1) (hr : df.run [.ref n] st = .ok (d, s)) (h : Q d s) : XR (xMeth mt m o xNil ρ st) Q E := by
  unfold xMeth
  rw [xr_bind, ho]
  have e : insOf (.ref n) st = some (c, fs) := by simp [insOf, hs]
  show XR (match insOf (.ref n) st with
    | some (c, fs) => (match fs.lookup m, mt c with
      | none, some df => xBind xNil (fun ds => ofN df.n df.run (.ref n :: ds)) ρ st
      | _, _ => .bad)
    | none => .bad) Q E
  rw [e]
  simp only [hl, hm]
  rw [xr_bind]
  show XR (ofN df.n df.run [.ref n] ρ st) Q E
  unfold ofN
  rw [if_pos (by rw [hn]; rfl)]
  unfold callR
  rw [hr]
  exact h
end
end Mi

set_option maxHeartbeats 4000000
namespace Mi
open PySem PySem.Spec PyProof.Rows L2

/-! ### rules for exceptions that are values -/
def oneQ (ds : List DV) (Q : DV → Prop) : Prop := match ds with
  | [d] => Q d
  | _ => False
def exnQ (d : DV) (Q : Str → DV → Prop) : Prop := match d with
  | .exn c v => Q c v
  | _ => False
def isiQ (d : DV) (A : Str → Prop) (B : Prop) : Prop := match d with
  | .exn c _ => A c
  | .int _ => B
  | _ => False
@[simp] theorem oneQ_one {d : DV} {Q : DV → Prop} : oneQ [d] Q = Q d := (rfl)
@[simp] theorem exnQ_exn {c : Str} {v : DV} {Q : Str → DV → Prop} : exnQ (.exn c v) Q = Q c v := (rfl)
@[simp] theorem isiQ_exn {c : Str} {v : DV} {A : Str → Prop} {B : Prop} : isiQ (.exn c v) A B = A c := (rfl)
@[simp] theorem isiQ_int {i : Int} {A : Str → Prop} {B : Prop} : isiQ (.int i) A B = B := (rfl)
section
variable {ρ : Ev} {st : Store} {E : EQ}
@[simp] theorem xr_mkV {c : Str} {m : XM (List DV)} {Q : DV → Store → Prop} : XR (xMkV c m ρ st) Q E = XR (m ρ st) (fun ds st1 => oneQ ds fun d => Q (.exn c d) st1) E := by
  unfold xMkV
  rw [xr_bind]
  congr 1
  funext ds st1
  unfold xV oneQ
  rcases ds with _ | ⟨d, _ | ⟨d2, r⟩⟩ <;> rfl
@[simp] theorem xr_at {ev : Str → Bool} {o : XM DV} {Q : DV → Store → Prop} : XR (xAt ev o ρ st) Q E = XR (o ρ st) (fun d st1 => exnQ d fun c v => ev c = true ∧ Q v st1) E := by
  unfold xAt
  rw [xr_bind]
  congr 1
  funext d st1
  unfold xV exnQ
  cases d with
  | exn c v =>
    simp only
    cases h : ev c <;> simp [XR]
  | _ => rfl
@[simp] theorem xr_isi {ev : Str → Bool} {f : Option Str → Option Bool} {o : XM DV} {Q : DV → Store → Prop} : XR (xIsi ev f o ρ st) Q E = XR (o ρ st) (fun d st1 => isiQ d (fun c => ev c = true ∧ CQ (f (some c)) fun b => Q (.bl b) st1) (CQ (f none) fun b => Q (.bl b) st1)) E := by
  unfold xIsi
  rw [xr_bind]
  congr 1
  funext d st1
  unfold xV isiQ
  cases d with
  | exn c v =>
    simp only
    cases h : ev c with
    | false => simp [XR]
    | true =>
      cases h2 : f (some c) <;> simp [XR, CQ]
  | int i =>
    simp only
    cases h2 : f none <;> simp [XR, CQ]
  | _ => rfl
variable {Q : Fl → Ev → Store → Prop}
@[simp] theorem sr_tryR {exm : Str → Str → Option Bool} {ev : Str → Bool} {b : SM} {i : Nat} {hc : Str} : SR (sTryR exm ev b i hc ρ st) Q E = SR (b ρ st) Q (fun c v ρ' st' => match exm c hc with
    | some true => ev c = true ∧ i < ρ'.length ∧ Q (.rt (.exn c v)) ρ' st'
    | some false => E c v ρ' st'
    | none => False) := by
  unfold sTryR
  cases hb : b ρ st with
  | ok p => rfl
  | bad => rfl
  | exc c v ρ' st' =>
    simp only [SR, hb]
    cases he : exm c hc with
    | none => rfl
    | some k =>
      cases k with
      | false => rfl
      | true =>
        simp only
        by_cases h1 : ev c = true <;> by_cases h2 : i < ρ'.length <;> simp [h1, h2]
end
end Mi

set_option maxHeartbeats 4000000
namespace G
open PySem PySem.Spec PyProof.Rows L2 Mi
/-! ### the text -/
abbrev P : Program := PySem.Challenge.pw_caughtup_k00_errors_are_apart
def top (i : Nat) : Stmt := P.main.body.getD i (.Pass ⟨0, 0, 0, 0⟩)
def mth (i j : Nat) : Stmt := (C8.clsBody (top i)).getD j (.Pass ⟨0, 0, 0, 0⟩)
def muts : Pos → Bool := fun p => ([(56, 12)] : List (Nat × Nat)).contains (p.line, p.col)
def frzs : Pos → Bool := fun p => ([(69, 11)] : List (Nat × Nat)).contains (p.line, p.col)
def hd : Hd where
  box := "BoxError"
  attrs := ([] : List (Str × Str))
  exms := ([(("BadAddress", "BadAddress"), true), (("BadAddress", "BadBreak"), false), (("BadAddress", "BadByte"), false), (("BadAddress", "BadCart"), false), (("BadAddress", "BadGame"), false), (("BadAddress", "BadLine"), false), (("BadAddress", "BadLoop"), false), (("BadAddress", "BadNumber"), false), (("BadAddress", "BadOrder"), false), (("BadAddress", "BadPlay"), false), (("BadAddress", "BadSheet"), false), (("BadAddress", "BadSong"), false), (("BadAddress", "BadState"), false), (("BadAddress", "BoxError"), true), (("BadAddress", "TooFar"), false), (("BadBreak", "BadAddress"), false), (("BadBreak", "BadBreak"), true), (("BadBreak", "BadByte"), false), (("BadBreak", "BadCart"), false), (("BadBreak", "BadGame"), false), (("BadBreak", "BadLine"), false), (("BadBreak", "BadLoop"), false), (("BadBreak", "BadNumber"), false), (("BadBreak", "BadOrder"), false), (("BadBreak", "BadPlay"), false), (("BadBreak", "BadSheet"), false), (("BadBreak", "BadSong"), false), (("BadBreak", "BadState"), false), (("BadBreak", "BoxError"), true), (("BadBreak", "TooFar"), false)] : List ((Str × Str) × Bool)) ++ ([(("BadByte", "BadAddress"), false), (("BadByte", "BadBreak"), false), (("BadByte", "BadByte"), true), (("BadByte", "BadCart"), false), (("BadByte", "BadGame"), false), (("BadByte", "BadLine"), false), (("BadByte", "BadLoop"), false), (("BadByte", "BadNumber"), false), (("BadByte", "BadOrder"), false), (("BadByte", "BadPlay"), false), (("BadByte", "BadSheet"), false), (("BadByte", "BadSong"), false), (("BadByte", "BadState"), false), (("BadByte", "BoxError"), true), (("BadByte", "TooFar"), false), (("BadCart", "BadAddress"), false), (("BadCart", "BadBreak"), false), (("BadCart", "BadByte"), false), (("BadCart", "BadCart"), true), (("BadCart", "BadGame"), false), (("BadCart", "BadLine"), false), (("BadCart", "BadLoop"), false), (("BadCart", "BadNumber"), false), (("BadCart", "BadOrder"), false), (("BadCart", "BadPlay"), false), (("BadCart", "BadSheet"), false), (("BadCart", "BadSong"), false), (("BadCart", "BadState"), false), (("BadCart", "BoxError"), true), (("BadCart", "TooFar"), false)] : List ((Str × Str) × Bool)) ++ ([(("BadGame", "BadAddress"), false), (("BadGame", "BadBreak"), false), (("BadGame", "BadByte"), false), (("BadGame", "BadCart"), false), (("BadGame", "BadGame"), true), (("BadGame", "BadLine"), false), (("BadGame", "BadLoop"), false), (("BadGame", "BadNumber"), false), (("BadGame", "BadOrder"), false), (("BadGame", "BadPlay"), false), (("BadGame", "BadSheet"), false), (("BadGame", "BadSong"), false), (("BadGame", "BadState"), false), (("BadGame", "BoxError"), true), (("BadGame", "TooFar"), false), (("BadLine", "BadAddress"), false), (("BadLine", "BadBreak"), false), (("BadLine", "BadByte"), false), (("BadLine", "BadCart"), false), (("BadLine", "BadGame"), false), (("BadLine", "BadLine"), true), (("BadLine", "BadLoop"), false), (("BadLine", "BadNumber"), false), (("BadLine", "BadOrder"), false), (("BadLine", "BadPlay"), false), (("BadLine", "BadSheet"), false), (("BadLine", "BadSong"), false), (("BadLine", "BadState"), false), (("BadLine", "BoxError"), true), (("BadLine", "TooFar"), false)] : List ((Str × Str) × Bool)) ++ ([(("BadLoop", "BadAddress"), false), (("BadLoop", "BadBreak"), false), (("BadLoop", "BadByte"), false), (("BadLoop", "BadCart"), false), (("BadLoop", "BadGame"), false), (("BadLoop", "BadLine"), false), (("BadLoop", "BadLoop"), true), (("BadLoop", "BadNumber"), false), (("BadLoop", "BadOrder"), false), (("BadLoop", "BadPlay"), false), (("BadLoop", "BadSheet"), false), (("BadLoop", "BadSong"), false), (("BadLoop", "BadState"), false), (("BadLoop", "BoxError"), true), (("BadLoop", "TooFar"), false), (("BadNumber", "BadAddress"), false), (("BadNumber", "BadBreak"), false), (("BadNumber", "BadByte"), false), (("BadNumber", "BadCart"), false), (("BadNumber", "BadGame"), false), (("BadNumber", "BadLine"), false), (("BadNumber", "BadLoop"), false), (("BadNumber", "BadNumber"), true), (("BadNumber", "BadOrder"), false), (("BadNumber", "BadPlay"), false), (("BadNumber", "BadSheet"), false), (("BadNumber", "BadSong"), false), (("BadNumber", "BadState"), false), (("BadNumber", "BoxError"), true), (("BadNumber", "TooFar"), false)] : List ((Str × Str) × Bool)) ++ ([(("BadOrder", "BadAddress"), false), (("BadOrder", "BadBreak"), false), (("BadOrder", "BadByte"), false), (("BadOrder", "BadCart"), false), (("BadOrder", "BadGame"), false), (("BadOrder", "BadLine"), false), (("BadOrder", "BadLoop"), false), (("BadOrder", "BadNumber"), false), (("BadOrder", "BadOrder"), true), (("BadOrder", "BadPlay"), false), (("BadOrder", "BadSheet"), false), (("BadOrder", "BadSong"), false), (("BadOrder", "BadState"), false), (("BadOrder", "BoxError"), true), (("BadOrder", "TooFar"), false), (("BadPlay", "BadAddress"), false), (("BadPlay", "BadBreak"), false), (("BadPlay", "BadByte"), false), (("BadPlay", "BadCart"), false), (("BadPlay", "BadGame"), false), (("BadPlay", "BadLine"), false), (("BadPlay", "BadLoop"), false), (("BadPlay", "BadNumber"), false), (("BadPlay", "BadOrder"), false), (("BadPlay", "BadPlay"), true), (("BadPlay", "BadSheet"), false), (("BadPlay", "BadSong"), false), (("BadPlay", "BadState"), false), (("BadPlay", "BoxError"), true), (("BadPlay", "TooFar"), false)] : List ((Str × Str) × Bool)) ++ ([(("BadSheet", "BadAddress"), false), (("BadSheet", "BadBreak"), false), (("BadSheet", "BadByte"), false), (("BadSheet", "BadCart"), false), (("BadSheet", "BadGame"), false), (("BadSheet", "BadLine"), false), (("BadSheet", "BadLoop"), false), (("BadSheet", "BadNumber"), false), (("BadSheet", "BadOrder"), false), (("BadSheet", "BadPlay"), false), (("BadSheet", "BadSheet"), true), (("BadSheet", "BadSong"), false), (("BadSheet", "BadState"), false), (("BadSheet", "BoxError"), true), (("BadSheet", "TooFar"), false), (("BadSong", "BadAddress"), false), (("BadSong", "BadBreak"), false), (("BadSong", "BadByte"), false), (("BadSong", "BadCart"), false), (("BadSong", "BadGame"), false), (("BadSong", "BadLine"), false), (("BadSong", "BadLoop"), false), (("BadSong", "BadNumber"), false), (("BadSong", "BadOrder"), false), (("BadSong", "BadPlay"), false), (("BadSong", "BadSheet"), false), (("BadSong", "BadSong"), true), (("BadSong", "BadState"), false), (("BadSong", "BoxError"), true), (("BadSong", "TooFar"), false)] : List ((Str × Str) × Bool)) ++ ([(("BadState", "BadAddress"), false), (("BadState", "BadBreak"), false), (("BadState", "BadByte"), false), (("BadState", "BadCart"), false), (("BadState", "BadGame"), false), (("BadState", "BadLine"), false), (("BadState", "BadLoop"), false), (("BadState", "BadNumber"), false), (("BadState", "BadOrder"), false), (("BadState", "BadPlay"), false), (("BadState", "BadSheet"), false), (("BadState", "BadSong"), false), (("BadState", "BadState"), true), (("BadState", "BoxError"), true), (("BadState", "TooFar"), false), (("BoxError", "BadAddress"), false), (("BoxError", "BadBreak"), false), (("BoxError", "BadByte"), false), (("BoxError", "BadCart"), false), (("BoxError", "BadGame"), false), (("BoxError", "BadLine"), false), (("BoxError", "BadLoop"), false), (("BoxError", "BadNumber"), false), (("BoxError", "BadOrder"), false), (("BoxError", "BadPlay"), false), (("BoxError", "BadSheet"), false), (("BoxError", "BadSong"), false), (("BoxError", "BadState"), false), (("BoxError", "BoxError"), true), (("BoxError", "TooFar"), false)] : List ((Str × Str) × Bool)) ++ ([(("TooFar", "BadAddress"), false), (("TooFar", "BadBreak"), false), (("TooFar", "BadByte"), false), (("TooFar", "BadCart"), false), (("TooFar", "BadGame"), false), (("TooFar", "BadLine"), false), (("TooFar", "BadLoop"), false), (("TooFar", "BadNumber"), false), (("TooFar", "BadOrder"), false), (("TooFar", "BadPlay"), false), (("TooFar", "BadSheet"), false), (("TooFar", "BadSong"), false), (("TooFar", "BadState"), false), (("TooFar", "BoxError"), true), (("TooFar", "TooFar"), true)] : List ((Str × Str) × Bool))
  xfs := (["BadAddress", "BadBreak", "BadByte", "BadCart", "BadGame", "BadLine", "BadLoop", "BadNumber", "BadOrder", "BadPlay", "BadSheet", "BadSong", "BadState", "BoxError", "TooFar"] : List Str)
  bis := (["ValueError", "abs", "bool", "int", "isinstance", "len", "min", "range"] : List Str)
  vals := ([("NAMES", (.tup [(.str "hlt"), (.str "nop"), (.str "lda #"), (.str "lda @"), (.str "lda @x"), (.str "lda ()y"), (.str "ldx #"), (.str "ldx @"), (.str "ldy #"), (.str "ldy @"), (.str "sta @"), (.str "sta @x"), (.str "sta ()y"), (.str "stx @"), (.str "sty @"), (.str "tax"), (.str "tay"), (.str "txa"), (.str "tya"), (.str "add #"), (.str "add @"), (.str "add @x"), (.str "sub #"), (.str "sub @"), (.str "sub @x"), (.str "and #"), (.str "and @"), (.str "ior #"), (.str "ior @"), (.str "xor #"), (.str "xor @"), (.str "cmp #"), (.str "cmp @"), (.str "cmp @x"), (.str "cpx #"), (.str "cpy #"), (.str "inc @"), (.str "dec @"), (.str "inx"), (.str "iny"), (.str "dex"), (.str "dey"), (.str "shl"), (.str "shr"), (.str "jmp @"), (.str "jsr @"), (.str "rts"), (.str "rti"), (.str "beq"), (.str "bne"), (.str "bcs"), (.str "bcc"), (.str "bmi"), (.str "bpl"), (.str "pha"), (.str "pla"), (.str "clc"), (.str "sec"), (.str "cli"), (.str "sei")])), ("BRANCHES", (.tup [(.str "beq"), (.str "bne"), (.str "bcs"), (.str "bcc"), (.str "bmi"), (.str "bpl")])), ("NOP", (.str "nop"))] : List (Str × DV))
  fns := (["_law_draws", "_law_kinds", "_law_made", "_law_mix", "check_byte", "sign_of", "length_by", "name_of", "length_of", "_law_raised", "law"] : List Str)
  clss := ([] : List Str)
  mths := ([] : List ((Str × Str) × Str))
  evs := (["BadAddress", "BadBreak", "BadByte", "BadCart", "BadGame", "BadLine", "BadLoop", "BadNumber", "BadOrder", "BadPlay", "BadSheet", "BadSong", "BadState", "BoxError", "TooFar"] : List Str)
  kits := [(("BadAddress", false), [(some "BadAddress", true), (some "BadBreak", false), (some "BadByte", false), (some "BadCart", false), (some "BadGame", false), (some "BadLine", false), (some "BadLoop", false), (some "BadNumber", false), (some "BadOrder", false), (some "BadPlay", false), (some "BadSheet", false), (some "BadSong", false), (some "BadState", false), (some "BoxError", false), (some "TooFar", false)]), (("BadBreak", false), [(some "BadAddress", false), (some "BadBreak", true), (some "BadByte", false), (some "BadCart", false), (some "BadGame", false), (some "BadLine", false), (some "BadLoop", false), (some "BadNumber", false), (some "BadOrder", false), (some "BadPlay", false), (some "BadSheet", false), (some "BadSong", false), (some "BadState", false), (some "BoxError", false), (some "TooFar", false)]), (("BadByte", false), [(some "BadAddress", false), (some "BadBreak", false), (some "BadByte", true), (some "BadCart", false), (some "BadGame", false), (some "BadLine", false), (some "BadLoop", false), (some "BadNumber", false), (some "BadOrder", false), (some "BadPlay", false), (some "BadSheet", false), (some "BadSong", false), (some "BadState", false), (some "BoxError", false), (some "TooFar", false)]), (("BadCart", false), [(some "BadAddress", false), (some "BadBreak", false), (some "BadByte", false), (some "BadCart", true), (some "BadGame", false), (some "BadLine", false), (some "BadLoop", false), (some "BadNumber", false), (some "BadOrder", false), (some "BadPlay", false), (some "BadSheet", false), (some "BadSong", false), (some "BadState", false), (some "BoxError", false), (some "TooFar", false)]), (("BadGame", false), [(some "BadAddress", false), (some "BadBreak", false), (some "BadByte", false), (some "BadCart", false), (some "BadGame", true), (some "BadLine", false), (some "BadLoop", false), (some "BadNumber", false), (some "BadOrder", false), (some "BadPlay", false), (some "BadSheet", false), (some "BadSong", false), (some "BadState", false), (some "BoxError", false), (some "TooFar", false)]), (("BadLine", false), [(some "BadAddress", false), (some "BadBreak", false), (some "BadByte", false), (some "BadCart", false), (some "BadGame", false), (some "BadLine", true), (some "BadLoop", false), (some "BadNumber", false), (some "BadOrder", false), (some "BadPlay", false), (some "BadSheet", false), (some "BadSong", false), (some "BadState", false), (some "BoxError", false), (some "TooFar", false)]), (("BadLoop", false), [(some "BadAddress", false), (some "BadBreak", false), (some "BadByte", false), (some "BadCart", false), (some "BadGame", false), (some "BadLine", false), (some "BadLoop", true), (some "BadNumber", false), (some "BadOrder", false), (some "BadPlay", false), (some "BadSheet", false), (some "BadSong", false), (some "BadState", false), (some "BoxError", false), (some "TooFar", false)]), (("BadNumber", false), [(some "BadAddress", false), (some "BadBreak", false), (some "BadByte", false), (some "BadCart", false), (some "BadGame", false), (some "BadLine", false), (some "BadLoop", false), (some "BadNumber", true), (some "BadOrder", false), (some "BadPlay", false), (some "BadSheet", false), (some "BadSong", false), (some "BadState", false), (some "BoxError", false), (some "TooFar", false)]), (("BadOrder", false), [(some "BadAddress", false), (some "BadBreak", false), (some "BadByte", false), (some "BadCart", false), (some "BadGame", false), (some "BadLine", false), (some "BadLoop", false), (some "BadNumber", false), (some "BadOrder", true), (some "BadPlay", false), (some "BadSheet", false), (some "BadSong", false), (some "BadState", false), (some "BoxError", false), (some "TooFar", false)]), (("BadPlay", false), [(some "BadAddress", false), (some "BadBreak", false), (some "BadByte", false), (some "BadCart", false), (some "BadGame", false), (some "BadLine", false), (some "BadLoop", false), (some "BadNumber", false), (some "BadOrder", false), (some "BadPlay", true), (some "BadSheet", false), (some "BadSong", false), (some "BadState", false), (some "BoxError", false), (some "TooFar", false)]), (("BadSheet", false), [(some "BadAddress", false), (some "BadBreak", false), (some "BadByte", false), (some "BadCart", false), (some "BadGame", false), (some "BadLine", false), (some "BadLoop", false), (some "BadNumber", false), (some "BadOrder", false), (some "BadPlay", false), (some "BadSheet", true), (some "BadSong", false), (some "BadState", false), (some "BoxError", false), (some "TooFar", false)]), (("BadSong", false), [(some "BadAddress", false), (some "BadBreak", false), (some "BadByte", false), (some "BadCart", false), (some "BadGame", false), (some "BadLine", false), (some "BadLoop", false), (some "BadNumber", false), (some "BadOrder", false), (some "BadPlay", false), (some "BadSheet", false), (some "BadSong", true), (some "BadState", false), (some "BoxError", false), (some "TooFar", false)]), (("BadState", false), [(some "BadAddress", false), (some "BadBreak", false), (some "BadByte", false), (some "BadCart", false), (some "BadGame", false), (some "BadLine", false), (some "BadLoop", false), (some "BadNumber", false), (some "BadOrder", false), (some "BadPlay", false), (some "BadSheet", false), (some "BadSong", false), (some "BadState", true), (some "BoxError", false), (some "TooFar", false)]), (("BoxError", false), [(some "BadAddress", true), (some "BadBreak", true), (some "BadByte", true), (some "BadCart", true), (some "BadGame", true), (some "BadLine", true), (some "BadLoop", true), (some "BadNumber", true), (some "BadOrder", true), (some "BadPlay", true), (some "BadSheet", true), (some "BadSong", true), (some "BadState", true), (some "BoxError", true), (some "TooFar", true)]), (("TooFar", false), [(some "BadAddress", false), (some "BadBreak", false), (some "BadByte", false), (some "BadCart", false), (some "BadGame", false), (some "BadLine", false), (some "BadLoop", false), (some "BadNumber", false), (some "BadOrder", false), (some "BadPlay", false), (some "BadSheet", false), (some "BadSong", false), (some "BadState", false), (some "BoxError", false), (some "TooFar", true)]), (("ValueError", true), [(some "BadAddress", true), (some "BadBreak", true), (some "BadByte", true), (some "BadCart", true), (some "BadGame", true), (some "BadLine", true), (some "BadLoop", true), (some "BadNumber", true), (some "BadOrder", true), (some "BadPlay", true), (some "BadSheet", true), (some "BadSong", true), (some "BadState", true), (some "BoxError", true), (some "TooFar", true)]), (("bool", true), [(none, false)]), (("int", true), [(none, true)])]
def fu : Nat := 60
abbrev mk (N : List Str) (st : Stmt) (k : Nat) (gl : Gl') (mt : Mt') : Mi.Ctx := mkC hd muts frzs 100000 N (C8.fnScope st) k gl mt
def gl0 : Gl' := hd.gl0
def mt0 : Mt' := []
def C_u_law_draws : Mi.Ctx := mk ["script", "draws", "k", "rest", "turn", "stirred"] (top 27) 2 gl0 mt0
def df_u_law_draws : Df := ⟨1, runOf fu C_u_law_draws (C8.fnBody (top 27))⟩
def C_u_law_kinds : Mi.Ctx := mk ["e"] (top 29) 2 gl0 mt0
def df_u_law_kinds : Df := ⟨1, runOf fu C_u_law_kinds (C8.fnBody (top 29))⟩
def C_u_law_made : Mi.Ctx := mk ["n"] (top 30) 2 gl0 mt0
def df_u_law_made : Df := ⟨1, runOf fu C_u_law_made (C8.fnBody (top 30))⟩
def C_u_law_mix : Mi.Ctx := mk ["draws", "k", "many", "cell"] (top 28) 2 gl0 mt0
def df_u_law_mix : Df := ⟨3, runOf fu C_u_law_mix (C8.fnBody (top 28))⟩
def C_check_byte : Mi.Ctx := mk ["byte"] (top 23) 2 gl0 mt0
def df_check_byte : Df := ⟨1, runOf fu C_check_byte (C8.fnBody (top 23))⟩
def C_sign_of : Mi.Ctx := mk ["name"] (top 22) 2 gl0 mt0
def df_sign_of : Df := ⟨1, runOf fu C_sign_of (C8.fnBody (top 22))⟩
def C_name_of : Mi.Ctx := mk ["byte"] (top 21) 2 gl0 mt0
def df_name_of : Df := ⟨1, runOf fu C_name_of (C8.fnBody (top 21))⟩
def gl1 : Gl' := (("_law_draws", .fn df_u_law_draws) :: ("_law_kinds", .fn df_u_law_kinds) :: ("_law_made", .fn df_u_law_made) :: ("_law_mix", .fn df_u_law_mix) :: ("check_byte", .fn df_check_byte) :: ("sign_of", .fn df_sign_of) :: ("name_of", .fn df_name_of) :: [] : Gl') ++ gl0
def mt1 : Mt' := ([] : Mt') ++ mt0
def C_length_by : Mi.Ctx := mk ["name"] (top 24) 4 gl1 mt1
def df_length_by : Df := ⟨1, runOf fu C_length_by (C8.fnBody (top 24))⟩
def gl2 : Gl' := (("length_by", .fn df_length_by) :: [] : Gl') ++ gl1
def mt2 : Mt' := ([] : Mt') ++ mt1
def C_length_of : Mi.Ctx := mk ["byte"] (top 25) 6 gl2 mt2
def df_length_of : Df := ⟨1, runOf fu C_length_of (C8.fnBody (top 25))⟩
def gl3 : Gl' := (("length_of", .fn df_length_of) :: [] : Gl') ++ gl2
def mt3 : Mt' := ([] : Mt') ++ mt2
def C_u_law_raised : Mi.Ctx := mk ["many", "e"] (top 31) 8 gl3 mt3
def df_u_law_raised : Df := ⟨1, runOf fu C_u_law_raised (C8.fnBody (top 31))⟩
def gl4 : Gl' := (("_law_raised", .fn df_u_law_raised) :: [] : Gl') ++ gl3
def mt4 : Mt' := ([] : Mt') ++ mt3
def C_law : Mi.Ctx := mk ["script", "draws", "number", "made", "k", "base", "many", "told", "t"] (top 32) 10 gl4 mt4
def df_law : Df := ⟨1, runOf fu C_law (C8.fnBody (top 32))⟩
def gl5 : Gl' := (("law", .fn df_law) :: [] : Gl') ++ gl4
def mt5 : Mt' := ([] : Mt') ++ mt4
end G

set_option maxHeartbeats 4000000
namespace G
open PySem PySem.Spec PyProof.Rows L2 Mi
/-! ### the head -/
def fd_u_law_draws : Fd := ⟨("_law_draws", none), "_law_draws", "_law_draws", C8.fnArgs (top 27), C8.fnBody (top 27), C8.fnScope (top 27), none⟩
def fd_u_law_kinds : Fd := ⟨("_law_kinds", none), "_law_kinds", "_law_kinds", C8.fnArgs (top 29), C8.fnBody (top 29), C8.fnScope (top 29), none⟩
def fd_u_law_made : Fd := ⟨("_law_made", none), "_law_made", "_law_made", C8.fnArgs (top 30), C8.fnBody (top 30), C8.fnScope (top 30), none⟩
def fd_u_law_mix : Fd := ⟨("_law_mix", none), "_law_mix", "_law_mix", C8.fnArgs (top 28), C8.fnBody (top 28), C8.fnScope (top 28), none⟩
def fd_check_byte : Fd := ⟨("check_byte", none), "check_byte", "check_byte", C8.fnArgs (top 23), C8.fnBody (top 23), C8.fnScope (top 23), none⟩
def fd_sign_of : Fd := ⟨("sign_of", none), "sign_of", "sign_of", C8.fnArgs (top 22), C8.fnBody (top 22), C8.fnScope (top 22), none⟩
def fd_length_by : Fd := ⟨("length_by", none), "length_by", "length_by", C8.fnArgs (top 24), C8.fnBody (top 24), C8.fnScope (top 24), none⟩
def fd_name_of : Fd := ⟨("name_of", none), "name_of", "name_of", C8.fnArgs (top 21), C8.fnBody (top 21), C8.fnScope (top 21), none⟩
def fd_length_of : Fd := ⟨("length_of", none), "length_of", "length_of", C8.fnArgs (top 25), C8.fnBody (top 25), C8.fnScope (top 25), none⟩
def fd_u_law_raised : Fd := ⟨("_law_raised", none), "_law_raised", "_law_raised", C8.fnArgs (top 31), C8.fnBody (top 31), C8.fnScope (top 31), none⟩
def fd_law : Fd := ⟨("law", none), "law", "law", C8.fnArgs (top 32), C8.fnBody (top 32), C8.fnScope (top 32), none⟩
def fd_box : Fd := ⟨("BoxError", some "__init__"), "__init__", "BoxError.__init__", C8.fnArgs (mth 1 0), C8.fnBody (mth 1 0), C8.fnScope (mth 1 0), some "BoxError"⟩
def fds : List Fd := ([fd_u_law_draws, fd_u_law_kinds, fd_u_law_made, fd_u_law_mix, fd_check_byte, fd_sign_of, fd_length_by, fd_name_of, fd_length_of, fd_u_law_raised, fd_law, fd_box] : List Fd)
abbrev R : PySem.W.OpenRow := PySem.W.OpenLaw.row PySem.Challenge.rw_caughtup_k00_errors_are_apart
def names : List Str := (["BoxError", "BadCart", "BadByte", "BadAddress", "BadLine", "TooFar", "BadSheet", "BadNumber", "BadState", "BadPlay", "BadBreak", "BadOrder", "BadSong", "BadLoop", "BadGame", "NAMES", "BRANCHES", "SIGNS", "NOP", "name_of", "sign_of", "check_byte", "length_by", "length_of", "_law_draws", "_law_mix", "_law_kinds", "_law_made", "_law_raised"] : List Str)
abbrev hk : PySem.W.Hook := hookZ P.main.file 4 hd.ck fds
def ob (s : PySem.W.SharedT) : AlZ := obsZG P.main.file 4 hd.ck fds (HandSHeadRun.getT s)
theorem ob_eq (s : PySem.W.SharedT) : ob s = hk.obs s.abs := obsZG_eq (HandSHeadRun.getT_eq s)
theorem run (w : World) : HandSHeadRun.RunEq R (PySem.W.view R.prog [32]) hk ob 9000 names w := PySem.W.byRow2 "special-get-raises" (P := fun w => HandSHeadRun.RunEq R (PySem.W.view R.prog [32]) hk ob 9000 names w) (fun w os => by kernel_rfl) (fun w os => by kernel_rfl) w
end G

set_option maxHeartbeats 4000000
namespace G
open PySem PySem.Spec PyProof.Rows L2 Mi
/-! ### each def keeps its run -/
section
variable {w : World} {K : PySem.W.Frag} {mg : Str → Option Value} {base hp : Heap}
theorem box (H : HdOk hd K) (hk : PySem.W.Frag.In K hp) (G : hp.Ns mainGlobals mg) (c : SaysZ P.main.file hd.ck fds K) : ∃ fd, FnOk P w K mg base C8.CX0 1 (He.ma K (He.ga K hd.box) "__init__") fd ["self", "at"] (spBox K (He.ga K hd.box)) ∧ Binds K fd ["self", "at"] [] :=
  box_ok (i := 11) (d := fd_box) (D := "BoxError") (p0 := ⟨5, 8, 5, 13⟩) (p1 := ⟨5, 8, 5, 15⟩) (p2 := ⟨5, 8, 5, 24⟩) (p3 := ⟨5, 25, 5, 27⟩) (p4 := ⟨5, 8, 5, 28⟩) (p5 := ⟨5, 8, 5, 28⟩) (p6 := ⟨6, 8, 6, 12⟩) (p7 := ⟨6, 8, 6, 15⟩) (p8 := ⟨6, 18, 6, 20⟩) (p9 := ⟨6, 8, 6, 20⟩) H hk G c rfl rfl rfl rfl (by kernel_rfl) (by kernel_rfl) (by kernel_rfl) (by kernel_rfl) (by kernel_rfl) (by kernel_rfl) fun _ _ _ _ _ _ _ us hl => match us, hl with | [_, _], _ => rfl
theorem t0 (H : HdOk hd K) (hk : PySem.W.Frag.In K hp) (G : hp.Ns mainGlobals mg) (c : SaysZ P.main.file hd.ck fds K) : Tabs P w K mg base 2 gl0 mt0 := tabs0 H hk G fun _ => box H hk G c
theorem u_u_law_draws (H : HdOk hd K) (hk : PySem.W.Frag.In K hp) (G : hp.Ns mainGlobals mg) (c : SaysZ P.main.file hd.ck fds K) : UOk P w K mg base 4 (He.fAd K fd_u_law_draws.at_) df_u_law_draws :=
  unit_ok (ck := hd.ck) (d := fd_u_law_draws) (C := C_u_law_draws) (ps := ["script"]) (fu := fu) c (show fds[0]? = some fd_u_law_draws from rfl) rfl (by kernel_rfl) rfl rfl ((t0 H hk G c).ok H hk G) fun _ _ _ _ _ _ us hl => match us, hl with | [_], _ => rfl
theorem u_u_law_kinds (H : HdOk hd K) (hk : PySem.W.Frag.In K hp) (G : hp.Ns mainGlobals mg) (c : SaysZ P.main.file hd.ck fds K) : UOk P w K mg base 4 (He.fAd K fd_u_law_kinds.at_) df_u_law_kinds :=
  unit_ok (ck := hd.ck) (d := fd_u_law_kinds) (C := C_u_law_kinds) (ps := ["e"]) (fu := fu) c (show fds[1]? = some fd_u_law_kinds from rfl) rfl (by kernel_rfl) rfl rfl ((t0 H hk G c).ok H hk G) fun _ _ _ _ _ _ us hl => match us, hl with | [_], _ => rfl
theorem u_u_law_made (H : HdOk hd K) (hk : PySem.W.Frag.In K hp) (G : hp.Ns mainGlobals mg) (c : SaysZ P.main.file hd.ck fds K) : UOk P w K mg base 4 (He.fAd K fd_u_law_made.at_) df_u_law_made :=
  unit_ok (ck := hd.ck) (d := fd_u_law_made) (C := C_u_law_made) (ps := ["n"]) (fu := fu) c (show fds[2]? = some fd_u_law_made from rfl) rfl (by kernel_rfl) rfl rfl ((t0 H hk G c).ok H hk G) fun _ _ _ _ _ _ us hl => match us, hl with | [_], _ => rfl
theorem u_u_law_mix (H : HdOk hd K) (hk : PySem.W.Frag.In K hp) (G : hp.Ns mainGlobals mg) (c : SaysZ P.main.file hd.ck fds K) : UOk P w K mg base 4 (He.fAd K fd_u_law_mix.at_) df_u_law_mix :=
  unit_ok (ck := hd.ck) (d := fd_u_law_mix) (C := C_u_law_mix) (ps := ["draws", "k", "many"]) (fu := fu) c (show fds[3]? = some fd_u_law_mix from rfl) rfl (by kernel_rfl) rfl rfl ((t0 H hk G c).ok H hk G) fun _ _ _ _ _ _ us hl => match us, hl with | [_, _, _], _ => rfl
theorem u_check_byte (H : HdOk hd K) (hk : PySem.W.Frag.In K hp) (G : hp.Ns mainGlobals mg) (c : SaysZ P.main.file hd.ck fds K) : UOk P w K mg base 4 (He.fAd K fd_check_byte.at_) df_check_byte :=
  unit_ok (ck := hd.ck) (d := fd_check_byte) (C := C_check_byte) (ps := ["byte"]) (fu := fu) c (show fds[4]? = some fd_check_byte from rfl) rfl (by kernel_rfl) rfl rfl ((t0 H hk G c).ok H hk G) fun _ _ _ _ _ _ us hl => match us, hl with | [_], _ => rfl
theorem u_sign_of (H : HdOk hd K) (hk : PySem.W.Frag.In K hp) (G : hp.Ns mainGlobals mg) (c : SaysZ P.main.file hd.ck fds K) : UOk P w K mg base 4 (He.fAd K fd_sign_of.at_) df_sign_of :=
  unit_ok (ck := hd.ck) (d := fd_sign_of) (C := C_sign_of) (ps := ["name"]) (fu := fu) c (show fds[5]? = some fd_sign_of from rfl) rfl (by kernel_rfl) rfl rfl ((t0 H hk G c).ok H hk G) fun _ _ _ _ _ _ us hl => match us, hl with | [_], _ => rfl
theorem u_name_of (H : HdOk hd K) (hk : PySem.W.Frag.In K hp) (G : hp.Ns mainGlobals mg) (c : SaysZ P.main.file hd.ck fds K) : UOk P w K mg base 4 (He.fAd K fd_name_of.at_) df_name_of :=
  unit_ok (ck := hd.ck) (d := fd_name_of) (C := C_name_of) (ps := ["byte"]) (fu := fu) c (show fds[7]? = some fd_name_of from rfl) rfl (by kernel_rfl) rfl rfl ((t0 H hk G c).ok H hk G) fun _ _ _ _ _ _ us hl => match us, hl with | [_], _ => rfl
theorem t1 (H : HdOk hd K) (hk : PySem.W.Frag.In K hp) (G : hp.Ns mainGlobals mg) (c : SaysZ P.main.file hd.ck fds K) : Tabs P w K mg base 4 gl1 mt1 := by
  refine (t0 H hk G c).step (by decide) (fun X s => ?_) fun X s => ?_
  · simp only [List.forall_mem_cons]
    exact ⟨gl_fn H hk G (by decide) (u_u_law_draws H hk G c) (Nat.le_refl _) s, gl_fn H hk G (by decide) (u_u_law_kinds H hk G c) (Nat.le_refl _) s, gl_fn H hk G (by decide) (u_u_law_made H hk G c) (Nat.le_refl _) s, gl_fn H hk G (by decide) (u_u_law_mix H hk G c) (Nat.le_refl _) s, gl_fn H hk G (by decide) (u_check_byte H hk G c) (Nat.le_refl _) s, gl_fn H hk G (by decide) (u_sign_of H hk G c) (Nat.le_refl _) s, gl_fn H hk G (by decide) (u_name_of H hk G c) (Nat.le_refl _) s, fun _ h => nomatch h⟩
  · exact fun _ h => nomatch h
theorem u_length_by (H : HdOk hd K) (hk : PySem.W.Frag.In K hp) (G : hp.Ns mainGlobals mg) (c : SaysZ P.main.file hd.ck fds K) : UOk P w K mg base 6 (He.fAd K fd_length_by.at_) df_length_by :=
  unit_ok (ck := hd.ck) (d := fd_length_by) (C := C_length_by) (ps := ["name"]) (fu := fu) c (show fds[6]? = some fd_length_by from rfl) rfl (by kernel_rfl) rfl rfl ((t1 H hk G c).ok H hk G) fun _ _ _ _ _ _ us hl => match us, hl with | [_], _ => rfl
theorem t2 (H : HdOk hd K) (hk : PySem.W.Frag.In K hp) (G : hp.Ns mainGlobals mg) (c : SaysZ P.main.file hd.ck fds K) : Tabs P w K mg base 6 gl2 mt2 := by
  refine (t1 H hk G c).step (by decide) (fun X s => ?_) fun X s => ?_
  · simp only [List.forall_mem_cons]
    exact ⟨gl_fn H hk G (by decide) (u_length_by H hk G c) (Nat.le_refl _) s, fun _ h => nomatch h⟩
  · exact fun _ h => nomatch h
theorem u_length_of (H : HdOk hd K) (hk : PySem.W.Frag.In K hp) (G : hp.Ns mainGlobals mg) (c : SaysZ P.main.file hd.ck fds K) : UOk P w K mg base 8 (He.fAd K fd_length_of.at_) df_length_of :=
  unit_ok (ck := hd.ck) (d := fd_length_of) (C := C_length_of) (ps := ["byte"]) (fu := fu) c (show fds[8]? = some fd_length_of from rfl) rfl (by kernel_rfl) rfl rfl ((t2 H hk G c).ok H hk G) fun _ _ _ _ _ _ us hl => match us, hl with | [_], _ => rfl
theorem t3 (H : HdOk hd K) (hk : PySem.W.Frag.In K hp) (G : hp.Ns mainGlobals mg) (c : SaysZ P.main.file hd.ck fds K) : Tabs P w K mg base 8 gl3 mt3 := by
  refine (t2 H hk G c).step (by decide) (fun X s => ?_) fun X s => ?_
  · simp only [List.forall_mem_cons]
    exact ⟨gl_fn H hk G (by decide) (u_length_of H hk G c) (Nat.le_refl _) s, fun _ h => nomatch h⟩
  · exact fun _ h => nomatch h
theorem u_u_law_raised (H : HdOk hd K) (hk : PySem.W.Frag.In K hp) (G : hp.Ns mainGlobals mg) (c : SaysZ P.main.file hd.ck fds K) : UOk P w K mg base 10 (He.fAd K fd_u_law_raised.at_) df_u_law_raised :=
  unit_ok (ck := hd.ck) (d := fd_u_law_raised) (C := C_u_law_raised) (ps := ["many"]) (fu := fu) c (show fds[9]? = some fd_u_law_raised from rfl) rfl (by kernel_rfl) rfl rfl ((t3 H hk G c).ok H hk G) fun _ _ _ _ _ _ us hl => match us, hl with | [_], _ => rfl
theorem t4 (H : HdOk hd K) (hk : PySem.W.Frag.In K hp) (G : hp.Ns mainGlobals mg) (c : SaysZ P.main.file hd.ck fds K) : Tabs P w K mg base 10 gl4 mt4 := by
  refine (t3 H hk G c).step (by decide) (fun X s => ?_) fun X s => ?_
  · simp only [List.forall_mem_cons]
    exact ⟨gl_fn H hk G (by decide) (u_u_law_raised H hk G c) (Nat.le_refl _) s, fun _ h => nomatch h⟩
  · exact fun _ h => nomatch h
theorem u_law (H : HdOk hd K) (hk : PySem.W.Frag.In K hp) (G : hp.Ns mainGlobals mg) (c : SaysZ P.main.file hd.ck fds K) : UOk P w K mg base 12 (He.fAd K fd_law.at_) df_law :=
  unit_ok (ck := hd.ck) (d := fd_law) (C := C_law) (ps := ["script"]) (fu := fu) c (show fds[10]? = some fd_law from rfl) rfl (by kernel_rfl) rfl rfl ((t4 H hk G c).ok H hk G) fun _ _ _ _ _ _ us hl => match us, hl with | [_], _ => rfl
theorem t5 (H : HdOk hd K) (hk : PySem.W.Frag.In K hp) (G : hp.Ns mainGlobals mg) (c : SaysZ P.main.file hd.ck fds K) : Tabs P w K mg base 12 gl5 mt5 := by
  refine (t4 H hk G c).step (by decide) (fun X s => ?_) fun X s => ?_
  · simp only [List.forall_mem_cons]
    exact ⟨gl_fn H hk G (by decide) (u_law H hk G c) (Nat.le_refl _) s, fun _ h => nomatch h⟩
  · exact fun _ h => nomatch h
end
end G

set_option maxHeartbeats 4000000
namespace G
open PySem PySem.Spec PyProof.Rows L2 Mi
/-! ### the defs' code -/
def oLt : V2 := oI (fun _ _ => true) fun i j => .bl (decide (i < j))
def oLe : V2 := oI (fun _ _ => true) fun i j => .bl (decide (i ≤ j))
def oGt : V2 := oI (fun _ _ => true) fun i j => .bl (decide (j < i))
def oGe : V2 := oI (fun _ _ => true) fun i j => .bl (decide (j ≤ i))
def oInX (neg : Bool) : V2 := ((oInP neg).or (oInD neg)).or (oInC neg)
def at_ (f c : Str) : Bool := hd.attrs.contains (f, c)
def exm_ (c x : Str) : Option Bool := hd.exms.lookup (c, x)
def xf_ (c : Str) : Bool := hd.xfs.contains c
def ev_ (c : Str) : Bool := hd.evs.contains c
def kf_ (x : Str) : Option Str → Option Bool := (hd.kit x).getD fun _ => none
@[simp] theorem ev_BadAddress : ev_ "BadAddress" = true := by kernel_rfl
@[simp] theorem ev_BadBreak : ev_ "BadBreak" = true := by kernel_rfl
@[simp] theorem ev_BadByte : ev_ "BadByte" = true := by kernel_rfl
@[simp] theorem ev_BadCart : ev_ "BadCart" = true := by kernel_rfl
@[simp] theorem ev_BadGame : ev_ "BadGame" = true := by kernel_rfl
@[simp] theorem ev_BadLine : ev_ "BadLine" = true := by kernel_rfl
@[simp] theorem ev_BadLoop : ev_ "BadLoop" = true := by kernel_rfl
@[simp] theorem ev_BadNumber : ev_ "BadNumber" = true := by kernel_rfl
@[simp] theorem ev_BadOrder : ev_ "BadOrder" = true := by kernel_rfl
@[simp] theorem ev_BadPlay : ev_ "BadPlay" = true := by kernel_rfl
@[simp] theorem ev_BadSheet : ev_ "BadSheet" = true := by kernel_rfl
@[simp] theorem ev_BadSong : ev_ "BadSong" = true := by kernel_rfl
@[simp] theorem ev_BadState : ev_ "BadState" = true := by kernel_rfl
@[simp] theorem ev_BoxError : ev_ "BoxError" = true := by kernel_rfl
@[simp] theorem ev_TooFar : ev_ "TooFar" = true := by kernel_rfl
@[simp] theorem kf_BadAddress_BadAddress : kf_ "BadAddress" (some "BadAddress") = some true := by kernel_rfl
@[simp] theorem kf_BadAddress_BadBreak : kf_ "BadAddress" (some "BadBreak") = some false := by kernel_rfl
@[simp] theorem kf_BadAddress_BadByte : kf_ "BadAddress" (some "BadByte") = some false := by kernel_rfl
@[simp] theorem kf_BadAddress_BadCart : kf_ "BadAddress" (some "BadCart") = some false := by kernel_rfl
@[simp] theorem kf_BadAddress_BadGame : kf_ "BadAddress" (some "BadGame") = some false := by kernel_rfl
@[simp] theorem kf_BadAddress_BadLine : kf_ "BadAddress" (some "BadLine") = some false := by kernel_rfl
@[simp] theorem kf_BadAddress_BadLoop : kf_ "BadAddress" (some "BadLoop") = some false := by kernel_rfl
@[simp] theorem kf_BadAddress_BadNumber : kf_ "BadAddress" (some "BadNumber") = some false := by kernel_rfl
@[simp] theorem kf_BadAddress_BadOrder : kf_ "BadAddress" (some "BadOrder") = some false := by kernel_rfl
@[simp] theorem kf_BadAddress_BadPlay : kf_ "BadAddress" (some "BadPlay") = some false := by kernel_rfl
@[simp] theorem kf_BadAddress_BadSheet : kf_ "BadAddress" (some "BadSheet") = some false := by kernel_rfl
@[simp] theorem kf_BadAddress_BadSong : kf_ "BadAddress" (some "BadSong") = some false := by kernel_rfl
@[simp] theorem kf_BadAddress_BadState : kf_ "BadAddress" (some "BadState") = some false := by kernel_rfl
@[simp] theorem kf_BadAddress_BoxError : kf_ "BadAddress" (some "BoxError") = some false := by kernel_rfl
@[simp] theorem kf_BadAddress_TooFar : kf_ "BadAddress" (some "TooFar") = some false := by kernel_rfl
@[simp] theorem kf_BadBreak_BadAddress : kf_ "BadBreak" (some "BadAddress") = some false := by kernel_rfl
@[simp] theorem kf_BadBreak_BadBreak : kf_ "BadBreak" (some "BadBreak") = some true := by kernel_rfl
@[simp] theorem kf_BadBreak_BadByte : kf_ "BadBreak" (some "BadByte") = some false := by kernel_rfl
@[simp] theorem kf_BadBreak_BadCart : kf_ "BadBreak" (some "BadCart") = some false := by kernel_rfl
@[simp] theorem kf_BadBreak_BadGame : kf_ "BadBreak" (some "BadGame") = some false := by kernel_rfl
@[simp] theorem kf_BadBreak_BadLine : kf_ "BadBreak" (some "BadLine") = some false := by kernel_rfl
@[simp] theorem kf_BadBreak_BadLoop : kf_ "BadBreak" (some "BadLoop") = some false := by kernel_rfl
@[simp] theorem kf_BadBreak_BadNumber : kf_ "BadBreak" (some "BadNumber") = some false := by kernel_rfl
@[simp] theorem kf_BadBreak_BadOrder : kf_ "BadBreak" (some "BadOrder") = some false := by kernel_rfl
@[simp] theorem kf_BadBreak_BadPlay : kf_ "BadBreak" (some "BadPlay") = some false := by kernel_rfl
@[simp] theorem kf_BadBreak_BadSheet : kf_ "BadBreak" (some "BadSheet") = some false := by kernel_rfl
@[simp] theorem kf_BadBreak_BadSong : kf_ "BadBreak" (some "BadSong") = some false := by kernel_rfl
@[simp] theorem kf_BadBreak_BadState : kf_ "BadBreak" (some "BadState") = some false := by kernel_rfl
@[simp] theorem kf_BadBreak_BoxError : kf_ "BadBreak" (some "BoxError") = some false := by kernel_rfl
@[simp] theorem kf_BadBreak_TooFar : kf_ "BadBreak" (some "TooFar") = some false := by kernel_rfl
@[simp] theorem kf_BadByte_BadAddress : kf_ "BadByte" (some "BadAddress") = some false := by kernel_rfl
@[simp] theorem kf_BadByte_BadBreak : kf_ "BadByte" (some "BadBreak") = some false := by kernel_rfl
@[simp] theorem kf_BadByte_BadByte : kf_ "BadByte" (some "BadByte") = some true := by kernel_rfl
@[simp] theorem kf_BadByte_BadCart : kf_ "BadByte" (some "BadCart") = some false := by kernel_rfl
@[simp] theorem kf_BadByte_BadGame : kf_ "BadByte" (some "BadGame") = some false := by kernel_rfl
@[simp] theorem kf_BadByte_BadLine : kf_ "BadByte" (some "BadLine") = some false := by kernel_rfl
@[simp] theorem kf_BadByte_BadLoop : kf_ "BadByte" (some "BadLoop") = some false := by kernel_rfl
@[simp] theorem kf_BadByte_BadNumber : kf_ "BadByte" (some "BadNumber") = some false := by kernel_rfl
@[simp] theorem kf_BadByte_BadOrder : kf_ "BadByte" (some "BadOrder") = some false := by kernel_rfl
@[simp] theorem kf_BadByte_BadPlay : kf_ "BadByte" (some "BadPlay") = some false := by kernel_rfl
@[simp] theorem kf_BadByte_BadSheet : kf_ "BadByte" (some "BadSheet") = some false := by kernel_rfl
@[simp] theorem kf_BadByte_BadSong : kf_ "BadByte" (some "BadSong") = some false := by kernel_rfl
@[simp] theorem kf_BadByte_BadState : kf_ "BadByte" (some "BadState") = some false := by kernel_rfl
@[simp] theorem kf_BadByte_BoxError : kf_ "BadByte" (some "BoxError") = some false := by kernel_rfl
@[simp] theorem kf_BadByte_TooFar : kf_ "BadByte" (some "TooFar") = some false := by kernel_rfl
@[simp] theorem kf_BadCart_BadAddress : kf_ "BadCart" (some "BadAddress") = some false := by kernel_rfl
@[simp] theorem kf_BadCart_BadBreak : kf_ "BadCart" (some "BadBreak") = some false := by kernel_rfl
@[simp] theorem kf_BadCart_BadByte : kf_ "BadCart" (some "BadByte") = some false := by kernel_rfl
@[simp] theorem kf_BadCart_BadCart : kf_ "BadCart" (some "BadCart") = some true := by kernel_rfl
@[simp] theorem kf_BadCart_BadGame : kf_ "BadCart" (some "BadGame") = some false := by kernel_rfl
@[simp] theorem kf_BadCart_BadLine : kf_ "BadCart" (some "BadLine") = some false := by kernel_rfl
@[simp] theorem kf_BadCart_BadLoop : kf_ "BadCart" (some "BadLoop") = some false := by kernel_rfl
@[simp] theorem kf_BadCart_BadNumber : kf_ "BadCart" (some "BadNumber") = some false := by kernel_rfl
@[simp] theorem kf_BadCart_BadOrder : kf_ "BadCart" (some "BadOrder") = some false := by kernel_rfl
@[simp] theorem kf_BadCart_BadPlay : kf_ "BadCart" (some "BadPlay") = some false := by kernel_rfl
@[simp] theorem kf_BadCart_BadSheet : kf_ "BadCart" (some "BadSheet") = some false := by kernel_rfl
@[simp] theorem kf_BadCart_BadSong : kf_ "BadCart" (some "BadSong") = some false := by kernel_rfl
@[simp] theorem kf_BadCart_BadState : kf_ "BadCart" (some "BadState") = some false := by kernel_rfl
@[simp] theorem kf_BadCart_BoxError : kf_ "BadCart" (some "BoxError") = some false := by kernel_rfl
@[simp] theorem kf_BadCart_TooFar : kf_ "BadCart" (some "TooFar") = some false := by kernel_rfl
@[simp] theorem kf_BadGame_BadAddress : kf_ "BadGame" (some "BadAddress") = some false := by kernel_rfl
@[simp] theorem kf_BadGame_BadBreak : kf_ "BadGame" (some "BadBreak") = some false := by kernel_rfl
@[simp] theorem kf_BadGame_BadByte : kf_ "BadGame" (some "BadByte") = some false := by kernel_rfl
@[simp] theorem kf_BadGame_BadCart : kf_ "BadGame" (some "BadCart") = some false := by kernel_rfl
@[simp] theorem kf_BadGame_BadGame : kf_ "BadGame" (some "BadGame") = some true := by kernel_rfl
@[simp] theorem kf_BadGame_BadLine : kf_ "BadGame" (some "BadLine") = some false := by kernel_rfl
@[simp] theorem kf_BadGame_BadLoop : kf_ "BadGame" (some "BadLoop") = some false := by kernel_rfl
@[simp] theorem kf_BadGame_BadNumber : kf_ "BadGame" (some "BadNumber") = some false := by kernel_rfl
@[simp] theorem kf_BadGame_BadOrder : kf_ "BadGame" (some "BadOrder") = some false := by kernel_rfl
@[simp] theorem kf_BadGame_BadPlay : kf_ "BadGame" (some "BadPlay") = some false := by kernel_rfl
@[simp] theorem kf_BadGame_BadSheet : kf_ "BadGame" (some "BadSheet") = some false := by kernel_rfl
@[simp] theorem kf_BadGame_BadSong : kf_ "BadGame" (some "BadSong") = some false := by kernel_rfl
@[simp] theorem kf_BadGame_BadState : kf_ "BadGame" (some "BadState") = some false := by kernel_rfl
@[simp] theorem kf_BadGame_BoxError : kf_ "BadGame" (some "BoxError") = some false := by kernel_rfl
@[simp] theorem kf_BadGame_TooFar : kf_ "BadGame" (some "TooFar") = some false := by kernel_rfl
@[simp] theorem kf_BadLine_BadAddress : kf_ "BadLine" (some "BadAddress") = some false := by kernel_rfl
@[simp] theorem kf_BadLine_BadBreak : kf_ "BadLine" (some "BadBreak") = some false := by kernel_rfl
@[simp] theorem kf_BadLine_BadByte : kf_ "BadLine" (some "BadByte") = some false := by kernel_rfl
@[simp] theorem kf_BadLine_BadCart : kf_ "BadLine" (some "BadCart") = some false := by kernel_rfl
@[simp] theorem kf_BadLine_BadGame : kf_ "BadLine" (some "BadGame") = some false := by kernel_rfl
@[simp] theorem kf_BadLine_BadLine : kf_ "BadLine" (some "BadLine") = some true := by kernel_rfl
@[simp] theorem kf_BadLine_BadLoop : kf_ "BadLine" (some "BadLoop") = some false := by kernel_rfl
@[simp] theorem kf_BadLine_BadNumber : kf_ "BadLine" (some "BadNumber") = some false := by kernel_rfl
@[simp] theorem kf_BadLine_BadOrder : kf_ "BadLine" (some "BadOrder") = some false := by kernel_rfl
@[simp] theorem kf_BadLine_BadPlay : kf_ "BadLine" (some "BadPlay") = some false := by kernel_rfl
@[simp] theorem kf_BadLine_BadSheet : kf_ "BadLine" (some "BadSheet") = some false := by kernel_rfl
@[simp] theorem kf_BadLine_BadSong : kf_ "BadLine" (some "BadSong") = some false := by kernel_rfl
@[simp] theorem kf_BadLine_BadState : kf_ "BadLine" (some "BadState") = some false := by kernel_rfl
@[simp] theorem kf_BadLine_BoxError : kf_ "BadLine" (some "BoxError") = some false := by kernel_rfl
@[simp] theorem kf_BadLine_TooFar : kf_ "BadLine" (some "TooFar") = some false := by kernel_rfl
@[simp] theorem kf_BadLoop_BadAddress : kf_ "BadLoop" (some "BadAddress") = some false := by kernel_rfl
@[simp] theorem kf_BadLoop_BadBreak : kf_ "BadLoop" (some "BadBreak") = some false := by kernel_rfl
@[simp] theorem kf_BadLoop_BadByte : kf_ "BadLoop" (some "BadByte") = some false := by kernel_rfl
@[simp] theorem kf_BadLoop_BadCart : kf_ "BadLoop" (some "BadCart") = some false := by kernel_rfl
@[simp] theorem kf_BadLoop_BadGame : kf_ "BadLoop" (some "BadGame") = some false := by kernel_rfl
@[simp] theorem kf_BadLoop_BadLine : kf_ "BadLoop" (some "BadLine") = some false := by kernel_rfl
@[simp] theorem kf_BadLoop_BadLoop : kf_ "BadLoop" (some "BadLoop") = some true := by kernel_rfl
@[simp] theorem kf_BadLoop_BadNumber : kf_ "BadLoop" (some "BadNumber") = some false := by kernel_rfl
@[simp] theorem kf_BadLoop_BadOrder : kf_ "BadLoop" (some "BadOrder") = some false := by kernel_rfl
@[simp] theorem kf_BadLoop_BadPlay : kf_ "BadLoop" (some "BadPlay") = some false := by kernel_rfl
@[simp] theorem kf_BadLoop_BadSheet : kf_ "BadLoop" (some "BadSheet") = some false := by kernel_rfl
@[simp] theorem kf_BadLoop_BadSong : kf_ "BadLoop" (some "BadSong") = some false := by kernel_rfl
@[simp] theorem kf_BadLoop_BadState : kf_ "BadLoop" (some "BadState") = some false := by kernel_rfl
@[simp] theorem kf_BadLoop_BoxError : kf_ "BadLoop" (some "BoxError") = some false := by kernel_rfl
@[simp] theorem kf_BadLoop_TooFar : kf_ "BadLoop" (some "TooFar") = some false := by kernel_rfl
@[simp] theorem kf_BadNumber_BadAddress : kf_ "BadNumber" (some "BadAddress") = some false := by kernel_rfl
@[simp] theorem kf_BadNumber_BadBreak : kf_ "BadNumber" (some "BadBreak") = some false := by kernel_rfl
@[simp] theorem kf_BadNumber_BadByte : kf_ "BadNumber" (some "BadByte") = some false := by kernel_rfl
@[simp] theorem kf_BadNumber_BadCart : kf_ "BadNumber" (some "BadCart") = some false := by kernel_rfl
@[simp] theorem kf_BadNumber_BadGame : kf_ "BadNumber" (some "BadGame") = some false := by kernel_rfl
@[simp] theorem kf_BadNumber_BadLine : kf_ "BadNumber" (some "BadLine") = some false := by kernel_rfl
@[simp] theorem kf_BadNumber_BadLoop : kf_ "BadNumber" (some "BadLoop") = some false := by kernel_rfl
@[simp] theorem kf_BadNumber_BadNumber : kf_ "BadNumber" (some "BadNumber") = some true := by kernel_rfl
@[simp] theorem kf_BadNumber_BadOrder : kf_ "BadNumber" (some "BadOrder") = some false := by kernel_rfl
@[simp] theorem kf_BadNumber_BadPlay : kf_ "BadNumber" (some "BadPlay") = some false := by kernel_rfl
@[simp] theorem kf_BadNumber_BadSheet : kf_ "BadNumber" (some "BadSheet") = some false := by kernel_rfl
@[simp] theorem kf_BadNumber_BadSong : kf_ "BadNumber" (some "BadSong") = some false := by kernel_rfl
@[simp] theorem kf_BadNumber_BadState : kf_ "BadNumber" (some "BadState") = some false := by kernel_rfl
@[simp] theorem kf_BadNumber_BoxError : kf_ "BadNumber" (some "BoxError") = some false := by kernel_rfl
@[simp] theorem kf_BadNumber_TooFar : kf_ "BadNumber" (some "TooFar") = some false := by kernel_rfl
@[simp] theorem kf_BadOrder_BadAddress : kf_ "BadOrder" (some "BadAddress") = some false := by kernel_rfl
@[simp] theorem kf_BadOrder_BadBreak : kf_ "BadOrder" (some "BadBreak") = some false := by kernel_rfl
@[simp] theorem kf_BadOrder_BadByte : kf_ "BadOrder" (some "BadByte") = some false := by kernel_rfl
@[simp] theorem kf_BadOrder_BadCart : kf_ "BadOrder" (some "BadCart") = some false := by kernel_rfl
@[simp] theorem kf_BadOrder_BadGame : kf_ "BadOrder" (some "BadGame") = some false := by kernel_rfl
@[simp] theorem kf_BadOrder_BadLine : kf_ "BadOrder" (some "BadLine") = some false := by kernel_rfl
@[simp] theorem kf_BadOrder_BadLoop : kf_ "BadOrder" (some "BadLoop") = some false := by kernel_rfl
@[simp] theorem kf_BadOrder_BadNumber : kf_ "BadOrder" (some "BadNumber") = some false := by kernel_rfl
@[simp] theorem kf_BadOrder_BadOrder : kf_ "BadOrder" (some "BadOrder") = some true := by kernel_rfl
@[simp] theorem kf_BadOrder_BadPlay : kf_ "BadOrder" (some "BadPlay") = some false := by kernel_rfl
@[simp] theorem kf_BadOrder_BadSheet : kf_ "BadOrder" (some "BadSheet") = some false := by kernel_rfl
@[simp] theorem kf_BadOrder_BadSong : kf_ "BadOrder" (some "BadSong") = some false := by kernel_rfl
@[simp] theorem kf_BadOrder_BadState : kf_ "BadOrder" (some "BadState") = some false := by kernel_rfl
@[simp] theorem kf_BadOrder_BoxError : kf_ "BadOrder" (some "BoxError") = some false := by kernel_rfl
@[simp] theorem kf_BadOrder_TooFar : kf_ "BadOrder" (some "TooFar") = some false := by kernel_rfl
@[simp] theorem kf_BadPlay_BadAddress : kf_ "BadPlay" (some "BadAddress") = some false := by kernel_rfl
@[simp] theorem kf_BadPlay_BadBreak : kf_ "BadPlay" (some "BadBreak") = some false := by kernel_rfl
@[simp] theorem kf_BadPlay_BadByte : kf_ "BadPlay" (some "BadByte") = some false := by kernel_rfl
@[simp] theorem kf_BadPlay_BadCart : kf_ "BadPlay" (some "BadCart") = some false := by kernel_rfl
@[simp] theorem kf_BadPlay_BadGame : kf_ "BadPlay" (some "BadGame") = some false := by kernel_rfl
@[simp] theorem kf_BadPlay_BadLine : kf_ "BadPlay" (some "BadLine") = some false := by kernel_rfl
@[simp] theorem kf_BadPlay_BadLoop : kf_ "BadPlay" (some "BadLoop") = some false := by kernel_rfl
@[simp] theorem kf_BadPlay_BadNumber : kf_ "BadPlay" (some "BadNumber") = some false := by kernel_rfl
@[simp] theorem kf_BadPlay_BadOrder : kf_ "BadPlay" (some "BadOrder") = some false := by kernel_rfl
@[simp] theorem kf_BadPlay_BadPlay : kf_ "BadPlay" (some "BadPlay") = some true := by kernel_rfl
@[simp] theorem kf_BadPlay_BadSheet : kf_ "BadPlay" (some "BadSheet") = some false := by kernel_rfl
@[simp] theorem kf_BadPlay_BadSong : kf_ "BadPlay" (some "BadSong") = some false := by kernel_rfl
@[simp] theorem kf_BadPlay_BadState : kf_ "BadPlay" (some "BadState") = some false := by kernel_rfl
@[simp] theorem kf_BadPlay_BoxError : kf_ "BadPlay" (some "BoxError") = some false := by kernel_rfl
@[simp] theorem kf_BadPlay_TooFar : kf_ "BadPlay" (some "TooFar") = some false := by kernel_rfl
@[simp] theorem kf_BadSheet_BadAddress : kf_ "BadSheet" (some "BadAddress") = some false := by kernel_rfl
@[simp] theorem kf_BadSheet_BadBreak : kf_ "BadSheet" (some "BadBreak") = some false := by kernel_rfl
@[simp] theorem kf_BadSheet_BadByte : kf_ "BadSheet" (some "BadByte") = some false := by kernel_rfl
@[simp] theorem kf_BadSheet_BadCart : kf_ "BadSheet" (some "BadCart") = some false := by kernel_rfl
@[simp] theorem kf_BadSheet_BadGame : kf_ "BadSheet" (some "BadGame") = some false := by kernel_rfl
@[simp] theorem kf_BadSheet_BadLine : kf_ "BadSheet" (some "BadLine") = some false := by kernel_rfl
@[simp] theorem kf_BadSheet_BadLoop : kf_ "BadSheet" (some "BadLoop") = some false := by kernel_rfl
@[simp] theorem kf_BadSheet_BadNumber : kf_ "BadSheet" (some "BadNumber") = some false := by kernel_rfl
@[simp] theorem kf_BadSheet_BadOrder : kf_ "BadSheet" (some "BadOrder") = some false := by kernel_rfl
@[simp] theorem kf_BadSheet_BadPlay : kf_ "BadSheet" (some "BadPlay") = some false := by kernel_rfl
@[simp] theorem kf_BadSheet_BadSheet : kf_ "BadSheet" (some "BadSheet") = some true := by kernel_rfl
@[simp] theorem kf_BadSheet_BadSong : kf_ "BadSheet" (some "BadSong") = some false := by kernel_rfl
@[simp] theorem kf_BadSheet_BadState : kf_ "BadSheet" (some "BadState") = some false := by kernel_rfl
@[simp] theorem kf_BadSheet_BoxError : kf_ "BadSheet" (some "BoxError") = some false := by kernel_rfl
@[simp] theorem kf_BadSheet_TooFar : kf_ "BadSheet" (some "TooFar") = some false := by kernel_rfl
@[simp] theorem kf_BadSong_BadAddress : kf_ "BadSong" (some "BadAddress") = some false := by kernel_rfl
@[simp] theorem kf_BadSong_BadBreak : kf_ "BadSong" (some "BadBreak") = some false := by kernel_rfl
@[simp] theorem kf_BadSong_BadByte : kf_ "BadSong" (some "BadByte") = some false := by kernel_rfl
@[simp] theorem kf_BadSong_BadCart : kf_ "BadSong" (some "BadCart") = some false := by kernel_rfl
@[simp] theorem kf_BadSong_BadGame : kf_ "BadSong" (some "BadGame") = some false := by kernel_rfl
@[simp] theorem kf_BadSong_BadLine : kf_ "BadSong" (some "BadLine") = some false := by kernel_rfl
@[simp] theorem kf_BadSong_BadLoop : kf_ "BadSong" (some "BadLoop") = some false := by kernel_rfl
@[simp] theorem kf_BadSong_BadNumber : kf_ "BadSong" (some "BadNumber") = some false := by kernel_rfl
@[simp] theorem kf_BadSong_BadOrder : kf_ "BadSong" (some "BadOrder") = some false := by kernel_rfl
@[simp] theorem kf_BadSong_BadPlay : kf_ "BadSong" (some "BadPlay") = some false := by kernel_rfl
@[simp] theorem kf_BadSong_BadSheet : kf_ "BadSong" (some "BadSheet") = some false := by kernel_rfl
@[simp] theorem kf_BadSong_BadSong : kf_ "BadSong" (some "BadSong") = some true := by kernel_rfl
@[simp] theorem kf_BadSong_BadState : kf_ "BadSong" (some "BadState") = some false := by kernel_rfl
@[simp] theorem kf_BadSong_BoxError : kf_ "BadSong" (some "BoxError") = some false := by kernel_rfl
@[simp] theorem kf_BadSong_TooFar : kf_ "BadSong" (some "TooFar") = some false := by kernel_rfl
@[simp] theorem kf_BadState_BadAddress : kf_ "BadState" (some "BadAddress") = some false := by kernel_rfl
@[simp] theorem kf_BadState_BadBreak : kf_ "BadState" (some "BadBreak") = some false := by kernel_rfl
@[simp] theorem kf_BadState_BadByte : kf_ "BadState" (some "BadByte") = some false := by kernel_rfl
@[simp] theorem kf_BadState_BadCart : kf_ "BadState" (some "BadCart") = some false := by kernel_rfl
@[simp] theorem kf_BadState_BadGame : kf_ "BadState" (some "BadGame") = some false := by kernel_rfl
@[simp] theorem kf_BadState_BadLine : kf_ "BadState" (some "BadLine") = some false := by kernel_rfl
@[simp] theorem kf_BadState_BadLoop : kf_ "BadState" (some "BadLoop") = some false := by kernel_rfl
@[simp] theorem kf_BadState_BadNumber : kf_ "BadState" (some "BadNumber") = some false := by kernel_rfl
@[simp] theorem kf_BadState_BadOrder : kf_ "BadState" (some "BadOrder") = some false := by kernel_rfl
@[simp] theorem kf_BadState_BadPlay : kf_ "BadState" (some "BadPlay") = some false := by kernel_rfl
@[simp] theorem kf_BadState_BadSheet : kf_ "BadState" (some "BadSheet") = some false := by kernel_rfl
@[simp] theorem kf_BadState_BadSong : kf_ "BadState" (some "BadSong") = some false := by kernel_rfl
@[simp] theorem kf_BadState_BadState : kf_ "BadState" (some "BadState") = some true := by kernel_rfl
@[simp] theorem kf_BadState_BoxError : kf_ "BadState" (some "BoxError") = some false := by kernel_rfl
@[simp] theorem kf_BadState_TooFar : kf_ "BadState" (some "TooFar") = some false := by kernel_rfl
@[simp] theorem kf_BoxError_BadAddress : kf_ "BoxError" (some "BadAddress") = some true := by kernel_rfl
@[simp] theorem kf_BoxError_BadBreak : kf_ "BoxError" (some "BadBreak") = some true := by kernel_rfl
@[simp] theorem kf_BoxError_BadByte : kf_ "BoxError" (some "BadByte") = some true := by kernel_rfl
@[simp] theorem kf_BoxError_BadCart : kf_ "BoxError" (some "BadCart") = some true := by kernel_rfl
@[simp] theorem kf_BoxError_BadGame : kf_ "BoxError" (some "BadGame") = some true := by kernel_rfl
@[simp] theorem kf_BoxError_BadLine : kf_ "BoxError" (some "BadLine") = some true := by kernel_rfl
@[simp] theorem kf_BoxError_BadLoop : kf_ "BoxError" (some "BadLoop") = some true := by kernel_rfl
@[simp] theorem kf_BoxError_BadNumber : kf_ "BoxError" (some "BadNumber") = some true := by kernel_rfl
@[simp] theorem kf_BoxError_BadOrder : kf_ "BoxError" (some "BadOrder") = some true := by kernel_rfl
@[simp] theorem kf_BoxError_BadPlay : kf_ "BoxError" (some "BadPlay") = some true := by kernel_rfl
@[simp] theorem kf_BoxError_BadSheet : kf_ "BoxError" (some "BadSheet") = some true := by kernel_rfl
@[simp] theorem kf_BoxError_BadSong : kf_ "BoxError" (some "BadSong") = some true := by kernel_rfl
@[simp] theorem kf_BoxError_BadState : kf_ "BoxError" (some "BadState") = some true := by kernel_rfl
@[simp] theorem kf_BoxError_BoxError : kf_ "BoxError" (some "BoxError") = some true := by kernel_rfl
@[simp] theorem kf_BoxError_TooFar : kf_ "BoxError" (some "TooFar") = some true := by kernel_rfl
@[simp] theorem kf_TooFar_BadAddress : kf_ "TooFar" (some "BadAddress") = some false := by kernel_rfl
@[simp] theorem kf_TooFar_BadBreak : kf_ "TooFar" (some "BadBreak") = some false := by kernel_rfl
@[simp] theorem kf_TooFar_BadByte : kf_ "TooFar" (some "BadByte") = some false := by kernel_rfl
@[simp] theorem kf_TooFar_BadCart : kf_ "TooFar" (some "BadCart") = some false := by kernel_rfl
@[simp] theorem kf_TooFar_BadGame : kf_ "TooFar" (some "BadGame") = some false := by kernel_rfl
@[simp] theorem kf_TooFar_BadLine : kf_ "TooFar" (some "BadLine") = some false := by kernel_rfl
@[simp] theorem kf_TooFar_BadLoop : kf_ "TooFar" (some "BadLoop") = some false := by kernel_rfl
@[simp] theorem kf_TooFar_BadNumber : kf_ "TooFar" (some "BadNumber") = some false := by kernel_rfl
@[simp] theorem kf_TooFar_BadOrder : kf_ "TooFar" (some "BadOrder") = some false := by kernel_rfl
@[simp] theorem kf_TooFar_BadPlay : kf_ "TooFar" (some "BadPlay") = some false := by kernel_rfl
@[simp] theorem kf_TooFar_BadSheet : kf_ "TooFar" (some "BadSheet") = some false := by kernel_rfl
@[simp] theorem kf_TooFar_BadSong : kf_ "TooFar" (some "BadSong") = some false := by kernel_rfl
@[simp] theorem kf_TooFar_BadState : kf_ "TooFar" (some "BadState") = some false := by kernel_rfl
@[simp] theorem kf_TooFar_BoxError : kf_ "TooFar" (some "BoxError") = some false := by kernel_rfl
@[simp] theorem kf_TooFar_TooFar : kf_ "TooFar" (some "TooFar") = some true := by kernel_rfl
@[simp] theorem kf_ValueError_BadAddress : kf_ "ValueError" (some "BadAddress") = some true := by kernel_rfl
@[simp] theorem kf_ValueError_BadBreak : kf_ "ValueError" (some "BadBreak") = some true := by kernel_rfl
@[simp] theorem kf_ValueError_BadByte : kf_ "ValueError" (some "BadByte") = some true := by kernel_rfl
@[simp] theorem kf_ValueError_BadCart : kf_ "ValueError" (some "BadCart") = some true := by kernel_rfl
@[simp] theorem kf_ValueError_BadGame : kf_ "ValueError" (some "BadGame") = some true := by kernel_rfl
@[simp] theorem kf_ValueError_BadLine : kf_ "ValueError" (some "BadLine") = some true := by kernel_rfl
@[simp] theorem kf_ValueError_BadLoop : kf_ "ValueError" (some "BadLoop") = some true := by kernel_rfl
@[simp] theorem kf_ValueError_BadNumber : kf_ "ValueError" (some "BadNumber") = some true := by kernel_rfl
@[simp] theorem kf_ValueError_BadOrder : kf_ "ValueError" (some "BadOrder") = some true := by kernel_rfl
@[simp] theorem kf_ValueError_BadPlay : kf_ "ValueError" (some "BadPlay") = some true := by kernel_rfl
@[simp] theorem kf_ValueError_BadSheet : kf_ "ValueError" (some "BadSheet") = some true := by kernel_rfl
@[simp] theorem kf_ValueError_BadSong : kf_ "ValueError" (some "BadSong") = some true := by kernel_rfl
@[simp] theorem kf_ValueError_BadState : kf_ "ValueError" (some "BadState") = some true := by kernel_rfl
@[simp] theorem kf_ValueError_BoxError : kf_ "ValueError" (some "BoxError") = some true := by kernel_rfl
@[simp] theorem kf_ValueError_TooFar : kf_ "ValueError" (some "TooFar") = some true := by kernel_rfl
@[simp] theorem kf_bool_int : kf_ "bool" none = some false := by kernel_rfl
@[simp] theorem kf_int_int : kf_ "int" none = some true := by kernel_rfl
def me0 (m c : Str) : Option Df := mt0.lookup (m, c)
def me1 (m c : Str) : Option Df := mt1.lookup (m, c)
def me2 (m c : Str) : Option Df := mt2.lookup (m, c)
def me3 (m c : Str) : Option Df := mt3.lookup (m, c)
def me4 (m c : Str) : Option Df := mt4.lookup (m, c)
def me5 (m c : Str) : Option Df := mt5.lookup (m, c)
/-- _law_draws(script, draws, k, rest, turn, stirred) -/
def c_u_law_draws : SM :=
  (sSeq (sAsg (xList true xNil) (tmName 1))
  (sSeq (sFor (xRange (xCons (xN (xCons (xPure (.int (63))) (xCons (xN (xCons (xVar 0) xNil) bLen) xNil)) bMin) xNil)) (tmName 2)
    (sSeq (sAsg (xN (xCons (x2 (xVar 0) (xVar 2) oIx) xNil) bAbs) (tmName 3))
    (sSeq (sIf (xAsB (x2 (xVar 3) (x2 (xPure (.int (10))) (xPure (.int (18))) oPow) oGe))
      (sSeq (sFor (xRange (xCons (xPure (.int (60))) xNil)) (tmName 4)
        (sSeq (sIf (xAsB (x2 (xVar 3) (xPure (.int (0))) oGt))
          (sSeq (sDrop (xAny (me0 "append") "append" (xVar 1) (xCons (x2 (xN (xCons (xVar 3) xNil) bInt) (xPure (.int (65536))) oMod) xNil)))
          (sSeq (sAsg (x2 (xVar 3) (xPure (.int (65536))) oFdiv) (tmName 3))
          sNx))
          sNx)
        sNx))
      sNx)
      (sSeq (sAsg (x2 (xN (xCons (x2 (x2 (xVar 3) (xPure (.int (48271))) (oMul false)) (x2 (x2 (xVar 2) (xPure (.int (1))) (oAdd false)) (xPure (.int (69621))) (oMul false)) (oAdd false)) xNil) bInt) (xPure (.int (2147483647))) oMod) (tmName 5))
      (sSeq (sAsg (x2 (xN (xCons (x2 (x2 (x2 (xVar 5) (xPure (.int (16807))) (oMul false)) (x2 (xPure (.int (11))) (xVar 2) (oMul false)) (oAdd false)) (xPure (.int (5))) (oAdd false)) xNil) bInt) (xPure (.int (2147483629))) oMod) (tmName 5))
      (sSeq (sDrop (xAny (me0 "append") "append" (xVar 1) (xCons (x2 (xN (xCons (xVar 5) xNil) bInt) (xPure (.int (65536))) oMod) xNil)))
      (sSeq (sDrop (xAny (me0 "append") "append" (xVar 1) (xCons (x2 (xN (xCons (x2 (xVar 5) (xPure (.int (65536))) oFdiv) xNil) bInt) (xPure (.int (32768))) oMod) xNil)))
      sNx)))))
    sNx)))
  (sSeq (sRet (xFrz 1))
  sNx)))
theorem k_u_law_draws : (sem fu).B C_u_law_draws (C8.fnBody (top 27)) = c_u_law_draws := by kernel_rfl
theorem d_u_law_draws : df_u_law_draws.run = runOf fu C_u_law_draws (C8.fnBody (top 27)) := by
  delta df_u_law_draws
  exact rfl
theorem e_u_law_draws : Runs df_u_law_draws.run 6 c_u_law_draws := runs_of d_u_law_draws (by kernel_rfl) k_u_law_draws
/-- _law_kinds(e) -/
def c_u_law_kinds : SM :=
  (sSeq (sRet (xList false (xCons (xIsi ev_ (kf_ "BadCart") (xVar 0)) (xCons (xIsi ev_ (kf_ "BadByte") (xVar 0)) (xCons (xIsi ev_ (kf_ "BadAddress") (xVar 0)) (xCons (xIsi ev_ (kf_ "BadLine") (xVar 0)) (xCons (xIsi ev_ (kf_ "TooFar") (xVar 0)) (xCons (xIsi ev_ (kf_ "BadSheet") (xVar 0)) (xCons (xIsi ev_ (kf_ "BadNumber") (xVar 0)) (xCons (xIsi ev_ (kf_ "BadState") (xVar 0)) (xCons (xIsi ev_ (kf_ "BadPlay") (xVar 0)) (xCons (xIsi ev_ (kf_ "BadBreak") (xVar 0)) (xCons (xIsi ev_ (kf_ "BadOrder") (xVar 0)) (xCons (xIsi ev_ (kf_ "BadSong") (xVar 0)) (xCons (xIsi ev_ (kf_ "BadLoop") (xVar 0)) (xCons (xIsi ev_ (kf_ "BadGame") (xVar 0)) xNil))))))))))))))))
  sNx)
theorem k_u_law_kinds : (sem fu).B C_u_law_kinds (C8.fnBody (top 29)) = c_u_law_kinds := by kernel_rfl
theorem d_u_law_kinds : df_u_law_kinds.run = runOf fu C_u_law_kinds (C8.fnBody (top 29)) := by
  delta df_u_law_kinds
  exact rfl
theorem e_u_law_kinds : Runs df_u_law_kinds.run 1 c_u_law_kinds := runs_of d_u_law_kinds (by kernel_rfl) k_u_law_kinds
/-- _law_made(n) -/
def c_u_law_made : SM :=
  (sSeq (sRet (xList false (xCons (xMkV "BadCart" (xCons (x2 (xVar 0) (xPure (.int (0))) (oAdd false)) xNil)) (xCons (xMkV "BadByte" (xCons (x2 (xVar 0) (xPure (.int (1))) (oAdd false)) xNil)) (xCons (xMkV "BadAddress" (xCons (x2 (xVar 0) (xPure (.int (2))) (oAdd false)) xNil)) (xCons (xMkV "BadLine" (xCons (x2 (xVar 0) (xPure (.int (3))) (oAdd false)) xNil)) (xCons (xMkV "TooFar" (xCons (x2 (xVar 0) (xPure (.int (4))) (oAdd false)) xNil)) (xCons (xMkV "BadSheet" (xCons (x2 (xVar 0) (xPure (.int (5))) (oAdd false)) xNil)) (xCons (xMkV "BadNumber" (xCons (x2 (xVar 0) (xPure (.int (6))) (oAdd false)) xNil)) (xCons (xMkV "BadState" (xCons (x2 (xVar 0) (xPure (.int (7))) (oAdd false)) xNil)) (xCons (xMkV "BadPlay" (xCons (x2 (xVar 0) (xPure (.int (8))) (oAdd false)) xNil)) (xCons (xMkV "BadBreak" (xCons (x2 (xVar 0) (xPure (.int (9))) (oAdd false)) xNil)) (xCons (xMkV "BadOrder" (xCons (x2 (xVar 0) (xPure (.int (10))) (oAdd false)) xNil)) (xCons (xMkV "BadSong" (xCons (x2 (xVar 0) (xPure (.int (11))) (oAdd false)) xNil)) (xCons (xMkV "BadLoop" (xCons (x2 (xVar 0) (xPure (.int (12))) (oAdd false)) xNil)) (xCons (xMkV "BadGame" (xCons (x2 (xVar 0) (xPure (.int (13))) (oAdd false)) xNil)) xNil))))))))))))))))
  sNx)
theorem k_u_law_made : (sem fu).B C_u_law_made (C8.fnBody (top 30)) = c_u_law_made := by kernel_rfl
theorem d_u_law_made : df_u_law_made.run = runOf fu C_u_law_made (C8.fnBody (top 30)) := by
  delta df_u_law_made
  exact rfl
theorem e_u_law_made : Runs df_u_law_made.run 1 c_u_law_made := runs_of d_u_law_made (by kernel_rfl) k_u_law_made
/-- _law_mix(draws, k, many, cell) -/
def c_u_law_mix : SM :=
  (sSeq (sAsg (xPure (.int (0))) (tmName 3))
  (sSeq (sIf (xAsB (x2 (xN (xCons (xVar 0) xNil) bLen) (xPure (.int (0))) oGt))
    (sSeq (sAsg (x2 (xVar 0) (x2 (xN (xCons (xVar 1) xNil) bInt) (xN (xCons (xVar 0) xNil) bLen) oMod) oIx) (tmName 3))
    sNx)
    sNx)
  (sSeq (sIf (xAsB (x2 (xVar 1) (xN (xCons (xVar 0) xNil) bLen) oLt))
    (sSeq (sRet (x2 (xN (xCons (xVar 3) xNil) bInt) (xVar 2) oMod))
    sNx)
    sNx)
  (sSeq (sRet (x2 (xN (xCons (x2 (xN (xCons (x2 (x2 (xVar 3) (xPure (.int (7919))) (oMul false)) (x2 (xVar 1) (xPure (.int (104729))) (oMul false)) (oAdd false)) xNil) bInt) (xPure (.int (3))) oFdiv) xNil) bInt) (xVar 2) oMod))
  sNx))))
theorem k_u_law_mix : (sem fu).B C_u_law_mix (C8.fnBody (top 28)) = c_u_law_mix := by kernel_rfl
theorem d_u_law_mix : df_u_law_mix.run = runOf fu C_u_law_mix (C8.fnBody (top 28)) := by
  delta df_u_law_mix
  exact rfl
theorem e_u_law_mix : Runs df_u_law_mix.run 4 c_u_law_mix := runs_of d_u_law_mix (by kernel_rfl) k_u_law_mix
/-- check_byte(byte) -/
def c_check_byte : SM :=
  (sSeq (sIf (xNot (xAsB (xChain oLe oLe (xPure (.int (0))) (xVar 0) (xPure (.int (255))))))
    (sSeq (sRaise "BadByte" (xCons (xVar 0) xNil))
    sNx)
    sNx)
  sNx)
theorem k_check_byte : (sem fu).B C_check_byte (C8.fnBody (top 23)) = c_check_byte := by kernel_rfl
theorem d_check_byte : df_check_byte.run = runOf fu C_check_byte (C8.fnBody (top 23)) := by
  delta df_check_byte
  exact rfl
theorem e_check_byte : Runs df_check_byte.run 1 c_check_byte := runs_of d_check_byte (by kernel_rfl) k_check_byte
/-- sign_of(name) -/
def c_sign_of : SM :=
  (sSeq (sRet (xIf (xAsB (x2 (xPure (.str " ")) (xVar 0) (oInX false))) (x2 (xAny (me0 "split") "split" (xVar 0) (xCons (xPure (.str " ")) xNil)) (xPure (.int (1))) oIx) (xPure (.str ""))))
  sNx)
theorem k_sign_of : (sem fu).B C_sign_of (C8.fnBody (top 22)) = c_sign_of := by kernel_rfl
theorem d_sign_of : df_sign_of.run = runOf fu C_sign_of (C8.fnBody (top 22)) := by
  delta df_sign_of
  exact rfl
theorem e_sign_of : Runs df_sign_of.run 1 c_sign_of := runs_of d_sign_of (by kernel_rfl) k_sign_of
/-- length_by(name) -/
def c_length_by : SM :=
  (sSeq (sIf (xAsB (x2 (xVar 0) (xPure (.tup [(.str "beq"), (.str "bne"), (.str "bcs"), (.str "bcc"), (.str "bmi"), (.str "bpl")])) (oInX false)))
    (sSeq (sRet (xPure (.int (2))))
    sNx)
    sNx)
  (sSeq (sRet (x2 (xAny (me1 "get") "get" xBad (xCons (xCall 1 df_sign_of.run (xCons (xVar 0) xNil)) (xCons (xTup (xCons (xPure (.int (1))) (xCons (xPure (.int (2))) xNil))) xNil))) (xPure (.int (0))) oIx))
  sNx))
theorem k_length_by : (sem fu).B C_length_by (C8.fnBody (top 24)) = c_length_by := by kernel_rfl
theorem d_length_by : df_length_by.run = runOf fu C_length_by (C8.fnBody (top 24)) := by
  delta df_length_by
  exact rfl
theorem e_length_by : Runs df_length_by.run 1 c_length_by := runs_of d_length_by (by kernel_rfl) k_length_by
/-- name_of(byte) -/
def c_name_of : SM :=
  (sSeq (sRet (xIf (xAsB (x2 (xVar 0) (xN (xCons (xPure (.tup [(.str "hlt"), (.str "nop"), (.str "lda #"), (.str "lda @"), (.str "lda @x"), (.str "lda ()y"), (.str "ldx #"), (.str "ldx @"), (.str "ldy #"), (.str "ldy @"), (.str "sta @"), (.str "sta @x"), (.str "sta ()y"), (.str "stx @"), (.str "sty @"), (.str "tax"), (.str "tay"), (.str "txa"), (.str "tya"), (.str "add #"), (.str "add @"), (.str "add @x"), (.str "sub #"), (.str "sub @"), (.str "sub @x"), (.str "and #"), (.str "and @"), (.str "ior #"), (.str "ior @"), (.str "xor #"), (.str "xor @"), (.str "cmp #"), (.str "cmp @"), (.str "cmp @x"), (.str "cpx #"), (.str "cpy #"), (.str "inc @"), (.str "dec @"), (.str "inx"), (.str "iny"), (.str "dex"), (.str "dey"), (.str "shl"), (.str "shr"), (.str "jmp @"), (.str "jsr @"), (.str "rts"), (.str "rti"), (.str "beq"), (.str "bne"), (.str "bcs"), (.str "bcc"), (.str "bmi"), (.str "bpl"), (.str "pha"), (.str "pla"), (.str "clc"), (.str "sec"), (.str "cli"), (.str "sei")])) xNil) bLen) oLt)) (x2 (xPure (.tup [(.str "hlt"), (.str "nop"), (.str "lda #"), (.str "lda @"), (.str "lda @x"), (.str "lda ()y"), (.str "ldx #"), (.str "ldx @"), (.str "ldy #"), (.str "ldy @"), (.str "sta @"), (.str "sta @x"), (.str "sta ()y"), (.str "stx @"), (.str "sty @"), (.str "tax"), (.str "tay"), (.str "txa"), (.str "tya"), (.str "add #"), (.str "add @"), (.str "add @x"), (.str "sub #"), (.str "sub @"), (.str "sub @x"), (.str "and #"), (.str "and @"), (.str "ior #"), (.str "ior @"), (.str "xor #"), (.str "xor @"), (.str "cmp #"), (.str "cmp @"), (.str "cmp @x"), (.str "cpx #"), (.str "cpy #"), (.str "inc @"), (.str "dec @"), (.str "inx"), (.str "iny"), (.str "dex"), (.str "dey"), (.str "shl"), (.str "shr"), (.str "jmp @"), (.str "jsr @"), (.str "rts"), (.str "rti"), (.str "beq"), (.str "bne"), (.str "bcs"), (.str "bcc"), (.str "bmi"), (.str "bpl"), (.str "pha"), (.str "pla"), (.str "clc"), (.str "sec"), (.str "cli"), (.str "sei")])) (xVar 0) oIx) (xPure (.str "nop"))))
  sNx)
theorem k_name_of : (sem fu).B C_name_of (C8.fnBody (top 21)) = c_name_of := by kernel_rfl
theorem d_name_of : df_name_of.run = runOf fu C_name_of (C8.fnBody (top 21)) := by
  delta df_name_of
  exact rfl
theorem e_name_of : Runs df_name_of.run 1 c_name_of := runs_of d_name_of (by kernel_rfl) k_name_of
/-- length_of(byte) -/
def c_length_of : SM :=
  (sSeq (sDrop (xCall 1 df_check_byte.run (xCons (xVar 0) xNil)))
  (sSeq (sRet (xCall 1 df_length_by.run (xCons (xCall 1 df_name_of.run (xCons (xVar 0) xNil)) xNil)))
  sNx))
theorem k_length_of : (sem fu).B C_length_of (C8.fnBody (top 25)) = c_length_of := by kernel_rfl
theorem d_length_of : df_length_of.run = runOf fu C_length_of (C8.fnBody (top 25)) := by
  delta df_length_of
  exact rfl
theorem e_length_of : Runs df_length_of.run 1 c_length_of := runs_of d_length_of (by kernel_rfl) k_length_of
/-- _law_raised(many, e) -/
def c_u_law_raised : SM :=
  (sSeq (sTryR exm_ ev_
    (sSeq (sDrop (xCall 1 df_length_of.run (xCons (xVar 0) xNil)))
    sNx) 1 "BoxError")
  (sSeq (sRet (xPure .non))
  sNx))
theorem k_u_law_raised : (sem fu).B C_u_law_raised (C8.fnBody (top 31)) = c_u_law_raised := by kernel_rfl
theorem d_u_law_raised : df_u_law_raised.run = runOf fu C_u_law_raised (C8.fnBody (top 31)) := by
  delta df_u_law_raised
  exact rfl
theorem e_u_law_raised : Runs df_u_law_raised.run 2 c_u_law_raised := runs_of d_u_law_raised (by kernel_rfl) k_u_law_raised
/-- law(script, draws, number, made, k, base, many, told, t) -/
def c_law_b1 : SM :=
  (sSeq (sIf (xOr (xNot (xTru (xIsi ev_ (kf_ "BoxError") (x2 (xVar 3) (xVar 4) oIx)))) (xOr (xNot (xTru (xIsi ev_ (kf_ "ValueError") (x2 (xVar 3) (xVar 4) oIx)))) (xAsB (x2 (xAt ev_ (x2 (xVar 3) (xVar 4) oIx)) (x2 (xVar 2) (xVar 4) (oAdd false)) oNe))))
    (sSeq (sRet (xPure (.bl false)))
    sNx)
    sNx)
  (sSeq (sIf (xAsB (x2 (xCall 1 df_u_law_kinds.run (xCons (x2 (xVar 3) (xVar 4) oIx) xNil)) (xLc false (xRange (xCons (xN (xCons (xVar 3) xNil) bLen) xNil)) (tmName 8) (xPure true) (x2 (xVar 8) (xVar 4) oEq) [8]) oNe))
    (sSeq (sRet (xPure (.bl false)))
    sNx)
    sNx)
  (sSeq (sIf (xOr (xTru (xIsi ev_ (kf_ "bool") (xAt ev_ (x2 (xVar 3) (xVar 4) oIx)))) (xNot (xTru (xIsi ev_ (kf_ "int") (xAt ev_ (x2 (xVar 3) (xVar 4) oIx))))))
    (sSeq (sRet (xPure (.bl false)))
    sNx)
    sNx)
  sNx)))
def c_law : SM :=
  (sSeq (sAsg (xCall 1 df_u_law_draws.run (xCons (xVar 0) xNil)) (tmName 1))
  (sSeq (sAsg (x2 (xCall 3 df_u_law_mix.run (xCons (xVar 1) (xCons (xPure (.int (0))) (xCons (xPure (.int (60000))) xNil)))) (xPure (.int (30000))) oSub) (tmName 2))
  (sSeq (sAsg (xCall 1 df_u_law_made.run (xCons (xVar 2) xNil)) (tmName 3))
  (sSeq (sFor (xRange (xCons (xN (xCons (xVar 3) xNil) bLen) xNil)) (tmName 4)
    c_law_b1)
  (sSeq (sAsg (xMkV "BoxError" (xCons (xVar 2) xNil)) (tmName 5))
  (sSeq (sIf (xOr (xAsB (x2 (xAt ev_ (xVar 5)) (xVar 2) oNe)) (xOr (xAsB (x2 (xPure (.bl true)) (xCall 1 df_u_law_kinds.run (xCons (xVar 5) xNil)) (oInX false))) (xNot (xTru (xIsi ev_ (kf_ "ValueError") (xVar 5))))))
    (sSeq (sRet (xPure (.bl false)))
    sNx)
    sNx)
  (sSeq (sAsg (x2 (xList false (xCons (x1 (xPure (.int (1))) negD) (xCons (xPure (.int (256))) (xCons (xPure (.int (999))) (xCons (x1 (xPure (.int (30))) negD) xNil))))) (xCall 3 df_u_law_mix.run (xCons (xVar 1) (xCons (xPure (.int (1))) (xCons (xPure (.int (4))) xNil)))) oIx) (tmName 6))
  (sSeq (sAsg (xCall 1 df_u_law_raised.run (xCons (xVar 6) xNil)) (tmName 7))
  (sSeq (sRet (xLog false (x2 (xVar 7) (xPure .non) (oIs true)) (xLog false (x2 (xAt ev_ (xVar 7)) (xVar 6) oEq) (x2 (xCall 1 df_u_law_kinds.run (xCons (xVar 7) xNil)) (xLc false (xRange (xCons (xN (xCons (xVar 3) xNil) bLen) xNil)) (tmName 8) (xPure true) (x2 (xVar 8) (xPure (.int (1))) oEq) [8]) oEq))))
  sNx)))))))))
theorem k_law : (sem fu).B C_law (C8.fnBody (top 32)) = c_law := by kernel_rfl
theorem d_law : df_law.run = runOf fu C_law (C8.fnBody (top 32)) := by
  delta df_law
  exact rfl
theorem e_law : Runs df_law.run 9 c_law := runs_of d_law (by kernel_rfl) k_law
@[simp] theorem oLt_e : oLt = oI (fun _ _ => true) fun i j => .bl (decide (i < j)) := (rfl)
@[simp] theorem oLe_e : oLe = oI (fun _ _ => true) fun i j => .bl (decide (i ≤ j)) := (rfl)
@[simp] theorem oGt_e : oGt = oI (fun _ _ => true) fun i j => .bl (decide (j < i)) := (rfl)
@[simp] theorem oGe_e : oGe = oI (fun _ _ => true) fun i j => .bl (decide (j ≤ i)) := (rfl)
theorem mixR {L : List Int} {k m : Int} {st : Store} (hm : m ≠ 0) : df_u_law_mix.run [.lst (L.map .int), .int k, .int m] st = .ok (.int (mixI L k m), st) := mix_run (by exact e_u_law_mix) hm
theorem drawsR {ns : List Int} {st : Store} (hl : ns.length ≤ 63) : ∃ L : List Int, df_u_law_draws.run [.scr (ns.map .int)] st = .ok (.lst (L.map .int), st ++ [.dead]) ∧ L.length ≤ 3780 ∧ Words L := draws_run (mt := me0 "append") (by exact e_u_law_draws) hl
end G

set_option maxHeartbeats 400000
namespace G
open PySem PySem.Spec PyProof.Rows L2 Mi
abbrev inL (B : List Int) : DV := .lst (B.map .int)
theorem sl_val : sizeLine = 16777216 := rfl
theorem sl_le {n : Nat} (h : n ≤ 100000) : n ≤ sizeLine := by rw [sl_val]; omega
theorem rr_ex {r : Res (DV × Store)} {P : DV → Store → Prop} (h : RR r P fun _ _ _ => False) : ∃ d s, r = .ok (d, s) ∧ P d s := by
  cases r with
  | ok q => exact ⟨q.1, q.2, rfl, h⟩
  | exc c v ρ s => exact h.elim
  | bad => exact h.elim
/-! ### the classes, by their place -/
def nm (i : Nat) : Str := match i with
  | 0 => "BadCart" | 1 => "BadByte" | 2 => "BadAddress" | 3 => "BadLine" | 4 => "TooFar" | 5 => "BadSheet" | 6 => "BadNumber" | 7 => "BadState"
  | 8 => "BadPlay" | 9 => "BadBreak" | 10 => "BadOrder" | 11 => "BadSong" | 12 => "BadLoop" | 13 => "BadGame" | _ => "BoxError"
/-- which of the fourteen -/
def knD (i : Nat) : List DV := [.bl (i == 0), .bl (i == 1), .bl (i == 2), .bl (i == 3), .bl (i == 4), .bl (i == 5), .bl (i == 6), .bl (i == 7), .bl (i == 8), .bl (i == 9), .bl (i == 10), .bl (i == 11), .bl (i == 12), .bl (i == 13)]
def mdD (n : Int) : List DV := [.exn "BadCart" (.int n), .exn "BadByte" (.int (n + 1)), .exn "BadAddress" (.int (n + 2)), .exn "BadLine" (.int (n + 3)), .exn "TooFar" (.int (n + 4)), .exn "BadSheet" (.int (n + 5)),
  .exn "BadNumber" (.int (n + 6)), .exn "BadState" (.int (n + 7)), .exn "BadPlay" (.int (n + 8)), .exn "BadBreak" (.int (n + 9)), .exn "BadOrder" (.int (n + 10)), .exn "BadSong" (.int (n + 11)), .exn "BadLoop" (.int (n + 12)), .exn "BadGame" (.int (n + 13))]
theorem lt15 {i : Nat} (h : i < 15) : i = 0 ∨ i = 1 ∨ i = 2 ∨ i = 3 ∨ i = 4 ∨ i = 5 ∨ i = 6 ∨ i = 7 ∨ i = 8 ∨ i = 9 ∨ i = 10 ∨ i = 11 ∨ i = 12 ∨ i = 13 ∨ i = 14 := by omega
theorem lt14 {i : Nat} (h : i < 14) : i = 0 ∨ i = 1 ∨ i = 2 ∨ i = 3 ∨ i = 4 ∨ i = 5 ∨ i = 6 ∨ i = 7 ∨ i = 8 ∨ i = 9 ∨ i = 10 ∨ i = 11 ∨ i = 12 ∨ i = 13 := by omega
theorem kindsR {i : Nat} {v : DV} {st : Store} (h : i < 15) : df_u_law_kinds.run [.exn (nm i) v] st = .ok (.lst (knD i), st) := by
  refine rr_eq (e_u_law_kinds _ st _ _ ?_)
  unfold c_u_law_kinds
  rcases lt15 h with h | h | h | h | h | h | h | h | h | h | h | h | h | h | h <;> subst h <;> simp [nm] <;> exact ⟨sl_le (by decide), rfl⟩
theorem madeR {n : Int} {st : Store} : df_u_law_made.run [.int n] st = .ok (.lst (mdD n), st) := by
  refine rr_eq (e_u_law_made _ st _ _ ?_)
  unfold c_u_law_made
  simp
  exact ⟨sl_le (by decide), rfl⟩
theorem md_at {n : Int} {i : Nat} (h : i < 14) : atI (mdD n) (i : Int) = some (.exn (nm i) (.int (n + i))) := by
  rcases lt14 h with h | h | h | h | h | h | h | h | h | h | h | h | h | h <;> subst h <;> first | rfl | (rw [show n + ((0 : Nat) : Int) = n from by simp]; rfl)
theorem kn_ne {i : Nat} {st : Store} (h : i < 15) : oNe (.lst (knD i)) (.lst (knD i)) st = some (.bl false, st) := by
  rcases lt15 h with h | h | h | h | h | h | h | h | h | h | h | h | h | h | h <;> subst h <;> rfl
theorem kn_eq {i : Nat} {st : Store} (h : i < 15) : oEq (.lst (knD i)) (.lst (knD i)) st = some (.bl true, st) := by
  rcases lt15 h with h | h | h | h | h | h | h | h | h | h | h | h | h | h | h <;> subst h <;> rfl
theorem kn_in {st : Store} : oInX false (.bl true) (.lst (knD 14)) st = some (.bl false, st) := by rfl
end G

set_option maxHeartbeats 400000
namespace G
open PySem PySem.Spec PyProof.Rows L2 Mi
theorem nm_ev {i : Nat} (h : i < 15) : ev_ (nm i) = true := by
  rcases lt15 h with h | h | h | h | h | h | h | h | h | h | h | h | h | h | h <;> subst h <;> simp [nm]
theorem nm_box {i : Nat} (h : i < 15) : kf_ "BoxError" (some (nm i)) = some true := by
  rcases lt15 h with h | h | h | h | h | h | h | h | h | h | h | h | h | h | h <;> subst h <;> simp [nm]
theorem nm_val {i : Nat} (h : i < 15) : kf_ "ValueError" (some (nm i)) = some true := by
  rcases lt15 h with h | h | h | h | h | h | h | h | h | h | h | h | h | h | h <;> subst h <;> simp [nm]
@[simp] theorem exm_bx : exm_ (Str.ofString "BadByte") (Str.ofString "BoxError") = some true := by decide +kernel
/-- t == k, place by place -/
def eqD (k : Int) : DV → DV
  | .int t => .bl (decide (t = k))
  | d => d
theorem kn_map {i : Nat} (h : i < 14) : ((List.range 14).map fun j : Nat => DV.int (j : Int)).map (eqD (i : Int)) = knD i := by
  rcases lt14 h with h | h | h | h | h | h | h | h | h | h | h | h | h | h <;> subst h <;> rfl
section
variable {ns L : List Int} {n : Int} {st : Store} {Q : Fl → Ev → Store → Prop} {E : EQ}
abbrev LE (ns L : List Int) (n : Int) (x4 x5 x6 x7 : Option DV) : Ev := [some (.scr (ns.map .int)), some (inL L), some (.int n), some (.lst (mdD n)), x4, x5, x6, x7, none]
theorem mdlen : (mdD n).length = 14 := rfl
theorem body_ok {i : Nat} (h : i < 14) (hQ : Q .nx (LE ns L n (some (.int i)) none none none) st) : SR (c_law_b1 (LE ns L n (some (.int (i : Int))) none none none) st) Q E := by
  have h5 : i < 15 := by omega
  unfold c_law_b1
  simp [md_at h, nm_ev h5, nm_box h5, nm_val h5, kindsR h5, mdlen]
  refine ⟨by kernel_rfl, ?_⟩
  refine lcgo_map (eqD (i : Int)) (by simp [srcLen]) (sl_le (by simp)) (fun v hv => ?_) ?_
  · simp at hv
    obtain ⟨a, ha, rfl⟩ := hv
    simp [wipeD, eqD]
  · rw [List.reverse_reverse, kn_map h, kn_ne h5]
    simp
    exact hQ
def LI (ns L : List Int) (n : Int) (s0 : Store) (ρ : Ev) (s : Store) : Prop := (∃ x4, ρ = LE ns L n x4 none none none) ∧ s = s0
theorem loop_ok {Q : Fl → Ev → Store → Prop} (hQ : ∀ x4, Q .nx (LE ns L n x4 none none none) st) {x4 : Option DV} :
    SR (sLoop (.vals ((List.range 14).map fun j : Nat => DV.int (j : Int))) (tmName 4) c_law_b1 15 0 (LE ns L n x4 none none none) st) Q E := by
  refine loop_vals (fun _ => LI ns L n st) (fun i d ρ s hd hI => ?_) (fun ρ s hI => ?_) 14 0 _ _ (by simp) ⟨⟨_, rfl⟩, rfl⟩
  · obtain ⟨⟨y, rfl⟩, rfl⟩ := hI
    have hi : i < 14 := by
      have h1 := (List.getElem?_eq_some_iff.1 hd).1
      simpa using h1
    have hd2 : d = .int (i : Int) := by
      rw [List.getElem?_map, List.getElem?_range hi] at hd
      exact (Option.some.inj hd).symm
    subst hd2
    simp
    exact body_ok hi ⟨⟨_, rfl⟩, rfl⟩
  · obtain ⟨⟨y, rfl⟩, rfl⟩ := hI
    exact hQ y
theorem raisedR {b : Int} (h : ¬ (0 ≤ b ∧ b ≤ 255)) : df_u_law_raised.run [.int b] st = .ok (.exn "BadByte" (.int b), st) := by
  refine rr_eq (e_u_law_raised _ st _ _ ?_)
  unfold c_u_law_raised
  simp
  generalize hds : ([.int b] : List DV) = ds
  refine e_length_of ds _ _ _ ?_
  subst hds
  unfold c_length_of
  simp
  generalize hds : ([.int b] : List DV) = ds
  refine e_check_byte ds _ _ _ ?_
  subst hds
  unfold c_check_byte
  by_cases c0 : 0 ≤ b
  · have c1 : ¬ b ≤ 255 := fun z => h ⟨c0, z⟩
    simp [c0, c1, exm_bx]
  · simp [c0, exm_bx]
theorem oqO {v : V2} {x y : DV} {d : DV} {s s' : Store} {P : DV → Store → Prop} (h : v x y s = some (d, s')) : OQ (v x y s) P = P d s' := by rw [h]; rfl
theorem kindsB {v : DV} {st : Store} : df_u_law_kinds.run [.exn "BoxError" v] st = .ok (.lst (knD 14), st) := kindsR (i := 14) (by decide)
theorem kinds1 {v : DV} {st : Store} : df_u_law_kinds.run [.exn "BadByte" v] st = .ok (.lst (knD 1), st) := kindsR (i := 1) (by decide)
theorem many_at {j : Int} (h0 : 0 ≤ j) (h1 : j < 4) : ∃ b : Int, ¬ (0 ≤ b ∧ b ≤ 255) ∧ atI [DV.int (-1), .int 256, .int 999, .int (-30)] j = some (.int b) := by
  have h : j = 0 ∨ j = 1 ∨ j = 2 ∨ j = 3 := by omega
  rcases h with h | h | h | h <;> subst h
  · exact ⟨-1, by decide, rfl⟩
  · exact ⟨256, by decide, rfl⟩
  · exact ⟨999, by decide, rfl⟩
  · exact ⟨-30, by decide, rfl⟩
theorem law_code (ns : List Int) (hl : ns.length ≤ 63) : RR (df_law.run [.scr (ns.map .int)] []) (fun d _ => d = .bl true) (fun _ _ _ => False) := by
  generalize hds : ([.scr (ns.map .int)] : List DV) = ds
  refine e_law ds [] _ _ ?_
  subst hds
  obtain ⟨L, hd, hLl, hLw⟩ := drawsR (st := []) hl
  unfold c_law
  simp [hd, mixR (m := 60000) (by decide), madeR, mdlen]
  generalize mixI L 0 60000 - 30000 = n
  refine ⟨by kernel_rfl, loop_ok fun x4 => ?_⟩
  simp [kindsB, oqO kn_in, negD, sl_le (n := 4) (by decide), mixR (m := 4) (by decide)]
  have k0 := mixI_nn L 1 (m := 4) (by decide)
  have k1 := mixI_lt L 1 (m := 4) (by decide)
  obtain ⟨b, hb, e⟩ := many_at k0 k1
  simp [e, raisedR hb, kinds1, mdlen, show Mi.isNon (DV.exn (Str.ofString "BadByte") (DV.int b)) = false from rfl]
  refine ⟨by kernel_rfl, ?_⟩
  refine lcgo_map (eqD 1) (by simp [srcLen]) (sl_le (by simp)) (fun v hv => ?_) ?_
  · simp at hv
    obtain ⟨a, ha, rfl⟩ := hv
    simp [wipeD, eqD]
  · rw [List.reverse_reverse, show ((List.range 14).map fun j : Nat => DV.int (j : Int)).map (eqD 1) = knD 1 from kn_map (i := 1) (by decide), kn_eq (by decide)]
    rfl
end
end G

set_option maxHeartbeats 4000000
namespace G
open PySem PySem.Spec PyProof.Rows L2 Mi
theorem plain (ns : List Int) (hl : ns.length ≤ 63) : ∃ st, runOf fu C_law fd_law.body [.scr (ns.map .int)] [] = .ok (.bl true, st) := by
  have h := law_code ns hl
  rw [d_law] at h
  change RR (runOf fu C_law fd_law.body [.scr (ns.map .int)] []) _ _ at h
  cases e : runOf fu C_law fd_law.body [.scr (ns.map .int)] [] with
  | ok p =>
    obtain ⟨d, s⟩ := p
    rw [e] at h
    have h1 : d = .bl true := h
    subst h1
    exact ⟨s, rfl⟩
  | exc c v ρ s => rw [e] at h; exact h.elim
  | bad => rw [e] at h; exact h.elim
end G
open PySem PySem.W PySem.Calls PyProof.Rows
theorem PySem.Challenge.cw_caughtup_k00_errors_are_apart_holds : PySem.Challenge.rw_caughtup_k00_errors_are_apart.Holds := by
  w_on; o_law
  refine HandSHeadRun.head_any (r := OpenLaw.row PySem.Challenge.rw_caughtup_k00_errors_are_apart) (q := view (OpenLaw.row PySem.Challenge.rw_caughtup_k00_errors_are_apart).prog [32]) (H := G.hk) (ob := G.ob) (M := 9000) (loose := G.names) (d := HandSHeadRun.topDef (OpenLaw.row PySem.Challenge.rw_caughtup_k00_errors_are_apart).prog 32) (kwd := []) G.ob_eq
    (by kernel_rfl) (fun s => by kernel_rfl) G.run (by kernel_rfl) (by kernel_rfl) (by kernel_rfl) (by rfl) (by first | assumption | decide +kernel) (by decide +kernel) ⟨rfl, rfl, rfl, rfl, rfl, by decide +kernel⟩ ?hw ?hc
  case hw => w_witness2
  case hc =>
    refine Mi.walk_ofG (l := PySem.Challenge.rw_caughtup_k00_errors_are_apart) (n := 63) (k := 12) (x := "script") rfl (by decide) (by kernel_rfl) ⟨rfl, by decide, by decide⟩ ?F
    intro w mg fa h Y GG hmg0
    obtain ⟨K, KX, c⟩ := Y
    have hmg : mg ("law" : PySem.Str) = some (.ref fa) := by
      have e : (HandSHeadRun.topDef (OpenLaw.row PySem.Challenge.rw_caughtup_k00_errors_are_apart).prog 32).name = ("law" : PySem.Str) := by kernel_rfl
      rw [← e]
      exact hmg0
    have H := Mi.Hd.ok c.check
    exact Mi.law_end (P := G.P) (C := G.C_law) (d := G.fd_law) (i := 10) (fu := G.fu) (H.fn "law" (by decide)).1 KX GG hmg c rfl rfl rfl (by kernel_rfl) rfl rfl (fun base => (G.t4 H KX GG c).ok H KX GG) (fun _ _ _ _ _ _ us hl => match us, hl with | [_], _ => rfl) G.plain

