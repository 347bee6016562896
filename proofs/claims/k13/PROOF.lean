import PyProof.Rows.All
import Wide.All
import OpenK.AllK
import Wide.FinOn
import HandS.ForMost
import HandS.IsInst
import HandS.Wide
import HandS.Gcd
import HandS.Deep
import HandS.Exc
import HandS.ExcOwn
import HandS.CallSlots
import HandS.Defaults
import HandS.TupAny
import HandS.TupLe
import HandS.EndBits
import HandS.HeadEnd
import HandS.Head0
import HandS.Head1
import HandS.Head2
import HandS.Head3
import HandS.HeadHook1
import HandS.HeadHook2
import HandS.HeadHook3
import HandS.HeadHook4
import KE.SortData
import PySem.Challenge.RW_meanwithin_k13_sums_of_shares
set_option Elab.async false
set_option linter.all false
set_option maxRecDepth 100000
set_option maxHeartbeats 4000000
set_option exponentiation.threshold 10000
namespace Fw
open PySem PySem.Spec PyProof.Rows L2

/-! ### data, objects, frames, stores -/
inductive D where
  | non | bl (b : Bool) | int (i : Int) | str (x : Str)
  | tup (ds : List D) | lst (ds : List D) | dic (kvs : List (Key × D)) | ref (n : Nat) | scr (ds : List D)
inductive Ob where
  | lst (ds : List D) | dic (kvs : List (Key × D)) | ins (c : Nat) (fs : List (Str × D)) | dead
inductive Sl where
  | val (d : D) | own (o : Ob)
abbrev Fr := List (Option Sl)
abbrev Sto := List Ob
inductive RV where
  | d (d : D) | f (o : Ob)
structure Ex where
  c : Nat
  fs : List (Str × D)
inductive Out (α : Type) where
  | ok (a : α) (σ : Fr) (S : Sto)
  | exc (x : Ex) (σ : Fr) (S : Sto)
  | no
inductive SOut where
  | nx (σ : Fr) (S : Sto)
  | ret (r : RV) (σ : Fr) (S : Sto)
  | brk (σ : Fr) (S : Sto)
  | ct (σ : Fr) (S : Sto)
  | exc (x : Ex) (σ : Fr) (S : Sto)
  | no
inductive COut where
  | ok (r : RV) (S : Sto)
  | exc (x : Ex) (S : Sto)
  | no
abbrev SemO (α : Type) := Fr → Sto → Out α
abbrev SemS := Fr → Sto → SOut
abbrev SemC := List D → Sto → COut

/-! ### how they stand in the heap -/
mutual
inductive DR (K : PySem.W.Frag) (G : Hp) (μ : List Addr) : V → D → Prop
  | non : DR K G μ .non .non
  | bl (b : Bool) : DR K G μ (.bl b) (.bl b)
  | int (i : Int) : DR K G μ (.int i) (.int i)
  | str (x : Str) : DR K G μ (.str x) (.str x)
  | tup {a : Addr} {xs : List V} {ds : List D} : SqT K G a xs → DRs K G μ xs ds → DR K G μ (.ref a) (.tup ds)
  | lst {a : Addr} {xs : List V} {ds : List D} : G a = some (.lst xs) → DRs K G μ xs ds → DR K G μ (.ref a) (.lst ds)
  | dic {a : Addr} {xs : List (Key × V)} {ds : List (Key × D)} : G a = some (.dK xs) → DRk K G μ xs ds → DR K G μ (.ref a) (.dic ds)
  | ref {a : Addr} {n : Nat} : μ[n]? = some a → DR K G μ (.ref a) (.ref n)
  | scr {a : Addr} {xs : List V} {ds : List D} : SqL K G a xs → DRs K G μ xs ds → DR K G μ (.ref a) (.scr ds)
inductive DRs (K : PySem.W.Frag) (G : Hp) (μ : List Addr) : List V → List D → Prop
  | nil : DRs K G μ [] []
  | cons {v : V} {vs : List V} {d : D} {ds : List D} : DR K G μ v d → DRs K G μ vs ds → DRs K G μ (v :: vs) (d :: ds)
inductive DRk (K : PySem.W.Frag) (G : Hp) (μ : List Addr) : List (Key × V) → List (Key × D) → Prop
  | nil : DRk K G μ [] []
  | cons {k : Key} {v : V} {vs : List (Key × V)} {d : D} {ds : List (Key × D)} : DR K G μ v d → DRk K G μ vs ds → DRk K G μ ((k, v) :: vs) ((k, d) :: ds)
end
/-- attributes -/
inductive DRf (K : PySem.W.Frag) (G : Hp) (μ : List Addr) : List (Str × V) → List (Str × D) → Prop
  | nil : DRf K G μ [] []
  | cons {k : Str} {v : V} {vs : List (Str × V)} {d : D} {ds : List (Str × D)} : DR K G μ v d → DRf K G μ vs ds → DRf K G μ ((k, v) :: vs) ((k, d) :: ds)

def Pre (μ μ' : List Addr) : Prop := ∃ ν, μ' = μ ++ ν
theorem Pre.refl (μ : List Addr) : Pre μ μ := ⟨[], by simp⟩
theorem Pre.trans {a b c : List Addr} (h : Pre a b) (h' : Pre b c) : Pre a c := by
  obtain ⟨x, rfl⟩ := h
  obtain ⟨y, rfl⟩ := h'
  exact ⟨x ++ y, by simp⟩
theorem Pre.at {μ μ' : List Addr} (h : Pre μ μ') {n : Nat} {a : Addr} (e : μ[n]? = some a) : μ'[n]? = some a := by
  obtain ⟨x, rfl⟩ := h
  obtain ⟨hn, e'⟩ := List.getElem?_eq_some_iff.mp e
  rw [List.getElem?_append_left hn]
  exact e
theorem Pre.mem {μ μ' : List Addr} (h : Pre μ μ') {a : Addr} (e : a ∈ μ) : a ∈ μ' := by
  obtain ⟨x, rfl⟩ := h
  exact List.mem_append_left _ e
theorem Same.rd {H H' : Hp} {a : Addr} {o : HO} (e : Same H H') (h : Rd H a o) : Rd H' a o := by
  rcases h with h | ⟨u, h⟩
  · exact .inl (e _ _ h)
  · exact .inr ⟨u, e _ _ h⟩
theorem Same.tup {K : PySem.W.Frag} {H H' : Hp} {a : Addr} {xs : List V} (e : Same H H') (h : SqT K H a xs) : SqT K H' a xs := by
  rcases h with (h | ⟨o, h⟩) | h
  · exact .inl (.inl (e _ _ h))
  · exact .inl (.inr ⟨o, e _ _ h⟩)
  · exact .inr h

section
variable {K : PySem.W.Frag} {G G' : Hp} {μ μ' : List Addr}
mutual
theorem DR.mono (s : Same G G') (p : Pre μ μ') : ∀ {v : V} {d : D}, DR K G μ v d → DR K G' μ' v d
  | _, _, .non => .non
  | _, _, .bl b => .bl b
  | _, _, .int i => .int i
  | _, _, .str x => .str x
  | _, _, .tup h t => .tup (Same.tup s h) (DRs.mono s p t)
  | _, _, .lst h t => .lst (s _ _ h) (DRs.mono s p t)
  | _, _, .dic h t => .dic (s _ _ h) (DRk.mono s p t)
  | _, _, .ref h => .ref (p.at h)
  | _, _, .scr h t => .scr (s.seq h) (DRs.mono s p t)
theorem DRs.mono (s : Same G G') (p : Pre μ μ') : ∀ {v : List V} {d : List D}, DRs K G μ v d → DRs K G' μ' v d
  | _, _, .nil => .nil
  | _, _, .cons h t => .cons (DR.mono s p h) (DRs.mono s p t)
theorem DRk.mono (s : Same G G') (p : Pre μ μ') : ∀ {v : List (Key × V)} {d : List (Key × D)}, DRk K G μ v d → DRk K G' μ' v d
  | _, _, .nil => .nil
  | _, _, .cons h t => .cons (DR.mono s p h) (DRk.mono s p t)
end
theorem DRf.mono (s : Same G G') (p : Pre μ μ') : ∀ {v : List (Str × V)} {d : List (Str × D)}, DRf K G μ v d → DRf K G' μ' v d
  | _, _, .nil => .nil
  | _, _, .cons h t => .cons (h.mono s p) (DRf.mono s p t)
theorem DRs.length : ∀ {v : List V} {d : List D}, DRs K G μ v d → v.length = d.length
  | _, _, .nil => rfl
  | _, _, .cons _ t => congrArg (· + 1) (DRs.length t)
theorem DRs.at : ∀ {v : List V} {d : List D} {i : Nat} {y : D}, DRs K G μ v d → d[i]? = some y → ∃ x, v[i]? = some x ∧ DR K G μ x y
  | _, _, i, _, .nil, h => by simp at h
  | _, _, 0, _, .cons a t, h => by simp at h; subst h; exact ⟨_, rfl, a⟩
  | _, _, i + 1, _, .cons a t, h => by
    obtain ⟨x, e, r⟩ := DRs.at (i := i) t (by simpa using h)
    exact ⟨x, by simpa using e, r⟩
theorem DRs.append : ∀ {v v' : List V} {d d' : List D}, DRs K G μ v d → DRs K G μ v' d' → DRs K G μ (v ++ v') (d ++ d')
  | _, _, _, _, .nil, h => h
  | _, _, _, _, .cons a t, h => .cons a (DRs.append t h)
theorem DRs.take : ∀ {v : List V} {d : List D} (n : Nat), DRs K G μ v d → DRs K G μ (v.take n) (d.take n)
  | _, _, 0, _ => .nil
  | _, _, _ + 1, .nil => .nil
  | _, _, n + 1, .cons a t => .cons a (DRs.take n t)
theorem DRs.drop : ∀ {v : List V} {d : List D} (n : Nat), DRs K G μ v d → DRs K G μ (v.drop n) (d.drop n)
  | _, _, 0, h => h
  | _, _, _ + 1, .nil => .nil
  | _, _, n + 1, .cons _ t => DRs.drop n t
theorem DRs.set : ∀ {v : List V} {d : List D} {x : V} {y : D} (i : Nat), DRs K G μ v d → DR K G μ x y → DRs K G μ (v.set i x) (d.set i y)
  | _, _, _, _, _, .nil, _ => .nil
  | _, _, _, _, 0, .cons _ t, h => .cons h t
  | _, _, _, _, i + 1, .cons a t, h => .cons a (DRs.set i t h)
theorem DRs.rep {v : List V} {d : List D} (h : DRs K G μ v d) : ∀ k : Nat, DRs K G μ (List.replicate k v).flatten (List.replicate k d).flatten
  | 0 => .nil
  | k + 1 => by
    rw [List.replicate_succ, List.flatten_cons, List.replicate_succ, List.flatten_cons]
    exact h.append (DRs.rep h k)
theorem DRs.ints : ∀ {v : List V} {ns : List Int}, DRs K G μ v (ns.map D.int) → v = ns.map V.int
  | _, [], .nil => rfl
  | _, n :: ns, .cons h t => by
    cases h
    rw [DRs.ints t]
    rfl
theorem DRs.bools : ∀ {v : List V} {ns : List Bool}, DRs K G μ v (ns.map D.bl) → v = ns.map V.bl
  | _, [], .nil => rfl
  | _, n :: ns, .cons h t => by
    cases h
    rw [DRs.bools t]
    rfl
end

/-- the walk's constants -/
structure Nv where
  K : PySem.W.Frag
  ct : Nat → Addr

def ObIs (N : Nv) (G : Hp) (μ : List Addr) (H : Hp) (a : Addr) : Ob → Prop
  | .lst ds => ∃ xs, H a = some (.lst xs) ∧ DRs N.K G μ xs ds
  | .dic ds => ∃ xs, H a = some (.dK xs) ∧ DRk N.K G μ xs ds
  | .ins c ds => ∃ dx xs, H a = some (.ins (N.ct c) dx xs) ∧ DRf N.K G μ xs ds
  | .dead => False
def LocIs (N : Nv) (G : Hp) (μ : List Addr) (H : Hp) (a : Addr) : Ob → Prop
  | .dead => ∃ o, H a = some o
  | ob => G a = none ∧ ObIs N G μ H a ob
/-- the base of a frame: the heap, the data heap and the store's addresses at its entry -/
structure Bs where
  H : Hp
  G : Hp
  μ : List Addr
def FrIs (N : Nv) (B : Bs) (G : Hp) (μ : List Addr) (H : Hp) (a : Addr) (ob : Ob) : Prop := a ∉ μ ∧ B.H a = none ∧ G a = none ∧ ObIs N G μ H a ob
structure Rel (N : Nv) (B : Bs) (G : Hp) (μ : List Addr) (σ : Fr) (S : Sto) (σV : L2.St) (H : Hp) : Prop where
  gh : Same G H
  bg : Same B.G G
  gb : ∀ b o, G b = some o → B.G b = some o ∨ B.H b = none
  fr : ∀ b o, B.H b = some o → b ∉ B.μ → H b = some o
  mu : ∃ ν, μ = B.μ ++ ν ∧ ∀ a ∈ ν, B.H a = none
  nd : μ.Nodup
  sl : S.length = μ.length
  sto : ∀ (n : Nat) (a : Addr) (ob : Ob), μ[n]? = some a → S[n]? = some ob → LocIs N G μ H a ob
  len : σV.length = σ.length
  slot : ∀ (i : Nat) (d : D), σ[i]? = some (some (.val d)) → ∃ v, σV[i]? = some (some v) ∧ DR N.K G μ v d
  own : ∀ (i : Nat) (ob : Ob), σ[i]? = some (some (.own ob)) → ∃ a, σV[i]? = some (some (.ref a)) ∧ FrIs N B G μ H a ob
  dst : ∀ (i j : Nat) (ob ob' : Ob) (a : Addr), σ[i]? = some (some (.own ob)) → σ[j]? = some (some (.own ob')) → σV[i]? = some (some (.ref a)) → σV[j]? = some (some (.ref a)) → i = j
/-- no owned slot holds it -/
def NoOwn (σ : Fr) (σV : L2.St) (a : Addr) : Prop := ∀ (i : Nat) (ob : Ob), σ[i]? = some (some (.own ob)) → σV[i]? ≠ some (some (.ref a))
def RvIs (N : Nv) (B : Bs) (G : Hp) (μ : List Addr) (σ : Fr) (σV : L2.St) (H : Hp) (v : V) : RV → Prop
  | .d d => DR N.K G μ v d
  | .f ob => ∃ a, v = .ref a ∧ FrIs N B G μ H a ob ∧ NoOwn σ σV a

section
variable {N : Nv} {B : Bs} {G G' : Hp} {μ μ' : List Addr} {σ : Fr} {S : Sto} {σV : L2.St} {H H' : Hp} {a p : Addr} {ob : Ob} {o : HO} {v : V} {r : RV}
theorem ObIs.there (h : ObIs N G μ H a ob) : ∃ o, H a = some o := by
  cases ob with
  | lst ds => obtain ⟨_, h, _⟩ := h; exact ⟨_, h⟩
  | dic ds => obtain ⟨_, h, _⟩ := h; exact ⟨_, h⟩
  | ins c ds => obtain ⟨_, _, h, _⟩ := h; exact ⟨_, h⟩
  | dead => exact h.elim
theorem LocIs.there (h : LocIs N G μ H a ob) : ∃ o, H a = some o := by
  cases ob with
  | dead => exact h
  | lst ds => exact h.2.there
  | dic ds => exact h.2.there
  | ins c ds => exact h.2.there
theorem ObIs.mono (h : ObIs N G μ H a ob) (s : Same G G') (p : Pre μ μ') (e : H' a = H a) : ObIs N G' μ' H' a ob := by
  cases ob with
  | lst ds => obtain ⟨xs, h, t⟩ := h; exact ⟨xs, by rw [e]; exact h, t.mono s p⟩
  | dic ds => obtain ⟨xs, h, t⟩ := h; exact ⟨xs, by rw [e]; exact h, t.mono s p⟩
  | ins c ds => obtain ⟨dx, xs, h, t⟩ := h; exact ⟨dx, xs, by rw [e]; exact h, t.mono s p⟩
  | dead => exact h
theorem LocIs.mono (h : LocIs N G μ H a ob) (s : Same G G') (p : Pre μ μ') (e : H' a = H a) (g : G a = none → G' a = none) : LocIs N G' μ' H' a ob := by
  cases ob with
  | dead => obtain ⟨o, h⟩ := h; exact ⟨o, by rw [e]; exact h⟩
  | lst ds => exact ⟨g h.1, h.2.mono s p e⟩
  | dic ds => exact ⟨g h.1, h.2.mono s p e⟩
  | ins c ds => exact ⟨g h.1, h.2.mono s p e⟩
theorem Rel.pre (R : Rel N B G μ σ S σV H) : Pre B.μ μ := let ⟨ν, e, _⟩ := R.mu; ⟨ν, e⟩
theorem Rel.loc (R : Rel N B G μ σ S σV H) (h : a ∈ μ) : ∃ (n : Nat) (ob : Ob), μ[n]? = some a ∧ S[n]? = some ob ∧ LocIs N G μ H a ob := by
  obtain ⟨n, hn⟩ := List.getElem?_of_mem h
  have hl : n < S.length := by rw [R.sl]; exact (List.getElem?_eq_some_iff.mp hn).1
  exact ⟨n, S[n], hn, List.getElem?_eq_getElem hl, R.sto n a _ hn (List.getElem?_eq_getElem hl)⟩
/-- a free address is free in all -/
theorem Rel.freeMu (R : Rel N B G μ σ S σV H) (h : H p = none) : p ∉ μ := fun m => by
  obtain ⟨n, ob, _, _, l⟩ := R.loc m
  obtain ⟨o, e⟩ := l.there
  rw [h] at e; cases e
theorem Rel.freeB (R : Rel N B G μ σ S σV H) (h : H p = none) : B.H p = none := by
  cases e : B.H p with
  | none => rfl
  | some o =>
    by_cases m : p ∈ B.μ
    · exact absurd (R.pre.mem m) (R.freeMu h)
    · have := R.fr p o e m
      rw [h] at this; cases this
theorem Rel.freeG (R : Rel N B G μ σ S σV H) (h : H p = none) : G p = none := R.gh.free h
theorem Rel.freeOwn (R : Rel N B G μ σ S σV H) (h : H p = none) : NoOwn σ σV p := fun i ob e q => by
  obtain ⟨a, ea, f⟩ := R.own i ob e
  rw [ea] at q
  cases q
  obtain ⟨o, e⟩ := f.2.2.2.there
  rw [h] at e; cases e
theorem same_upd (h : H p = none) : Same H (upd H p o) := fun b u q => by rw [upd_ne (ne_of_none q h)]; exact q
theorem same_upd2 (s : Same G H) : Same (upd G p o) (upd H p o) := fun b u q => by
  unfold upd at q ⊢
  split at q
  · rename_i e; rw [if_pos e]; exact q
  · rename_i e; rw [if_neg e]; exact s b u q
/-- new data -/
theorem Rel.data (R : Rel N B G μ σ S σV H) (h : H p = none) : Rel N B (upd G p o) μ σ S σV (upd H p o) := by
  have hG := R.freeG h
  have hB := R.freeB h
  have hM := R.freeMu h
  have sG : Same G (upd G p o) := same_upd hG
  have ne : ∀ {b : Addr} {u : HO}, H b = some u → b ≠ p := fun q => ne_of_none q h
  refine ⟨same_upd2 R.gh, R.bg.trans sG, fun b u q => ?_, fun b u q m => ?_, R.mu, R.nd, R.sl, fun n a ob h1 h2 => ?_, R.len, fun i d e => ?_, fun i ob e => ?_, R.dst⟩
  · by_cases e : b = p
    · subst e; exact .inr hB
    · rw [upd_ne e] at q; exact R.gb b u q
  · rw [upd_ne (ne_of_none q hB)]; exact R.fr b u q m
  · have l := R.sto n a ob h1 h2
    obtain ⟨u, hu⟩ := l.there
    exact l.mono sG (Pre.refl _) (upd_ne (ne hu)) fun g => by rw [upd_ne (ne hu)]; exact g
  · obtain ⟨v, e1, r⟩ := R.slot i d e
    exact ⟨v, e1, r.mono sG (Pre.refl _)⟩
  · obtain ⟨a, e1, f1, f2, f3, f4⟩ := R.own i ob e
    obtain ⟨u, hu⟩ := f4.there
    exact ⟨a, e1, f1, f2, by rw [upd_ne (ne hu)]; exact f3, f4.mono sG (Pre.refl _) (upd_ne (ne hu))⟩
/-- a new object that is nobody's yet -/
theorem Rel.fresh (R : Rel N B G μ σ S σV H) (h : H p = none) : Rel N B G μ σ S σV (upd H p o) := by
  have hG := R.freeG h
  have hB := R.freeB h
  have sG : Same G G := Same.refl _
  have ne : ∀ {b : Addr} {u : HO}, H b = some u → b ≠ p := fun q => ne_of_none q h
  refine ⟨R.gh.trans (same_upd h), R.bg, R.gb, fun b u q m => ?_, R.mu, R.nd, R.sl, fun n a ob h1 h2 => ?_, R.len, R.slot, fun i ob e => ?_, R.dst⟩
  · rw [upd_ne (ne_of_none q hB)]; exact R.fr b u q m
  · have l := R.sto n a ob h1 h2
    obtain ⟨u, hu⟩ := l.there
    exact l.mono sG (Pre.refl _) (upd_ne (ne hu)) id
  · obtain ⟨a, e1, f1, f2, f3, f4⟩ := R.own i ob e
    obtain ⟨u, hu⟩ := f4.there
    exact ⟨a, e1, f1, f2, f3, f4.mono sG (Pre.refl _) (upd_ne (ne hu))⟩
theorem Rel.frIs (R : Rel N B G μ σ S σV H) (h : H p = none) (q : ObIs N G μ H' p ob) : FrIs N B G μ H' p ob := ⟨R.freeMu h, R.freeB h, R.freeG h, q⟩
/-- a fresh object becomes data -/
def put (G : Hp) (a : Addr) (o : Option HO) : Hp := fun b => if b = a then o else G b
theorem put_same (h : G a = none) {o : Option HO} : Same G (put G a o) := fun b u q => by
  unfold put
  rw [if_neg (ne_of_none q h)]
  exact q
theorem put_at {o : Option HO} : put G a o a = o := if_pos rfl
theorem put_ne {b : Addr} {o : Option HO} (h : b ≠ a) : put G a o b = G b := if_neg h
theorem Rel.keepData (R : Rel N B G μ σ S σV H) (f : FrIs N B G μ H a ob) (no : NoOwn σ σV a) : Rel N B (put G a (H a)) μ σ S σV H := by
  obtain ⟨f1, f2, f3, f4⟩ := f
  have sG : Same G (put G a (H a)) := put_same f3
  refine ⟨fun b u q => ?_, R.bg.trans sG, fun b u q => ?_, R.fr, R.mu, R.nd, R.sl, fun n b ob' h1 h2 => ?_, R.len, fun i d e => ?_, fun i ob' e => ?_, R.dst⟩
  · by_cases e : b = a
    · subst e; rw [put_at] at q; exact q
    · rw [put_ne e] at q; exact R.gh b u q
  · by_cases e : b = a
    · subst e; exact .inr f2
    · rw [put_ne e] at q; exact R.gb b u q
  · have l := R.sto n b ob' h1 h2
    have nb : b ≠ a := fun e => f1 (by rw [← e]; exact List.mem_of_getElem? h1)
    exact l.mono sG (Pre.refl _) rfl fun g => by rw [put_ne nb]; exact g
  · obtain ⟨v, e1, r⟩ := R.slot i d e
    exact ⟨v, e1, r.mono sG (Pre.refl _)⟩
  · obtain ⟨b, e1, g1, g2, g3, g4⟩ := R.own i ob' e
    have nb : b ≠ a := fun z => no i ob' e (by rw [← z]; exact e1)
    exact ⟨b, e1, g1, g2, by rw [put_ne nb]; exact g3, g4.mono sG (Pre.refl _) rfl⟩
/-- a slot is stored: data -/
theorem get_set {α : Type} {l : List α} {i j : Nat} {x y : α} (h : (l.set i x)[j]? = some y) : (j = i ∧ y = x) ∨ (j ≠ i ∧ l[j]? = some y) := by
  by_cases e : i = j
  · subst e
    by_cases hl : i < l.length
    · rw [List.getElem?_set_self hl] at h
      exact .inl ⟨rfl, (Option.some.inj h).symm⟩
    · rw [List.getElem?_eq_none (by simpa using hl)] at h
      cases h
  · rw [List.getElem?_set_ne e] at h
    exact .inr ⟨fun z => e z.symm, h⟩
theorem set_get {α : Type} {l : List α} {i j : Nat} {x : α} : (l.set i x)[j]? = if i = j then (if j < l.length then some x else none) else l[j]? := by
  by_cases e : i = j
  · subst e
    rw [if_pos rfl]
    by_cases hl : i < l.length
    · rw [if_pos hl, List.getElem?_set_self hl]
    · rw [if_neg hl, List.getElem?_eq_none (by simpa using hl)]
  · rw [if_neg e, List.getElem?_set_ne e]
theorem lt_of_set {α : Type} {l : List α} {i : Nat} {x y : α} (h : (l.set i x)[i]? = some y) : i < l.length := by
  have := (List.getElem?_eq_some_iff.mp h).1
  rwa [List.length_set] at this
theorem Rel.set {i : Nat} {d : D} (R : Rel N B G μ σ S σV H) (h : DR N.K G μ v d) : Rel N B G μ (σ.set i (some (.val d))) S (σV.set i (some v)) H := by
  refine ⟨R.gh, R.bg, R.gb, R.fr, R.mu, R.nd, R.sl, R.sto, by rw [List.length_set, List.length_set]; exact R.len, fun j e q => ?_, fun j ob q => ?_, fun j k ob ob' a q1 q2 q3 q4 => ?_⟩
  · rcases get_set q with ⟨rfl, e1⟩ | ⟨ne, q⟩
    · cases e1
      refine ⟨v, ?_, h⟩
      rw [List.getElem?_set_self]
      rw [R.len]
      exact lt_of_set q
    · obtain ⟨u, e1, r⟩ := R.slot j e q
      exact ⟨u, by rw [List.getElem?_set_ne (Ne.symm ne)]; exact e1, r⟩
  · rcases get_set q with ⟨rfl, e1⟩ | ⟨ne, q⟩
    · cases e1
    · obtain ⟨a, e1, r⟩ := R.own j ob q
      exact ⟨a, by rw [List.getElem?_set_ne (Ne.symm ne)]; exact e1, r⟩
  · rcases get_set q1 with ⟨rfl, e1⟩ | ⟨ne, q1⟩
    · cases e1
    · rcases get_set q2 with ⟨rfl, e1⟩ | ⟨ne', q2⟩
      · cases e1
      · rw [List.getElem?_set_ne (Ne.symm ne)] at q3
        rw [List.getElem?_set_ne (Ne.symm ne')] at q4
        exact R.dst j k ob ob' a q1 q2 q3 q4
theorem Rel.setOwn {i : Nat} (R : Rel N B G μ σ S σV H) (f : FrIs N B G μ H a ob) (no : NoOwn σ σV a) : Rel N B G μ (σ.set i (some (.own ob))) S (σV.set i (some (.ref a))) H := by
  refine ⟨R.gh, R.bg, R.gb, R.fr, R.mu, R.nd, R.sl, R.sto, by rw [List.length_set, List.length_set]; exact R.len, fun j e q => ?_, fun j ob q => ?_, fun j k ob ob' b q1 q2 q3 q4 => ?_⟩
  · rcases get_set q with ⟨rfl, e1⟩ | ⟨ne, q⟩
    · cases e1
    · obtain ⟨u, e1, r⟩ := R.slot j e q
      exact ⟨u, by rw [List.getElem?_set_ne (Ne.symm ne)]; exact e1, r⟩
  · rcases get_set q with ⟨rfl, e1⟩ | ⟨ne, q⟩
    · cases e1
      refine ⟨a, ?_, f⟩
      rw [List.getElem?_set_self]
      rw [R.len]
      exact lt_of_set q
    · obtain ⟨a, e1, r⟩ := R.own j ob q
      exact ⟨a, by rw [List.getElem?_set_ne (Ne.symm ne)]; exact e1, r⟩
  · rcases get_set q1 with ⟨rfl, e1⟩ | ⟨ne, q1'⟩
    · rcases get_set q2 with ⟨rfl, e2⟩ | ⟨ne', q2'⟩
      · rfl
      · rw [List.getElem?_set_ne (Ne.symm ne')] at q4
        rcases get_set q3 with ⟨_, e3⟩ | ⟨z, _⟩
        · cases e3
          exact absurd q4 (no k ob' q2')
        · exact absurd rfl z
    · rcases get_set q2 with ⟨rfl, e2⟩ | ⟨ne', q2'⟩
      · rw [List.getElem?_set_ne (Ne.symm ne)] at q3
        rcases get_set q4 with ⟨_, e3⟩ | ⟨z, _⟩
        · cases e3
          exact absurd q3 (no j ob q1')
        · exact absurd rfl z
      · rw [List.getElem?_set_ne (Ne.symm ne)] at q3
        rw [List.getElem?_set_ne (Ne.symm ne')] at q4
        exact R.dst j k ob ob' b q1' q2' q3 q4
/-- slots are forgotten -/
theorem Rel.weak {σ' : Fr} (R : Rel N B G μ σ S σV H) (hl : σ'.length = σ.length) (w : ∀ (i : Nat) (x : Sl), σ'[i]? = some (some x) → σ[i]? = some (some x)) : Rel N B G μ σ' S σV H :=
  ⟨R.gh, R.bg, R.gb, R.fr, R.mu, R.nd, R.sl, R.sto, R.len.trans hl.symm, fun i d q => R.slot i d (w i _ q), fun i d q => R.own i d (w i _ q), fun i j ob ob' a q1 q2 => R.dst i j ob ob' a (w i _ q1) (w j _ q2)⟩
theorem Rel.drop {i : Nat} (R : Rel N B G μ σ S σV H) : Rel N B G μ (σ.set i none) S σV H :=
  R.weak (by rw [List.length_set]) fun j x q => by
    rcases get_set q with ⟨rfl, e1⟩ | ⟨ne, q⟩
    · cases e1
    · exact q
/-- another V in a slot that is forgotten -/
theorem Rel.dropV {i : Nat} {x : Option V} (R : Rel N B G μ σ S σV H) : Rel N B G μ (σ.set i none) S (σV.set i x) H := by
  have key : ∀ {j : Nat} {y : Sl}, (σ.set i none)[j]? = some (some y) → j ≠ i ∧ σ[j]? = some (some y) := fun {j y} q => by
    rcases get_set q with ⟨rfl, e1⟩ | ⟨ne, q⟩
    · cases e1
    · exact ⟨ne, q⟩
  refine ⟨R.gh, R.bg, R.gb, R.fr, R.mu, R.nd, R.sl, R.sto, by rw [List.length_set, List.length_set]; exact R.len, fun j e q => ?_, fun j ob q => ?_, fun j k ob ob' b q1 q2 q3 q4 => ?_⟩
  · obtain ⟨ne, q⟩ := key q
    rw [List.getElem?_set_ne (Ne.symm ne)]
    exact R.slot j e q
  · obtain ⟨ne, q⟩ := key q
    rw [List.getElem?_set_ne (Ne.symm ne)]
    exact R.own j ob q
  · obtain ⟨ne, q1⟩ := key q1
    obtain ⟨ne', q2⟩ := key q2
    rw [List.getElem?_set_ne (Ne.symm ne)] at q3
    rw [List.getElem?_set_ne (Ne.symm ne')] at q4
    exact R.dst j k ob ob' b q1 q2 q3 q4
/-- an owned slot is taken out -/
theorem Rel.take {i : Nat} (R : Rel N B G μ σ S σV H) (h : σ[i]? = some (some (.own ob))) : ∃ a, σV[i]? = some (some (.ref a)) ∧ FrIs N B G μ H a ob ∧ NoOwn (σ.set i none) σV a := by
  obtain ⟨a, e, f⟩ := R.own i ob h
  refine ⟨a, e, f, fun j ob' q q' => ?_⟩
  rcases get_set q with ⟨rfl, e1⟩ | ⟨ne, q⟩
  · cases e1
  · exact ne (R.dst j i ob' ob a q h q' e)
theorem set_none_self {i : Nat} {x : Option Sl} : (σ.set i none).set i x = σ.set i x := by
  rw [List.set_set]
theorem set_at {σV : L2.St} {i : Nat} {x : Option V} (h : σV[i]? = some x) : σV.set i x = σV := by
  apply List.ext_getElem?
  intro j
  rw [set_get]
  split
  · rename_i e
    subst e
    rw [if_pos (List.getElem?_eq_some_iff.mp h).1, h]
  · rfl
/-- an owned slot becomes data -/
theorem Rel.freeze {i : Nat} {d : D} (R : Rel N B G μ σ S σV H) (h : σ[i]? = some (some (.own ob))) (hd : ∀ G' : Hp, Same G G' → (∀ a, G' a = H a → ObIs N G' μ H a ob → DR N.K G' μ (.ref a) d)) :
    ∃ a G', σV[i]? = some (some (.ref a)) ∧ Rel N B G' μ (σ.set i (some (.val d))) S σV H ∧ Same G G' ∧ DR N.K G' μ (.ref a) d := by
  obtain ⟨a, e, f, no⟩ := R.take h
  have sG : Same G (put G a (H a)) := put_same f.2.2.1
  have R1 := (R.drop (i := i)).keepData f no
  have dr := hd _ sG a put_at (f.2.2.2.mono sG (Pre.refl _) rfl)
  refine ⟨a, _, e, ?_, sG, dr⟩
  have R2 := R1.set (i := i) dr
  rw [set_none_self, set_at e] at R2
  exact R2
/-- an owned slot's object changes -/
theorem Rel.wrOwn {i : Nat} {ob' : Ob} {o' : HO} (R : Rel N B G μ σ S σV H) (h : σ[i]? = some (some (.own ob))) (e : σV[i]? = some (some (.ref a))) (hn : ObIs N G μ (upd H a o') a ob') :
    Rel N B G μ (σ.set i (some (.own ob'))) S σV (upd H a o') := by
  obtain ⟨a', e', f, no⟩ := R.take h
  rw [e] at e'
  cases e'
  obtain ⟨f1, f2, f3, f4⟩ := f
  have nG : ∀ b u, G b = some u → b ≠ a := fun b u q => ne_of_none q f3
  have R1 : Rel N B G μ (σ.set i none) S σV (upd H a o') := by
    have R0 := R.drop (i := i)
    refine ⟨fun b u q => by rw [upd_ne (nG b u q)]; exact R0.gh b u q, R0.bg, R0.gb, fun b u q m => ?_, R0.mu, R0.nd, R0.sl, fun n b ob h1 h2 => ?_, R0.len, R0.slot, fun j ob q => ?_, R0.dst⟩
    · rw [upd_ne (ne_of_none q f2)]; exact R0.fr b u q m
    · have nb : b ≠ a := fun z => f1 (by rw [← z]; exact List.mem_of_getElem? h1)
      exact (R0.sto n b ob h1 h2).mono (Same.refl _) (Pre.refl _) (upd_ne nb) id
    · obtain ⟨b, e1, g1, g2, g3, g4⟩ := R0.own j ob q
      have nb : b ≠ a := fun z => no j ob q (by rw [← z]; exact e1)
      exact ⟨b, e1, g1, g2, g3, g4.mono (Same.refl _) (Pre.refl _) (upd_ne nb)⟩
  have R2 := R1.setOwn (i := i) (a := a) (ob := ob') ⟨f1, f2, f3, hn⟩ no
  rw [set_none_self, set_at e] at R2
  exact R2
/-- an object of the store changes -/
theorem Rel.wrLoc {n : Nat} {ob' : Ob} {o' : HO} (R : Rel N B G μ σ S σV H) (h : S[n]? = some ob) (e : μ[n]? = some a) (hd : ob ≠ .dead) (hn : ObIs N G μ (upd H a o') a ob') :
    Rel N B G μ σ (S.set n ob') σV (upd H a o') := by
  have l := R.sto n a ob e h
  have f3 : G a = none := by
    cases ob with
    | dead => exact absurd rfl hd
    | lst ds => exact l.1
    | dic ds => exact l.1
    | ins c ds => exact l.1
  have hm : a ∈ μ := List.mem_of_getElem? e
  have nG : ∀ b u, G b = some u → b ≠ a := fun b u q => ne_of_none q f3
  refine ⟨fun b u q => by rw [upd_ne (nG b u q)]; exact R.gh b u q, R.bg, R.gb, fun b u q m => ?_, R.mu, R.nd, by rw [List.length_set]; exact R.sl, fun k b ob2 h1 h2 => ?_, R.len, R.slot, fun j ob q => ?_, R.dst⟩
  · have nb : b ≠ a := fun z => by
      subst z
      obtain ⟨ν, e1, e2⟩ := R.mu
      rw [e1] at hm
      rcases List.mem_append.mp hm with hm | hm
      · exact m hm
      · rw [e2 b hm] at q; cases q
    rw [upd_ne nb]; exact R.fr b u q m
  · rcases get_set h2 with ⟨rfl, e1⟩ | ⟨ne, h2⟩
    · rw [e] at h1
      cases h1
      subst e1
      cases ob2 with
      | dead => exact hn.elim
      | lst ds => exact ⟨f3, hn⟩
      | dic ds => exact ⟨f3, hn⟩
      | ins c ds => exact ⟨f3, hn⟩
    · have nb : b ≠ a := fun z => ne (by
        subst z
        exact nd_ix R.nd h1 e)
      exact (R.sto k b ob2 h1 h2).mono (Same.refl _) (Pre.refl _) (upd_ne nb) id
  · obtain ⟨b, e1, g1, g2, g3, g4⟩ := R.own j ob q
    have nb : b ≠ a := fun z => g1 (by rw [z]; exact hm)
    exact ⟨b, e1, g1, g2, g3, g4.mono (Same.refl _) (Pre.refl _) (upd_ne nb)⟩
/-- a fresh object becomes one of the store -/
theorem Rel.alloc (R : Rel N B G μ σ S σV H) (f : FrIs N B G μ H a ob) (no : NoOwn σ σV a) : Rel N B G (μ ++ [a]) σ (S ++ [ob]) σV H := by
  obtain ⟨f1, f2, f3, f4⟩ := f
  have p : Pre μ (μ ++ [a]) := ⟨[a], rfl⟩
  refine ⟨R.gh, R.bg, R.gb, R.fr, ?_, ?_, by rw [List.length_append, List.length_append, R.sl]; rfl, fun n b ob2 h1 h2 => ?_, R.len, fun i d q => ?_, fun j ob q => ?_, R.dst⟩
  · obtain ⟨ν, e1, e2⟩ := R.mu
    refine ⟨ν ++ [a], by rw [e1, List.append_assoc], fun b hb => ?_⟩
    rcases List.mem_append.mp hb with hb | hb
    · exact e2 b hb
    · rw [List.mem_singleton.mp hb]; exact f2
  · rw [List.nodup_append]
    exact ⟨R.nd, by simp, fun b hb c hc => fun z => f1 (by rw [← List.mem_singleton.mp hc, ← z]; exact hb)⟩
  · by_cases hn : n < μ.length
    · rw [List.getElem?_append_left hn] at h1
      rw [List.getElem?_append_left (by rw [R.sl]; exact hn)] at h2
      exact (R.sto n b ob2 h1 h2).mono (Same.refl _) p rfl id
    · have hn' : n = μ.length := by
        have := (List.getElem?_eq_some_iff.mp h1).1
        rw [List.length_append] at this
        simp at this
        omega
      subst hn'
      rw [List.getElem?_append_right (Nat.le_refl _), Nat.sub_self] at h1
      rw [← R.sl, List.getElem?_append_right (Nat.le_refl _), Nat.sub_self] at h2
      cases h1
      cases h2
      have q := f4.mono (Same.refl _) p rfl
      cases ob with
      | dead => exact f4.elim
      | lst ds => exact ⟨f3, q⟩
      | dic ds => exact ⟨f3, q⟩
      | ins c ds => exact ⟨f3, q⟩
  · obtain ⟨v, e1, r⟩ := R.slot i d q
    exact ⟨v, e1, r.mono (Same.refl _) p⟩
  · obtain ⟨b, e1, g1, g2, g3, g4⟩ := R.own j ob q
    refine ⟨b, e1, fun m => ?_, g2, g3, g4.mono (Same.refl _) p rfl⟩
    rcases List.mem_append.mp m with m | m
    · exact g1 m
    · exact no j ob q (by rw [← List.mem_singleton.mp m]; exact e1)
end
end Fw

namespace Fw
open PySem PySem.Spec PyProof.Rows L2

/-! ### readings -/
structure Cv where
  ct : Nat → Addr
  B : Bs
  W : Value → Option Addr → L2.St → Hp → Prop
def ExIs (N : Nv) (G : Hp) (μ : List Addr) (H : Hp) (cls : Value) (d : Option Addr) (x : Ex) : Prop :=
  cls = .ref (N.ct x.c) ∧ match d with
    | none => x.fs = []
    | some a => ∃ fs, H a = some (.xd fs) ∧ DRf N.K G μ fs x.fs
def OPost {α β : Type} (N : Nv) (c : Cv) (Is : Hp → List Addr → Fr → L2.St → Hp → β → α → Prop) (G : Hp) (μ : List Addr) (σV : L2.St) (Q : β → Hp → Prop) : Out α → Prop
  | .ok a σ' S' => ∀ b H' G' μ', Rel N c.B G' μ' σ' S' σV H' → Is G' μ' σ' σV H' b a → Same G G' → Pre μ μ' → Q b H'
  | .exc x σ' S' => ∀ cls d H' G' μ', Rel N c.B G' μ' σ' S' σV H' → ExIs N G' μ' H' cls d x → c.W cls d σV H'
  | .no => False
def rd {α β : Type} (N : Nv) (c : Cv) (Is : Hp → List Addr → Fr → L2.St → Hp → β → α → Prop) (f : SemO α) : L2.St → Hp → (β → Hp → Prop) → Prop := fun σV H Q =>
  ∃ G μ σ S, Rel N c.B G μ σ S σV H ∧ OPost N c Is G μ σV Q (f σ S)
def Out.bind {α β : Type} (o : Out α) (k : α → SemO β) : Out β := match o with
  | .ok a σ S => k a σ S
  | .exc x σ S => .exc x σ S
  | .no => .no
section
variable {α β α' β' : Type} {N : Nv} {c : Cv} {G G' : Hp} {μ μ' : List Addr} {σV : L2.St} {Q : β → Hp → Prop} {Q' : β' → Hp → Prop} {o : Out α} {k : α → SemO α'}
  {Is : Hp → List Addr → Fr → L2.St → Hp → β → α → Prop} {Is' : Hp → List Addr → Fr → L2.St → Hp → β' → α' → Prop}
theorem OPost.mono (h : OPost N c Is G μ σV Q o) (s : Same G G') (p : Pre μ μ') : OPost N c Is G' μ' σV Q o := by
  cases o with
  | ok a σ S => exact fun b H' G2 μ2 R I s2 p2 => h b H' G2 μ2 R I (s.trans s2) (p.trans p2)
  | exc x σ S => exact h
  | no => exact h
theorem OPost.bind (h : OPost N c Is' G μ σV Q' (o.bind k)) (hq : ∀ a σ1 S1 b H1 G1 μ1, Rel N c.B G1 μ1 σ1 S1 σV H1 → Is G1 μ1 σ1 σV H1 b a → Same G G1 → Pre μ μ1 → OPost N c Is' G1 μ1 σV Q' (k a σ1 S1) → Q b H1) :
    OPost N c Is G μ σV Q o := by
  cases o with
  | ok a σ S => exact fun b H' G2 μ2 R I s2 p2 => hq a σ S b H' G2 μ2 R I s2 p2 (OPost.mono (o := k a σ S) h s2 p2)
  | exc x σ S => exact h
  | no => exact h
end

abbrev isRV (N : Nv) (c : Cv) : Hp → List Addr → Fr → L2.St → Hp → V → RV → Prop := fun G μ σ σV H v r => RvIs N c.B G μ σ σV H v r
abbrev isD (N : Nv) : Hp → List Addr → Fr → L2.St → Hp → V → D → Prop := fun G μ _ _ _ v d => DR N.K G μ v d
abbrev isDs (N : Nv) : Hp → List Addr → Fr → L2.St → Hp → List V → List D → Prop := fun G μ _ _ _ v d => DRs N.K G μ v d
abbrev isT : Hp → List Addr → Fr → L2.St → Hp → Bool → Bool → Prop := fun _ _ _ _ _ b b' => b = b'
/-- an operand that is looked at: data, or an owned slot -/
inductive Opd where
  | d (d : D) | s (i : Nat)
def OpIs (N : Nv) (G : Hp) (μ : List Addr) (σV : L2.St) (v : V) : Opd → Prop
  | .d d => DR N.K G μ v d
  | .s i => σV[i]? = some (some v)
abbrev isO (N : Nv) : Hp → List Addr → Fr → L2.St → Hp → V → Opd → Prop := fun G μ _ σV _ v o => OpIs N G μ σV v o
inductive OpsIs (N : Nv) (G : Hp) (μ : List Addr) (σV : L2.St) : List V → List Opd → Prop
  | nil : OpsIs N G μ σV [] []
  | cons {v : V} {vs : List V} {o : Opd} {os : List Opd} : OpIs N G μ σV v o → OpsIs N G μ σV vs os → OpsIs N G μ σV (v :: vs) (o :: os)
abbrev isOs (N : Nv) : Hp → List Addr → Fr → L2.St → Hp → List V → List Opd → Prop := fun G μ _ σV _ v o => OpsIs N G μ σV v o
theorem OpIs.mono {N : Nv} {G G' : Hp} {μ μ' : List Addr} {σV : L2.St} {v : V} {o : Opd} (h : OpIs N G μ σV v o) (s : Same G G') (p : Pre μ μ') : OpIs N G' μ' σV v o := by
  cases o with
  | d d => exact DR.mono s p h
  | s i => exact h
theorem OpsIs.mono {N : Nv} {G G' : Hp} {μ μ' : List Addr} {σV : L2.St} (s : Same G G') (p : Pre μ μ') : ∀ {v : List V} {o : List Opd}, OpsIs N G μ σV v o → OpsIs N G' μ' σV v o
  | _, _, .nil => .nil
  | _, _, .cons a t => .cons (a.mono s p) (t.mono s p)

abbrev nv (X : Cx) (c : Cv) : Nv := ⟨X.K, c.ct⟩
def JE (X : Cx) (c : Cv) (e : Expr) (f : SemO RV) : Prop := PE X e (rd (nv X c) c (isRV (nv X c) c) f)
def JD (X : Cx) (c : Cv) (e : Expr) (f : SemO D) : Prop := PE X e (rd (nv X c) c (isD (nv X c)) f)
def JB (X : Cx) (c : Cv) (e : Expr) (f : SemO Opd) : Prop := PE X e (rd (nv X c) c (isO (nv X c)) f)
def JT (X : Cx) (c : Cv) (e : Expr) (f : SemO Bool) : Prop := PT X e (rd (nv X c) c isT f)
def JW (X : Cx) (c : Cv) (e : Expr) (f : SemO Bool) : Prop := PW X e (rd (nv X c) c isT f)
def JDs (X : Cx) (c : Cv) (es : List Expr) (f : SemO (List D)) : Prop := PA X es (rd (nv X c) c (isDs (nv X c)) f)
def JBs (X : Cx) (c : Cv) (es : List Expr) (f : SemO (List Opd)) : Prop := PA X es (rd (nv X c) c (isOs (nv X c)) f)
theorem pe_weak {X : Cx} {e : Expr} {t t' : TE} (h : PE X e t) (hh : ∀ σ H Q, t' σ H Q → t σ H Q) : PE X e t' := ⟨fun pins s σ H Q I q => h.run pins s σ H Q I (hh σ H Q q)⟩
theorem pt_weak {X : Cx} {e : Expr} {t t' : TT} (h : PT X e t) (hh : ∀ σ H Q, t' σ H Q → t σ H Q) : PT X e t' := ⟨fun pins s σ H Q I q => h.run pins s σ H Q I (hh σ H Q q)⟩
theorem pw_weak {X : Cx} {e : Expr} {t t' : TT} (h : PW X e t) (hh : ∀ σ H Q, t' σ H Q → t σ H Q) : PW X e t' := ⟨fun wh pins s σ H Q I q => h.run wh pins s σ H Q I (hh σ H Q q)⟩
theorem pa_weak {X : Cx} {e : List Expr} {t t' : TA} (h : PA X e t) (hh : ∀ σ H Q, t' σ H Q → t σ H Q) : PA X e t' := ⟨fun pos pins s σ H Q I q => h.run pos pins s σ H Q I (hh σ H Q q)⟩
theorem ps_weak {X : Cx} {e : Stmt} {t t' : TS} (h : PS X e t) (hh : ∀ D σ H, t' D σ H → t D σ H) : PS X e t' := ⟨fun pins s σ H Q I q => h.run pins s σ H Q I (hh Q σ H q)⟩
theorem pss_weak {X : Cx} {e : List Stmt} {t t' : TS} (h : PSs X e t) (hh : ∀ D σ H, t' D σ H → t D σ H) : PSs X e t' := ⟨fun pins s σ H Q I q => h.run pins s σ H Q I (hh Q σ H q)⟩

/-! ### looking at an operand -/
def viewD (S : Sto) : D → Option D
  | .ref n => match S[n]? with
    | some (.lst ds) => some (.lst ds)
    | some (.dic ks) => some (.dic ks)
    | _ => none
  | d => some d
def view (σ : Fr) (S : Sto) : Opd → Option D
  | .d d => viewD S d
  | .s i => match σ[i]? with
    | some (some (.own (.lst ds))) => some (.lst ds)
    | some (some (.own (.dic ks))) => some (.dic ks)
    | some (some (.val d)) => viewD S d
    | _ => none
def views (σ : Fr) (S : Sto) : List Opd → Option (List D)
  | [] => some []
  | o :: os => match view σ S o, views σ S os with
    | some d, some ds => some (d :: ds)
    | _, _ => none
/-- v is seen as d in the heap H, what is within is data -/
def Vw (N : Nv) (G : Hp) (μ : List Addr) (H : Hp) (v : V) : D → Prop
  | .lst ds => ∃ a xs, v = .ref a ∧ H a = some (.lst xs) ∧ DRs N.K G μ xs ds
  | .dic ks => ∃ a xs, v = .ref a ∧ H a = some (.dK xs) ∧ DRk N.K G μ xs ks
  | .ref _ => False
  | d => DR N.K G μ v d
inductive Vws (N : Nv) (G : Hp) (μ : List Addr) (H : Hp) : List V → List D → Prop
  | nil : Vws N G μ H [] []
  | cons {v : V} {vs : List V} {o : D} {os : List D} : Vw N G μ H v o → Vws N G μ H vs os → Vws N G μ H (v :: vs) (o :: os)
section
variable {N : Nv} {B : Bs} {G G' : Hp} {μ μ' : List Addr} {σ : Fr} {S : Sto} {σV : L2.St} {H H' : Hp} {v : V} {d : D} {o : Opd}
theorem Rel.viewD (R : Rel N B G μ σ S σV H) (h : DR N.K G μ v d) {e : D} (hv : viewD S d = some e) : Vw N G μ H v e := by
  cases d with
  | ref n =>
    cases h with
    | ref hn =>
      unfold Fw.viewD at hv
      simp only at hv
      cases hs : S[n]? with
      | none => rw [hs] at hv; cases hv
      | some ob =>
        have l := R.sto n _ ob hn hs
        rw [hs] at hv
        cases ob with
        | lst ds =>
          cases hv
          obtain ⟨_, xs, h1, h2⟩ := l
          exact ⟨_, xs, rfl, h1, h2⟩
        | dic ks =>
          cases hv
          obtain ⟨_, xs, h1, h2⟩ := l
          exact ⟨_, xs, rfl, h1, h2⟩
        | ins c ds => cases hv
        | dead => cases hv
  | lst ds =>
    cases hv
    cases h with
    | lst h1 h2 => exact ⟨_, _, rfl, R.gh _ _ h1, h2⟩
  | dic ds =>
    cases hv
    cases h with
    | dic h1 h2 => exact ⟨_, _, rfl, R.gh _ _ h1, h2⟩
  | non => cases hv; exact h
  | bl b => cases hv; exact h
  | int b => cases hv; exact h
  | str b => cases hv; exact h
  | tup b => cases hv; exact h
  | scr b => cases hv; exact h
theorem Rel.view (R : Rel N B G μ σ S σV H) (h : OpIs N G μ σV v o) {e : D} (hv : view σ S o = some e) : Vw N G μ H v e := by
  cases o with
  | d d => exact R.viewD h hv
  | s i =>
    have h : σV[i]? = some (some v) := h
    unfold Fw.view at hv
    simp only at hv
    cases hs : σ[i]? with
    | none => rw [hs] at hv; cases hv
    | some x =>
      rw [hs] at hv
      cases x with
      | none => cases hv
      | some x =>
        cases x with
        | val d =>
          obtain ⟨u, e1, r⟩ := R.slot i d hs
          rw [h] at e1
          cases e1
          exact R.viewD r hv
        | own ob =>
          obtain ⟨a, e1, f1, f2, f3, f4⟩ := R.own i ob hs
          rw [h] at e1
          cases e1
          cases ob with
          | lst ds =>
            cases hv
            obtain ⟨xs, h1, h2⟩ := f4
            exact ⟨_, xs, rfl, h1, h2⟩
          | dic ks =>
            cases hv
            obtain ⟨xs, h1, h2⟩ := f4
            exact ⟨_, xs, rfl, h1, h2⟩
          | ins c ds => cases hv
          | dead => cases hv
theorem Rel.views (R : Rel N B G μ σ S σV H) : ∀ {vs : List V} {os : List Opd} {es : List D}, OpsIs N G μ σV vs os → views σ S os = some es → Vws N G μ H vs es
  | _, _, es, .nil, hv => by cases hv; exact .nil
  | _, _, es, .cons (o := o) (os := os) a t, hv => by
    unfold Fw.views at hv
    cases e1 : Fw.view σ S o with
    | none => rw [e1] at hv; cases hv
    | some d =>
      cases e2 : Fw.views σ S os with
      | none => rw [e1, e2] at hv; cases hv
      | some ds =>
        rw [e1, e2] at hv
        cases hv
        exact .cons (R.view a e1) (Rel.views R t e2)
end

/-! ### what a built-in operation gives -/
inductive NR (N : Nv) (G : Hp) (μ : List Addr) (H : Hp) : V → Hp → RV → Prop
  | val {v : V} {d : D} : DR N.K G μ v d → NR N G μ H v H (.d d)
  | lst {p : Addr} {xs : List V} {ds : List D} : H p = none → DRs N.K G μ xs ds → NR N G μ H (.ref p) (upd H p (.lst xs)) (.f (.lst ds))
  | tup {p : Addr} {xs : List V} {ds : List D} : H p = none → DRs N.K G μ xs ds → NR N G μ H (.ref p) (upd H p (.tup xs)) (.d (.tup ds))
  | dic {p : Addr} {xs : List (Key × V)} {ds : List (Key × D)} : H p = none → DRk N.K G μ xs ds → NR N G μ H (.ref p) (upd H p (.dK xs)) (.f (.dic ds))
theorem Rel.nr {N : Nv} {B : Bs} {G : Hp} {μ : List Addr} {σ : Fr} {S : Sto} {σV : L2.St} {H H' : Hp} {v : V} {r : RV} (R : Rel N B G μ σ S σV H) (h : NR N G μ H v H' r) : ∃ G', Rel N B G' μ σ S σV H' ∧ RvIs N B G' μ σ σV H' v r ∧ Same G G' := by
  cases h with
  | val h => exact ⟨G, R, h, Same.refl _⟩
  | lst hp h => exact ⟨G, R.fresh hp, ⟨_, rfl, R.frIs hp ⟨_, upd_same, h⟩, R.freeOwn hp⟩, Same.refl _⟩
  | dic hp h => exact ⟨G, R.fresh hp, ⟨_, rfl, R.frIs hp ⟨_, upd_same, h⟩, R.freeOwn hp⟩, Same.refl _⟩
  | @tup p xs ds hp h =>
    have sG : Same G (upd G p (.tup xs)) := same_upd (R.freeG hp)
    exact ⟨_, R.data hp, .tup (SqT.of upd_same) (h.mono sG (Pre.refl _)), sG⟩
abbrev P1 := D → Option RV
abbrev P2 := D → D → Option RV
abbrev PL := List D → Option RV
def Prim1 (N : Nv) (r : V → Hp → VK → Prop) (p : P1) : Prop := ∀ G μ H x d rv, Same G H → Vw N G μ H x d → p d = some rv → ∀ Q : VK, (∀ v H', NR N G μ H v H' rv → Q v H') → r x H Q
def Prim2 (N : Nv) (r : R2) (p : P2) : Prop := ∀ G μ H x y d e rv, Same G H → Vw N G μ H x d → Vw N G μ H y e → p d e = some rv → ∀ Q : VK, (∀ v H', NR N G μ H v H' rv → Q v H') → r x y H Q
def PrimL (N : Nv) (r : List V → Hp → VK → Prop) (p : PL) : Prop := ∀ G μ H xs ds rv, Same G H → Vws N G μ H xs ds → p ds = some rv → ∀ Q : VK, (∀ v H', NR N G μ H v H' rv → Q v H') → r xs H Q

/-! ### the combinators: expressions -/
def liftO {α : Type} (o : Option α) : SemO α := fun σ S => match o with
  | some a => .ok a σ S
  | none => .no
def thaw : RV → Option D
  | .d d => some d
  | .f (.lst ds) => some (.lst ds)
  | .f (.dic ks) => some (.dic ks)
  | .f _ => none
/-- as data -/
def sD (f : SemO RV) : SemO D := fun σ S => (f σ S).bind fun r => liftO (thaw r)
def sR (f : SemO D) : SemO RV := fun σ S => (f σ S).bind fun d => liftO (some (.d d))
def sO (f : SemO D) : SemO Opd := fun σ S => (f σ S).bind fun d => liftO (some (.d d))
def sC (d : D) : SemO RV := fun σ S => .ok (.d d) σ S
def slotD (σ : Fr) (i : Nat) : Option (D × Fr) := match σ[i]? with
  | some (some (.val d)) => some (d, σ)
  | some (some (.own (.lst ds))) => some (.lst ds, σ.set i (some (.val (.lst ds))))
  | some (some (.own (.dic ks))) => some (.dic ks, σ.set i (some (.val (.dic ks))))
  | _ => none
def sV (i : Nat) : SemO RV := fun σ S => match slotD σ i with
  | some (d, σ') => .ok (.d d) σ' S
  | none => .no
def sVO (i : Nat) : SemO Opd := fun σ S => match σ[i]? with
  | some (some (.val d)) => .ok (.d d) σ S
  | some (some (.own _)) => .ok (.s i) σ S
  | _ => .no
def s1 (p : P1) (f : SemO Opd) : SemO RV := fun σ S => (f σ S).bind fun x σ S => match view σ S x with
  | some d => liftO (p d) σ S
  | none => .no
def s2 (p : P2) (f g : SemO Opd) : SemO RV := fun σ S => (f σ S).bind fun x σ S => (g σ S).bind fun y σ S => match view σ S x, view σ S y with
  | some d, some e => liftO (p d e) σ S
  | _, _ => .no
def sL (p : PL) (f : SemO (List Opd)) : SemO RV := fun σ S => (f σ S).bind fun xs σ S => match views σ S xs with
  | some ds => liftO (p ds) σ S
  | none => .no
def nilD : SemO (List D) := fun σ S => .ok [] σ S
def consD (f : SemO D) (g : SemO (List D)) : SemO (List D) := fun σ S => (f σ S).bind fun x σ S => (g σ S).bind fun xs σ S => .ok (x :: xs) σ S
def nilO : SemO (List Opd) := fun σ S => .ok [] σ S
def consO (f : SemO Opd) (g : SemO (List Opd)) : SemO (List Opd) := fun σ S => (f σ S).bind fun x σ S => (g σ S).bind fun xs σ S => .ok (x :: xs) σ S
def okLen {α : Type} (l : List α) : Bool := Nat.ble l.length sizeLine
def sTup (f : SemO (List D)) : SemO RV := fun σ S => (f σ S).bind fun ds => liftO (if okLen ds then some (.d (.tup ds)) else none)
def sLst (f : SemO (List D)) : SemO RV := fun σ S => (f σ S).bind fun ds => liftO (if okLen ds then some (.f (.lst ds)) else none)
/-- a bool -/
def bOf : RV → Option Bool
  | .d (.bl b) => some b
  | _ => none
def sB (f : SemO RV) : SemO Bool := fun σ S => (f σ S).bind fun r => liftO (bOf r)
def sAnd (f g : SemO Bool) : SemO Bool := fun σ S => (f σ S).bind fun b σ S => if b then g σ S else .ok false σ S
def sOr (f g : SemO Bool) : SemO Bool := fun σ S => (f σ S).bind fun b σ S => if b then .ok true σ S else g σ S
def sNot (f : SemO Bool) : SemO Bool := fun σ S => (f σ S).bind fun b σ S => .ok (!b) σ S
def sVal (f : SemO Bool) : SemO RV := fun σ S => (f σ S).bind fun b σ S => .ok (.d (.bl b)) σ S
def sIf (t : SemO Bool) (f g : SemO RV) : SemO RV := fun σ S => (t σ S).bind fun b σ S => if b then f σ S else g σ S
section
variable {X : Cx} {c : Cv} {e a b : Expr} {es : List Expr} {f g : SemO RV} {pos : Pos}
theorem jd (h : JE X c e f) : JD X c e (sD f) := pe_weak h fun σV H Q q => by
  obtain ⟨G, μ, σ, S, R, q⟩ := q
  refine ⟨G, μ, σ, S, R, OPost.bind q fun r σ1 S1 v H1 G1 μ1 R1 I1 s1 p1 q => ?_⟩
  cases r with
  | d d => exact q v H1 G1 μ1 R1 I1 (Same.refl _) (Pre.refl _)
  | f ob =>
    obtain ⟨a, rfl, fr, no⟩ := I1
    have R2 := R1.keepData fr no
    have sG : Same G1 (put G1 a (H1 a)) := put_same fr.2.2.1
    have ob2 := fr.2.2.2.mono (H' := H1) sG (Pre.refl _) rfl
    cases ob with
    | lst ds =>
      obtain ⟨xs, h1, h2⟩ := ob2
      exact q (.ref a) H1 _ μ1 R2 (.lst (put_at.trans h1) h2) sG (Pre.refl _)
    | dic ds =>
      obtain ⟨xs, h1, h2⟩ := ob2
      exact q (.ref a) H1 _ μ1 R2 (.dic (put_at.trans h1) h2) sG (Pre.refl _)
    | ins c ds => exact q.elim
    | dead => exact q.elim
theorem je_d {f : SemO D} (h : JD X c e f) : JE X c e (sR f) := pe_weak h fun σV H Q q => by
  obtain ⟨G, μ, σ, S, R, q⟩ := q
  exact ⟨G, μ, σ, S, R, OPost.bind q fun r σ1 S1 v H1 G1 μ1 R1 I1 s1 p1 q => q v H1 G1 μ1 R1 I1 (Same.refl _) (Pre.refl _)⟩
theorem jb_d {f : SemO D} (h : JD X c e f) : JB X c e (sO f) := pe_weak h fun σV H Q q => by
  obtain ⟨G, μ, σ, S, R, q⟩ := q
  exact ⟨G, μ, σ, S, R, OPost.bind q fun r σ1 S1 v H1 G1 μ1 R1 I1 s1 p1 q => q v H1 G1 μ1 R1 I1 (Same.refl _) (Pre.refl _)⟩
theorem jb (h : JE X c e f) : JB X c e (sO (sD f)) := jb_d (jd h)
theorem je_c {v : V} {d : D} (h : PE X e (tC v)) (r : ∀ G μ, DR X.K G μ v d) : JE X c e (sC d) := pe_weak h fun σV H Q q => by
  obtain ⟨G, μ, σ, S, R, q⟩ := q
  exact q v H G μ R (r G μ) (Same.refl _) (Pre.refl _)
theorem je_int {i : Int} {j} : JE X c (.Constant (.int i) j pos) (sC (.int i)) := je_c pe_int fun _ _ => .int i
theorem je_str {i : Str} {j} : JE X c (.Constant (.str i) j pos) (sC (.str i)) := je_c pe_str fun _ _ => .str i
theorem je_bl {i : Bool} {j} : JE X c (.Constant (.bool i) j pos) (sC (.bl i)) := je_c pe_bl fun _ _ => .bl i
theorem je_non {j} : JE X c (.Constant .none j pos) (sC .non) := je_c pe_non fun _ _ => .non
theorem je_var (i : Nat) (h : PE X e (tVar i)) : JE X c e (sV i) := pe_weak h fun σV H Q q => by
  obtain ⟨G, μ, σ, S, R, q⟩ := q
  unfold sV slotD at q
  cases hs : σ[i]? with
  | none => rw [hs] at q; exact q.elim
  | some x =>
    rw [hs] at q
    cases x with
    | none => exact q.elim
    | some x =>
      cases x with
      | val d =>
        obtain ⟨v, e1, r⟩ := R.slot i d hs
        exact ⟨v, e1, q v H G μ R r (Same.refl _) (Pre.refl _)⟩
      | own ob =>
        cases ob with
        | lst ds =>
          obtain ⟨a, G', e1, R', sG, dr⟩ := R.freeze (d := .lst ds) hs fun G' sG a ha ho => by
            obtain ⟨xs, h1, h2⟩ := ho
            exact .lst (ha.trans h1) h2
          exact ⟨.ref a, e1, q _ H G' μ R' dr sG (Pre.refl _)⟩
        | dic ds =>
          obtain ⟨a, G', e1, R', sG, dr⟩ := R.freeze (d := .dic ds) hs fun G' sG a ha ho => by
            obtain ⟨xs, h1, h2⟩ := ho
            exact .dic (ha.trans h1) h2
          exact ⟨.ref a, e1, q _ H G' μ R' dr sG (Pre.refl _)⟩
        | ins c ds => exact q.elim
        | dead => exact q.elim
theorem jb_var (i : Nat) (h : PE X e (tVar i)) : JB X c e (sVO i) := pe_weak h fun σV H Q q => by
  obtain ⟨G, μ, σ, S, R, q⟩ := q
  unfold sVO at q
  cases hs : σ[i]? with
  | none => rw [hs] at q; exact q.elim
  | some x =>
    rw [hs] at q
    cases x with
    | none => exact q.elim
    | some x =>
      cases x with
      | val d =>
        obtain ⟨v, e1, r⟩ := R.slot i d hs
        exact ⟨v, e1, q v H G μ R r (Same.refl _) (Pre.refl _)⟩
      | own ob =>
        obtain ⟨a, e1, r⟩ := R.own i ob hs
        exact ⟨.ref a, e1, q _ H G μ R e1 (Same.refl _) (Pre.refl _)⟩
/-- a primitive operation, by the form of its reading -/
theorem je_1 {p : P1} {f : SemO Opd} {r : V → Hp → VK → Prop} {t : TE} (hp : Prim1 (nv X c) r p) (h : PE X a t → PE X e (tUn r t)) (ha : JB X c a f) (ht : t = rd (nv X c) c (isO (nv X c)) f) : JE X c e (s1 p f) := by
  subst ht
  refine pe_weak (h ha) fun σV H Q q => ?_
  obtain ⟨G, μ, σ, S, R, q⟩ := q
  refine ⟨G, μ, σ, S, R, OPost.bind q fun x σ1 S1 v H1 G1 μ1 R1 I1 s1 p1 q => ?_⟩
  cases hv : view σ1 S1 x with
  | none => rw [hv] at q; exact q.elim
  | some d =>
    rw [hv] at q
    cases hq : p d with
    | none => simp only [hq] at q; exact q.elim
    | some rv =>
      simp only [hq] at q
      refine hp G1 μ1 H1 v d rv R1.gh (R1.view I1 hv) hq _ fun v2 H2 n => ?_
      obtain ⟨G2, R2, I2, s2⟩ := R1.nr n
      exact q v2 H2 G2 μ1 R2 I2 s2 (Pre.refl _)
theorem rd_2 {N : Nv} {p : P2} {f g : SemO Opd} {r : R2} (hp : Prim2 N r p) {σV : L2.St} {H : Hp} {Q : VK} (q : rd N c (isRV N c) (s2 p f g) σV H Q) : tOp r (rd N c (isO N) f) (rd N c (isO N) g) σV H Q := by
  obtain ⟨G, μ, σ, S, R, q⟩ := q
  refine ⟨G, μ, σ, S, R, OPost.bind q fun x σ1 S1 v H1 G1 μ1 R1 I1 s1 p1 q => ?_⟩
  refine ⟨G1, μ1, σ1, S1, R1, OPost.bind q fun y σ2 S2 w H2 G2 μ2 R2 I2 s2 p2 q => ?_⟩
  have I1' := OpIs.mono I1 s2 p2
  cases hv : view σ2 S2 x with
  | none => rw [hv] at q; exact q.elim
  | some d =>
    rw [hv] at q
    cases hw : view σ2 S2 y with
    | none => rw [hw] at q; exact q.elim
    | some e =>
      rw [hw] at q
      simp only at q
      cases hq : p d e with
      | none => simp only [hq] at q; exact q.elim
      | some rv =>
        simp only [hq] at q
        refine hp G2 μ2 H2 v w d e rv R2.gh (R2.view I1' hv) (R2.view I2 hw) hq _ fun v2 H2 n => ?_
        obtain ⟨G3, R3, I3, s3⟩ := R2.nr n
        exact q v2 _ G3 μ2 R3 I3 s3 (Pre.refl _)
theorem je_bin {op : Operator} {p : P2} {f g : SemO Opd} {r : R2} (ho : OpR X (binaryOp op) r) (hp : Prim2 (nv X c) r p) (ha : JB X c a f) (hb : JB X c b g) : JE X c (.BinOp a op b pos) (s2 p f g) := pe_weak (pe_op ho ha hb) fun _ _ _ q => rd_2 hp q
theorem je_cmp {op : CmpOp} {p : P2} {f g : SemO Opd} {r : R2} (ho : OpR X (compareOp op) r) (hp : Prim2 (nv X c) r p) (ha : JB X c a f) (hb : JB X c b g) (hm : behindInMarks op b = false) : JE X c (.Compare a [op] [b] pos) (s2 p f g) :=
  pe_weak (pe_cmpR ho ha hb hm) fun _ _ _ q => rd_2 hp q
theorem rd_B {N : Nv} {f : SemO RV} {σV : L2.St} {H : Hp} {Q : Bool → Hp → Prop} (q : rd N c isT (sB f) σV H Q) : rd N c (isRV N c) f σV H (fun x H' => ∃ k, x = .bl k ∧ Q k H') := by
  obtain ⟨G, μ, σ, S, R, q⟩ := q
  refine ⟨G, μ, σ, S, R, OPost.bind q fun r σ1 S1 v H1 G1 μ1 R1 I1 s1 p1 q => ?_⟩
  cases r with
  | f ob => exact q.elim
  | d d =>
    cases d with
    | bl k =>
      cases I1
      exact ⟨k, rfl, q k H1 G1 μ1 R1 rfl (Same.refl _) (Pre.refl _)⟩
    | _ => exact q.elim
theorem jt_cmp {op : CmpOp} {p : P2} {f g : SemO Opd} {r : R2} (ho : OpR X (compareOp op) r) (hp : Prim2 (nv X c) r p) (ha : JB X c a f) (hb : JB X c b g) (hm : behindInMarks op b = false) : JT X c (.Compare a [op] [b] pos) (sB (s2 p f g)) :=
  pt_weak (pt_cmpR ho ha hb hm) fun _ _ _ q => rd_2 hp (rd_B q)
theorem jt_val (h : JE X c e f) (he : ∀ whole, isTrue e X.env whole = (do let v ← whole; standAt e.pos; holding [v] (truthy v)) := by intro _; rfl) : JT X c e (sB f) := pt_weak (pt_val h he) fun _ _ _ q => rd_B q
theorem je_un {op : UnaryOp} {p : P1} {f : SemO Opd} {r : V → Hp → VK → Prop} (ho : UnR X (unaryOp op) r) (hp : Prim1 (nv X c) r p) (ha : JB X c a f) : JE X c (.UnaryOp op a pos) (s1 p f) := je_1 hp (fun h => pe_un ho h) ha rfl
theorem je_ix {p : P2} {f g : SemO Opd} {r : R2} (ho : IxR X r) (hp : Prim2 (nv X c) r p) (ha : JB X c a f) (hb : JB X c b g) (hs : PlainIx b) : JE X c (.Subscript a b pos) (s2 p f g) := pe_weak (pe_ix ho ha hb hs) fun _ _ _ q => rd_2 hp q
/-- argument lists -/
theorem jds_nil : JDs X c [] nilD := pa_weak pa_nil fun σV H Q q => by
  obtain ⟨G, μ, σ, S, R, q⟩ := q
  exact q [] H G μ R .nil (Same.refl _) (Pre.refl _)
theorem jds_cons {f : SemO D} {g : SemO (List D)} (ha : JD X c e f) (hr : JDs X c es g) (hs : starEach (e :: es) X.env = (false, eval e X.env) :: starEach es X.env := by rfl) : JDs X c (e :: es) (consD f g) := pa_weak (pa_cons ha hr hs) fun σV H Q q => by
  obtain ⟨G, μ, σ, S, R, q⟩ := q
  refine ⟨G, μ, σ, S, R, OPost.bind q fun x σ1 S1 v H1 G1 μ1 R1 I1 s1 p1 q => ?_⟩
  refine ⟨G1, μ1, σ1, S1, R1, OPost.bind q fun y σ2 S2 w H2 G2 μ2 R2 I2 s2 p2 q => ?_⟩
  exact q _ H2 G2 μ2 R2 (.cons (I1.mono s2 p2) I2) (Same.refl _) (Pre.refl _)
theorem jbs_nil : JBs X c [] nilO := pa_weak pa_nil fun σV H Q q => by
  obtain ⟨G, μ, σ, S, R, q⟩ := q
  exact q [] H G μ R .nil (Same.refl _) (Pre.refl _)
theorem jbs_cons {f : SemO Opd} {g : SemO (List Opd)} (ha : JB X c e f) (hr : JBs X c es g) (hs : starEach (e :: es) X.env = (false, eval e X.env) :: starEach es X.env := by rfl) : JBs X c (e :: es) (consO f g) := pa_weak (pa_cons ha hr hs) fun σV H Q q => by
  obtain ⟨G, μ, σ, S, R, q⟩ := q
  refine ⟨G, μ, σ, S, R, OPost.bind q fun x σ1 S1 v H1 G1 μ1 R1 I1 s1 p1 q => ?_⟩
  refine ⟨G1, μ1, σ1, S1, R1, OPost.bind q fun y σ2 S2 w H2 G2 μ2 R2 I2 s2 p2 q => ?_⟩
  exact q _ H2 G2 μ2 R2 (.cons (OpIs.mono I1 s2 p2) I2) (Same.refl _) (Pre.refl _)
theorem okLen_le {α : Type} {l : List α} (h : okLen l = true) : l.length ≤ sizeLine := Nat.le_of_ble_eq_true h
theorem je_tup {f : SemO (List D)} {x1} (h : JDs X c es f) : JE X c (.Tuple es x1 pos) (sTup f) := pe_weak (pe_tup h) fun σV H Q q => by
  obtain ⟨G, μ, σ, S, R, q⟩ := q
  refine ⟨G, μ, σ, S, R, OPost.bind q fun x σ1 S1 v H1 G1 μ1 R1 I1 s1 p1 q => ?_⟩
  by_cases hl : okLen x = true
  · rw [if_pos hl] at q
    refine ⟨by rw [I1.length]; exact okLen_le hl, fun p hp => ?_⟩
    obtain ⟨G2, R2, I2, s2⟩ := R1.nr (.tup hp I1)
    exact q _ _ G2 μ1 R2 I2 s2 (Pre.refl _)
  · rw [if_neg hl] at q
    exact q.elim
theorem je_lst {f : SemO (List D)} (h : JDs X c es f) : JE X c (.List es pos) (sLst f) := pe_weak (pe_lst h) fun σV H Q q => by
  obtain ⟨G, μ, σ, S, R, q⟩ := q
  refine ⟨G, μ, σ, S, R, OPost.bind q fun x σ1 S1 v H1 G1 μ1 R1 I1 s1 p1 q => ?_⟩
  by_cases hl : okLen x = true
  · rw [if_pos hl] at q
    refine ⟨by rw [I1.length]; exact okLen_le hl, fun p hp => ?_⟩
    obtain ⟨G2, R2, I2, s2⟩ := R1.nr (.lst hp I1)
    exact q _ _ G2 μ1 R2 I2 s2 (Pre.refl _)
  · rw [if_neg hl] at q
    exact q.elim
theorem rd_L {N : Nv} {p : PL} {f : SemO (List Opd)} {r : List V → Hp → VK → Prop} (hp : PrimL N r p) {σV : L2.St} {H : Hp} {Q : VK} (q : rd N c (isRV N c) (sL p f) σV H Q) : tCB r (rd N c (isOs N) f) σV H Q := by
  obtain ⟨G, μ, σ, S, R, q⟩ := q
  refine ⟨G, μ, σ, S, R, OPost.bind q fun x σ1 S1 v H1 G1 μ1 R1 I1 s1 p1 q => ?_⟩
  cases hv : views σ1 S1 x with
  | none => rw [hv] at q; exact q.elim
  | some d =>
    rw [hv] at q
    cases hq : p d with
    | none => simp only [hq] at q; exact q.elim
    | some rv =>
      simp only [hq] at q
      refine hp G1 μ1 H1 v d rv R1.gh (R1.views I1 hv) hq _ fun v2 H2 n => ?_
      obtain ⟨G2, R2, I2, s2⟩ := R1.nr n
      exact q v2 H2 G2 μ1 R2 I2 s2 (Pre.refl _)
/-- tests -/
theorem rd_And {N : Nv} {f g : SemO Bool} {σV : L2.St} {H : Hp} {Q : Bool → Hp → Prop} (q : rd N c isT (sAnd f g) σV H Q) : tAnd (rd N c isT f) (rd N c isT g) σV H Q := by
  obtain ⟨G, μ, σ, S, R, q⟩ := q
  refine ⟨G, μ, σ, S, R, OPost.bind q fun x σ1 S1 v H1 G1 μ1 R1 I1 s1 p1 q => ?_⟩
  have I1 : v = x := I1
  subst I1
  cases v with
  | true => exact iteT ⟨G1, μ1, σ1, S1, R1, q⟩
  | false => exact iteF (q false H1 G1 μ1 R1 rfl (Same.refl _) (Pre.refl _))
theorem rd_Or {N : Nv} {f g : SemO Bool} {σV : L2.St} {H : Hp} {Q : Bool → Hp → Prop} (q : rd N c isT (sOr f g) σV H Q) : tOr (rd N c isT f) (rd N c isT g) σV H Q := by
  obtain ⟨G, μ, σ, S, R, q⟩ := q
  refine ⟨G, μ, σ, S, R, OPost.bind q fun x σ1 S1 v H1 G1 μ1 R1 I1 s1 p1 q => ?_⟩
  have I1 : v = x := I1
  subst I1
  cases v with
  | true => exact iteT (q true H1 G1 μ1 R1 rfl (Same.refl _) (Pre.refl _))
  | false => exact iteF ⟨G1, μ1, σ1, S1, R1, q⟩
theorem jt_w {f : SemO Bool} (h : JW X c e f) : JT X c e f := PW.pt h
theorem jw_and1 {f : SemO Bool} (h : JT X c a f) : JW X c (.BoolOp .And [a] pos) f := pw_and1 h
theorem jw_or1 {f : SemO Bool} (h : JT X c a f) : JW X c (.BoolOp .Or [a] pos) f := pw_or1 h
theorem jw_and {f g : SemO Bool} (ha : JT X c a f) (hb : JW X c (.BoolOp .And (b :: es) pos) g) : JW X c (.BoolOp .And (a :: b :: es) pos) (sAnd f g) := pw_weak (pw_and ha hb) fun _ _ _ q => rd_And q
theorem jw_or {f g : SemO Bool} (ha : JT X c a f) (hb : JW X c (.BoolOp .Or (b :: es) pos) g) : JW X c (.BoolOp .Or (a :: b :: es) pos) (sOr f g) := pw_weak (pw_or ha hb) fun _ _ _ q => rd_Or q
theorem jt_not {f : SemO Bool} (ha : JT X c a f) : JT X c (.UnaryOp .Not a pos) (sNot f) := pt_weak (pt_not ha) fun σV H Q q => by
  obtain ⟨G, μ, σ, S, R, q⟩ := q
  refine ⟨G, μ, σ, S, R, OPost.bind q fun x σ1 S1 v H1 G1 μ1 R1 I1 s1 p1 q => ?_⟩
  have I1 : v = x := I1
  subst I1
  exact q _ H1 G1 μ1 R1 rfl (Same.refl _) (Pre.refl _)
/-- .. as values -/
theorem je_one {op} (h : JE X c a f) : JE X c (.BoolOp op [a] pos) f := pe_one h
theorem je_and (ha : JE X c a f) (hb : JE X c (.BoolOp .And (b :: es) pos) g) : JE X c (.BoolOp .And (a :: b :: es) pos) (sIf (sB f) g (sC (.bl false))) := pe_weak (pe_and ha hb) fun σV H Q q => by
  obtain ⟨G, μ, σ, S, R, q⟩ := q
  refine rd_B (Q := fun k H1 => if k = true then _ else _) ⟨G, μ, σ, S, R, OPost.bind q fun x σ1 S1 v H1 G1 μ1 R1 I1 s1 p1 q => ?_⟩
  have I1 : v = x := I1
  subst I1
  cases v with
  | true => exact iteT ⟨G1, μ1, σ1, S1, R1, q⟩
  | false => exact iteF (q _ H1 G1 μ1 R1 (.bl false) (Same.refl _) (Pre.refl _))
theorem je_or (ha : JE X c a f) (hb : JE X c (.BoolOp .Or (b :: es) pos) g) : JE X c (.BoolOp .Or (a :: b :: es) pos) (sIf (sB f) (sC (.bl true)) g) := pe_weak (pe_or ha hb) fun σV H Q q => by
  obtain ⟨G, μ, σ, S, R, q⟩ := q
  refine rd_B (Q := fun k H1 => if k = true then _ else _) ⟨G, μ, σ, S, R, OPost.bind q fun x σ1 S1 v H1 G1 μ1 R1 I1 s1 p1 q => ?_⟩
  have I1 : v = x := I1
  subst I1
  cases v with
  | true => exact iteT (q _ H1 G1 μ1 R1 (.bl true) (Same.refl _) (Pre.refl _))
  | false => exact iteF ⟨G1, μ1, σ1, S1, R1, q⟩
theorem je_not (ha : JE X c a f) : JE X c (.UnaryOp .Not a pos) (sVal (sNot (sB f))) := pe_weak (pe_not ha) fun σV H Q q => by
  obtain ⟨G, μ, σ, S, R, q⟩ := q
  refine rd_B (Q := fun k H1 => Q (.bl (!k)) H1) ⟨G, μ, σ, S, R, ?_⟩
  unfold sVal sNot at q
  cases hs : sB f σ S with
  | ok r σ1 S1 => 
    rw [hs] at q
    intro k H' G' μ' R' I' s' p'
    have I' : k = r := I'
    subst I'
    exact q _ H' G' μ' R' (.bl _) s' p'
  | exc x σ1 S1 => rw [hs] at q; exact q
  | no => rw [hs] at q; exact q
theorem je_if {t : SemO Bool} {ce : Expr} (hc : JT X c ce t) (ha : JE X c a f) (hb : JE X c b g) : JE X c (.IfExp ce a b pos) (sIf t f g) := pe_weak (pe_ifExp hc ha hb) fun σV H Q q => by
  obtain ⟨G, μ, σ, S, R, q⟩ := q
  refine ⟨G, μ, σ, S, R, OPost.bind q fun x σ1 S1 v H1 G1 μ1 R1 I1 s1 p1 q => ?_⟩
  have I1 : v = x := I1
  subst I1
  cases v with
  | true => exact iteT ⟨G1, μ1, σ1, S1, R1, q⟩
  | false => exact iteF ⟨G1, μ1, σ1, S1, R1, q⟩
end
end Fw

namespace Fw
open PySem PySem.Spec PyProof.Rows L2

/-! ### statements -/
def SPost (N : Nv) (c : Cv) (G : Hp) (μ : List Addr) (E : Ends) : SOut → Prop
  | .nx σ' S' => ∀ σV' H' G' μ', Rel N c.B G' μ' σ' S' σV' H' → Same G G' → Pre μ μ' → E.nx σV' H'
  | .ret r σ' S' => ∀ v σV' H' G' μ', Rel N c.B G' μ' σ' S' σV' H' → RvIs N c.B G' μ' σ' σV' H' v r → Same G G' → Pre μ μ' → E.rt v H'
  | .brk σ' S' => ∀ σV' H' G' μ', Rel N c.B G' μ' σ' S' σV' H' → Same G G' → Pre μ μ' → E.bk σV' H'
  | .ct σ' S' => ∀ σV' H' G' μ', Rel N c.B G' μ' σ' S' σV' H' → Same G G' → Pre μ μ' → E.ct σV' H'
  | .exc x σ' S' => ∀ cls d σV' H' G' μ', Rel N c.B G' μ' σ' S' σV' H' → ExIs N G' μ' H' cls d x → c.W cls d σV' H'
  | .no => False
def rdS (N : Nv) (c : Cv) (f : SemS) : TS := fun E σV H => ∃ G μ σ S, Rel N c.B G μ σ S σV H ∧ SPost N c G μ E (f σ S)
def JS (X : Cx) (c : Cv) (st : Stmt) (f : SemS) : Prop := PS X st (rdS (nv X c) c f)
def JSs (X : Cx) (c : Cv) (st : List Stmt) (f : SemS) : Prop := PSs X st (rdS (nv X c) c f)
def SOut.seq (o : SOut) (k : SemS) : SOut := match o with
  | .nx σ S => k σ S
  | o => o
def Out.toS {α : Type} (o : Out α) (k : α → SemS) : SOut := match o with
  | .ok a σ S => k a σ S
  | .exc x σ S => .exc x σ S
  | .no => .no
section
variable {N : Nv} {c : Cv} {G G' : Hp} {μ μ' : List Addr} {E : Ends} {o : SOut}
theorem SPost.mono (h : SPost N c G μ E o) (s : Same G G') (p : Pre μ μ') : SPost N c G' μ' E o := by
  cases o with
  | nx σ S => exact fun σV' H' G2 μ2 R s2 p2 => h σV' H' G2 μ2 R (s.trans s2) (p.trans p2)
  | ret r σ S => exact fun v σV' H' G2 μ2 R I s2 p2 => h v σV' H' G2 μ2 R I (s.trans s2) (p.trans p2)
  | brk σ S => exact fun σV' H' G2 μ2 R s2 p2 => h σV' H' G2 μ2 R (s.trans s2) (p.trans p2)
  | ct σ S => exact fun σV' H' G2 μ2 R s2 p2 => h σV' H' G2 μ2 R (s.trans s2) (p.trans p2)
  | exc x σ S => exact h
  | no => exact h
theorem SPost.seq {k : SemS} (h : SPost N c G μ E (o.seq k)) : SPost N c G μ { E with nx := rdS N c k E } o := by
  cases o with
  | nx σ S => exact fun σV' H' G2 μ2 R s2 p2 => ⟨G2, μ2, σ, S, R, SPost.mono (o := k σ S) h s2 p2⟩
  | ret r σ S => exact h
  | brk σ S => exact h
  | ct σ S => exact h
  | exc x σ S => exact h
  | no => exact h
theorem SPost.toS {α β : Type} {Is : Hp → List Addr → Fr → L2.St → Hp → β → α → Prop} {σV : L2.St} {Q : β → Hp → Prop} {o : Out α} {k : α → SemS} (h : SPost N c G μ E (o.toS k))
    (hq : ∀ a σ1 S1 b H1 G1 μ1, Rel N c.B G1 μ1 σ1 S1 σV H1 → Is G1 μ1 σ1 σV H1 b a → Same G G1 → Pre μ μ1 → SPost N c G1 μ1 E (k a σ1 S1) → Q b H1) : OPost N c Is G μ σV Q o := by
  cases o with
  | ok a σ S => exact fun b H' G2 μ2 R I s2 p2 => hq a σ S b H' G2 μ2 R I s2 p2 (SPost.mono (o := k a σ S) h s2 p2)
  | exc x σ S => exact fun cls d H' G' μ' R I => h cls d σV H' G' μ' R I
  | no => exact h
end
def sNx : SemS := fun σ S => .nx σ S
def sSeq (f g : SemS) : SemS := fun σ S => (f σ S).seq g
def sRet (f : SemO RV) : SemS := fun σ S => (f σ S).toS fun r σ S => .ret r σ S
def sRetN : SemS := fun σ S => .ret (.d .non) σ S
/-- return x: an owned object is handed out -/
def sRetV (i : Nat) : SemS := fun σ S => match σ[i]? with
  | some (some (.val d)) => .ret (.d d) σ S
  | some (some (.own ob)) => .ret (.f ob) (σ.set i none) S
  | _ => .no
def slOf : RV → Sl
  | .d d => .val d
  | .f ob => .own ob
def sSet (i : Nat) (f : SemO RV) : SemS := fun σ S => (f σ S).toS fun r σ S => .nx (σ.set i (some (slOf r))) S
/-- x = e, the new object is shared from now on -/
def sSetL (i : Nat) (f : SemO RV) : SemS := fun σ S => (f σ S).toS fun r σ S => match r with
  | .f ob => .nx (σ.set i (some (.val (.ref S.length)))) (S ++ [ob])
  | .d _ => .no
def sDrop (f : SemO RV) : SemS := fun σ S => (f σ S).toS fun _ σ S => .nx σ S
def sIfS (t : SemO Bool) (f g : SemS) : SemS := fun σ S => (t σ S).toS fun b σ S => if b then f σ S else g σ S
section
variable {X : Cx} {c : Cv} {st : Stmt} {rest : List Stmt} {e ce : Expr} {f g : SemS} {pos : Pos}
theorem js_nil : JSs X c [] sNx := pss_weak pss_nil fun E σV H q => by
  obtain ⟨G, μ, σ, S, R, q⟩ := q
  exact q σV H G μ R (Same.refl _) (Pre.refl _)
theorem js_cons (h : JS X c st f) (hr : JSs X c rest g) : JSs X c (st :: rest) (sSeq f g) := pss_weak (pss_cons h hr) fun E σV H q => by
  obtain ⟨G, μ, σ, S, R, q⟩ := q
  exact ⟨G, μ, σ, S, R, q.seq⟩
theorem js_one (h : JS X c st f) : JSs X c [st] f := pss_one h
theorem js_pass : JS X c (.Pass pos) sNx := ps_weak ps_pass fun E σV H q => by
  obtain ⟨G, μ, σ, S, R, q⟩ := q
  exact q σV H G μ R (Same.refl _) (Pre.refl _)
theorem js_brk : JS X c (.Break pos) (fun σ S => .brk σ S) := ps_weak ps_break fun E σV H q => by
  obtain ⟨G, μ, σ, S, R, q⟩ := q
  exact q σV H G μ R (Same.refl _) (Pre.refl _)
theorem js_ct : JS X c (.Continue pos) (fun σ S => .ct σ S) := ps_weak ps_continue fun E σV H q => by
  obtain ⟨G, μ, σ, S, R, q⟩ := q
  exact q σV H G μ R (Same.refl _) (Pre.refl _)
theorem js_doc {x j pos pos'} : JS X c (.Expr (.Constant (.str x) j pos) pos') sNx := ps_weak ps_doc fun E σV H q => by
  obtain ⟨G, μ, σ, S, R, q⟩ := q
  exact q σV H G μ R (Same.refl _) (Pre.refl _)
theorem js_ret {f : SemO RV} (h : JE X c e f) : JS X c (.Return (some e) pos) (sRet f) := ps_weak (ps_ret h) fun E σV H q => by
  obtain ⟨G, μ, σ, S, R, q⟩ := q
  exact ⟨G, μ, σ, S, R, SPost.toS q fun r σ1 S1 v H1 G1 μ1 R1 I1 s1 p1 q => q v σV H1 G1 μ1 R1 I1 (Same.refl _) (Pre.refl _)⟩
theorem js_retN : JS X c (.Return none pos) sRetN := ps_weak ps_retN fun E σV H q => by
  obtain ⟨G, μ, σ, S, R, q⟩ := q
  exact q _ σV H G μ R .non (Same.refl _) (Pre.refl _)
theorem js_retV (i : Nat) (h : PE X e (tVar i)) : JS X c (.Return (some e) pos) (sRetV i) := ps_weak (ps_ret h) fun E σV H q => by
  obtain ⟨G, μ, σ, S, R, q⟩ := q
  unfold sRetV at q
  cases hs : σ[i]? with
  | none => rw [hs] at q; exact q.elim
  | some x =>
    rw [hs] at q
    cases x with
    | none => exact q.elim
    | some x =>
      cases x with
      | val d =>
        obtain ⟨v, e1, r⟩ := R.slot i d hs
        exact ⟨v, e1, q v σV H G μ R r (Same.refl _) (Pre.refl _)⟩
      | own ob =>
        obtain ⟨a, e1, fr, no⟩ := R.take hs
        exact ⟨.ref a, e1, q _ σV H G μ (R.drop (i := i)) ⟨a, rfl, fr, no⟩ (Same.refl _) (Pre.refl _)⟩
theorem js_drop {f : SemO RV} (h : JE X c e f) (hs : swapsWith e none pos.line X.env = pure false := by rfl) : JS X c (.Expr e pos) (sDrop f) := ps_weak (ps_expr h hs) fun E σV H q => by
  obtain ⟨G, μ, σ, S, R, q⟩ := q
  exact ⟨G, μ, σ, S, R, SPost.toS q fun r σ1 S1 v H1 G1 μ1 R1 I1 s1 p1 q => q σV H1 G1 μ1 R1 (Same.refl _) (Pre.refl _)⟩
/-- a result goes into a slot -/
theorem Rel.setRV {N : Nv} {B : Bs} {G : Hp} {μ : List Addr} {σ : Fr} {S : Sto} {σV : L2.St} {H : Hp} {v : V} {r : RV} {i : Nat} (R : Rel N B G μ σ S σV H) (I : RvIs N B G μ σ σV H v r) : Rel N B G μ (σ.set i (some (slOf r))) S (σV.set i (some v)) H := by
  cases r with
  | d d => exact R.set I
  | f ob =>
    obtain ⟨a, rfl, fr, no⟩ := I
    exact R.setOwn fr no
theorem js_set (i : Nat) {x : Str} {f : SemO RV} {pos' : Pos} (hN : X.N.Nodup) (hi : X.N[i]? = some x) (hx : Loc X.env.scope x) (he : JE X c e f) (hs : swapsWith e (some (.Name x pos')) pos.line X.env = pure false := by rfl) (hf : X.fn x = true ∨ X.env.scope.names.lookup x = some .local := by first | exact .inl rfl | exact .inr rfl | assumption) :
    JS X c (.Assign [.Name x pos'] e pos) (sSet i f) := ps_weak (ps_set hN hi hx he hs hf) fun E σV H q => by
  obtain ⟨G, μ, σ, S, R, q⟩ := q
  exact ⟨G, μ, σ, S, R, SPost.toS q fun r σ1 S1 v H1 G1 μ1 R1 I1 s1 p1 q => q _ H1 G1 μ1 (R1.setRV I1) (Same.refl _) (Pre.refl _)⟩
theorem rd_setL {i : Nat} {N : Nv} {f : SemO RV} {E : Ends} {σV : L2.St} {H : Hp} (q : rdS N c (sSetL i f) E σV H) : tAsg (rd N c (isRV N c) f) (gName i) E σV H := by
  obtain ⟨G, μ, σ, S, R, q⟩ := q
  refine ⟨G, μ, σ, S, R, SPost.toS q fun r σ1 S1 v H1 G1 μ1 R1 I1 s1 p1 q => ?_⟩
  cases r with
  | d d => exact q.elim
  | f ob =>
    obtain ⟨a, rfl, fr, no⟩ := I1
    have R2 := (R1.alloc fr no).set (i := i) (v := .ref a) (d := .ref S1.length) (.ref (by rw [R1.sl]; simp))
    exact q _ H1 G1 _ R2 (Same.refl _) ⟨[a], rfl⟩
theorem js_setL (i : Nat) {x : Str} {f : SemO RV} {pos' : Pos} (hN : X.N.Nodup) (hi : X.N[i]? = some x) (hx : Loc X.env.scope x) (he : JE X c e f) (hs : swapsWith e (some (.Name x pos')) pos.line X.env = pure false := by rfl) (hf : X.fn x = true ∨ X.env.scope.names.lookup x = some .local := by first | exact .inl rfl | exact .inr rfl | assumption) :
    JS X c (.Assign [.Name x pos'] e pos) (sSetL i f) := ps_weak (ps_set hN hi hx he hs hf) fun E σV H q => rd_setL q
theorem js_if {t : SemO Bool} {a b : List Stmt} (hc : JT X c ce t) (ha : JSs X c a f) (hb : JSs X c b g) : JS X c (.If ce a b pos) (sIfS t f g) := ps_weak (ps_if hc ha hb) fun E σV H q => by
  obtain ⟨G, μ, σ, S, R, q⟩ := q
  refine ⟨G, μ, σ, S, R, SPost.toS q fun x σ1 S1 v H1 G1 μ1 R1 I1 s1 p1 q => ?_⟩
  have I1 : v = x := I1
  subst I1
  cases v with
  | true => exact iteT ⟨G1, μ1, σ1, S1, R1, q⟩
  | false => exact iteF ⟨G1, μ1, σ1, S1, R1, q⟩
end

/-! ### a def's promise -/
structure Ent (N : Nv) (G : Hp) (μ : List Addr) (S : Sto) (H : Hp) : Prop where
  gh : Same G H
  nd : μ.Nodup
  sl : S.length = μ.length
  sto : ∀ (n : Nat) (a : Addr) (ob : Ob), μ[n]? = some a → S[n]? = some ob → LocIs N G μ H a ob
def FrC (N : Nv) (H0 G : Hp) (μ : List Addr) (H : Hp) (v : V) : RV → Prop
  | .d d => DR N.K G μ v d
  | .f ob => ∃ a, v = .ref a ∧ a ∉ μ ∧ H0 a = none ∧ G a = none ∧ ObIs N G μ H a ob
structure Aft (N : Nv) (H G : Hp) (μ : List Addr) (H' G' : Hp) (μ' : List Addr) (S' : Sto) : Prop where
  ent : Ent N G' μ' S' H'
  gg : Same G G'
  gb : ∀ b o, G' b = some o → G b = some o ∨ H b = none
  fr : ∀ b o, H b = some o → b ∉ μ → H' b = some o
  mu : ∃ ν, μ' = μ ++ ν ∧ ∀ a ∈ ν, H a = none
def CPost (N : Nv) (H G : Hp) (μ : List Addr) (Q : VK) (E : XK) : COut → Prop
  | .ok r S' => ∀ v H' G' μ', Aft N H G μ H' G' μ' S' → FrC N H G' μ' H' v r → Q v H'
  | .exc x S' => ∀ cls d H' G' μ', Aft N H G μ H' G' μ' S' → ExIs N G' μ' H' cls d x → E cls d H'
  | .no => False
def spOf (N : Nv) (g : SemC) : Sp := fun vs H Q E => ∃ G μ ds S, Ent N G μ S H ∧ DRs N.K G μ vs ds ∧ CPost N H G μ Q E (g ds S)
/-- a body as a def: n names, p of them parameters -/
def runB (n p : Nat) (f : SemS) : SemC := fun ds S => if ds.length = p then (match f (ds.map (fun d => some (.val d)) ++ List.replicate (n - p) none) S with
    | .nx _ S' => .ok (.d .non) S'
    | .ret r _ S' => .ok r S'
    | .exc x _ S' => .exc x S'
    | _ => .no) else .no
section
variable {N : Nv} {B : Bs} {G G' : Hp} {μ μ' : List Addr} {σ : Fr} {S S' : Sto} {σV : L2.St} {H H' : Hp} {v : V} {r : RV}
theorem Rel.ent (R : Rel N B G μ σ S σV H) : Ent N G μ S H := ⟨R.gh, R.nd, R.sl, R.sto⟩
theorem Aft.pre (A : Aft N H G μ H' G' μ' S') : Pre μ μ' := let ⟨ν, e, _⟩ := A.mu; ⟨ν, e⟩
theorem Rel.call (R : Rel N B G μ σ S σV H) (A : Aft N H G μ H' G' μ' S') : Rel N B G' μ' σ S' σV H' := by
  obtain ⟨ν, rfl, hν⟩ := A.mu
  have p : Pre μ (μ ++ ν) := ⟨ν, rfl⟩
  refine ⟨A.ent.gh, R.bg.trans A.gg, fun b o q => ?_, fun b o q m => ?_, ?_, A.ent.nd, A.ent.sl, A.ent.sto, R.len, fun i d q => ?_, fun i ob q => ?_, R.dst⟩
  · rcases A.gb b o q with q | q
    · exact R.gb b o q
    · exact .inr (R.freeB q)
  · refine A.fr b o (R.fr b o q m) fun hm => ?_
    obtain ⟨ν', e, hν'⟩ := R.mu
    rw [e] at hm
    rcases List.mem_append.mp hm with hm | hm
    · exact m hm
    · rw [hν' b hm] at q; cases q
  · obtain ⟨ν', e, hν'⟩ := R.mu
    refine ⟨ν' ++ ν, by rw [e, List.append_assoc], fun a ha => ?_⟩
    rcases List.mem_append.mp ha with ha | ha
    · exact hν' a ha
    · exact R.freeB (hν a ha)
  · obtain ⟨v, e1, r⟩ := R.slot i d q
    exact ⟨v, e1, r.mono A.gg p⟩
  · obtain ⟨a, e1, f1, f2, f3, f4⟩ := R.own i ob q
    obtain ⟨o, ho⟩ := f4.there
    refine ⟨a, e1, fun hm => ?_, f2, ?_, f4.mono A.gg p ((A.fr a o ho f1).trans ho.symm)⟩
    · rcases List.mem_append.mp hm with hm | hm
      · exact f1 hm
      · rw [hν a hm] at ho; cases ho
    · cases hg : G' a with
      | none => rfl
      | some u =>
        rcases A.gb a u hg with q | q
        · rw [f3] at q; cases q
        · rw [ho] at q; cases q
theorem Rel.callRV (R : Rel N B G μ σ S σV H) (A : Aft N H G μ H' G' μ' S') (h : FrC N H G' μ' H' v r) : RvIs N B G' μ' σ σV H' v r := by
  cases r with
  | d d => exact h
  | f ob =>
    obtain ⟨a, e, h1, h2, h3, h4⟩ := h
    exact ⟨a, e, ⟨h1, R.freeB h2, h3, h4⟩, R.freeOwn h2⟩
end
def sCall (g : SemC) (dd : List D) (f : SemO (List D)) : SemO RV := fun σ S => (f σ S).bind fun ds σ S => match g (ds ++ dd) S with
  | .ok r S' => .ok r σ S'
  | .exc x S' => .exc x σ S'
  | .no => .no
section
variable {X : Cx} {c : Cv} {e : Expr} {es : List Expr}
theorem rd_call {N : Nv} {g : SemC} {dd : List D} {dv : List V} {f : SemO (List D)} {σV : L2.St} {H : Hp} {Q : VK} (hd : ∀ G μ, DRs N.K G μ dv dd) (q : rd N c (isRV N c) (sCall g dd f) σV H Q) :
    tCallSD (spOf N g) dv (fun σ cls d H => c.W cls d σ H) (rd N c (isDs N) f) σV H Q := by
  obtain ⟨G, μ, σ, S, R, q⟩ := q
  refine ⟨G, μ, σ, S, R, OPost.bind q fun ds σ1 S1 vs H1 G1 μ1 R1 I1 s1 p1 q => ?_⟩
  refine ⟨G1, μ1, ds ++ dd, S1, R1.ent, I1.append (hd G1 μ1), ?_⟩
  cases hg : g (ds ++ dd) S1 with
  | ok r S' =>
    rw [hg] at q
    exact fun v H' G' μ' A I => q v H' G' μ' (R1.call A) (R1.callRV A I) A.gg A.pre
  | exc x S' =>
    rw [hg] at q
    exact fun cls d H' G' μ' A I => q cls d H' G' μ' (R1.call A) I
  | no =>
    rw [hg] at q
    exact q
variable {CX : CXT} {k : Nat} {f : Addr} {fd : FuncData} {ps : List Str} {x : Str} {p pos : Pos}
theorem je_call {g : SemC} {dd : List D} {dv : List V} {ds : List Value} {fs : SemO (List D)} (F : FnOk X.prog X.w X.K X.mg X.base CX k f fd ps (spOf (nv X c) g)) (hr : Room k X.A) (hg : Gl X x) (hm : X.mg x = some (.ref f)) (hk : PySem.W.keepIn X.K (.ref f) = true)
    (hb : Binds X.K fd ps ds) (hd : Vals dv ds) (hdd : ∀ G μ, DRs X.K G μ dv dd) (hx : ∀ σ, PassesAt CX X σ (fun cls d H => c.W cls d σ H)) (ha : JDs X c (e :: es) fs) (hdb : (x == ("__debug__" : Str)) = false := by decide)
    (he : starEach (e :: es) X.env = (false, eval e X.env) :: starEach es X.env := by rfl) (hpl : (backTo pos (starEach es X.env)).any (·.1) = false := by rfl) : JE X c (.Call (.Name x p) (e :: es) [] pos) (sCall g dd fs) :=
  pe_weak (pe_callSD F hr hg hm hk hb hd hx ha hdb he hpl) fun _ _ _ q => rd_call hdd q
end
/-- THE RULE for a def: its body's meaning is its promise -/
theorem fn_ok {P : Program} {w : World} {K : PySem.W.Frag} {mg : Str → Option Value} {base : Heap} {CX : CXT} {k : Nat} {f : Addr} {fd : FuncData} {N ps : List Str} {qual : Str} {scope : Scope} {body : List Stmt} {ct : Nat → Addr} {s : SemS} (S : FnScope N ps scope)
    (F : ∀ {sp : Sp}, (∀ vs H Q E, sp vs H Q E → vs.length = ps.length) → (∀ (cdv : Value) (A : Around) (outer : List Env) (s : Shared) (H : Hp) (vs : List V) (Q : VK) (E : XK), Room k (A.deeper (envOfC qual scope s.heap.objs.size f cdv)) → sp vs H Q E →
      ∃ t, PSs (cxOf CX P w K mg base N qual scope f cdv A outer s H E) body t ∧ t { nx := fun _ H' => Q .non H', rt := Q } (L2.start N vs) H) → FnOk P w K mg base CX (k + 1) f fd ps sp)
    (hp : ps.length ≤ N.length)
    (hb : ∀ (cdv : Value) (A : Around) (outer : List Env) (s' : Shared) (H : Hp) (E : XK) (B : Bs), Room k (A.deeper (envOfC qual scope s'.heap.objs.size f cdv)) →
      JSs (cxOf CX P w K mg base N qual scope f cdv A outer s' H E) ⟨ct, B, fun cls d _ H => E cls d H⟩ body s) : FnOk P w K mg base CX (k + 1) f fd ps (spOf ⟨K, ct⟩ (runB N.length ps.length s)) := by
  refine F (fun vs H Q E h => ?_) fun cdv A outer s' H vs Q E hr h => ?_
  · obtain ⟨G, μ, ds, St, en, dr, q⟩ := h
    unfold runB at q
    by_cases hl : ds.length = ps.length
    · rw [dr.length, hl]
    · rw [if_neg hl] at q; exact q.elim
  · obtain ⟨G, μ, ds, St, en, dr, q⟩ := h
    unfold runB at q
    by_cases hl : ds.length = ps.length
    · rw [if_pos hl] at q
      refine ⟨_, hb cdv A outer s' H E ⟨H, G, μ⟩ hr, G, μ, ds.map (fun d => some (.val d)) ++ List.replicate (N.length - ps.length) none, St, ?_, ?_⟩
      · have at_ : ∀ {i : Nat} {x : Sl}, (ds.map (fun d => some (Sl.val d)) ++ List.replicate (N.length - ps.length) none)[i]? = some (some x) → ∃ d, ds[i]? = some d ∧ x = .val d := fun {i x} e => by
          by_cases hi : i < ds.length
          · rw [List.getElem?_append_left (by rw [List.length_map]; exact hi), List.getElem?_map, List.getElem?_eq_getElem hi] at e
            refine ⟨ds[i], List.getElem?_eq_getElem hi, ?_⟩
            simpa using e.symm
          · rw [List.getElem?_append_right (by rw [List.length_map]; omega), List.getElem?_replicate] at e
            split at e <;> cases e
        refine ⟨en.gh, Same.refl _, fun b o q => .inl q, fun b o q _ => q, ⟨[], by simp, by simp⟩, en.nd, en.sl, en.sto, ?_, fun i d e => ?_, fun i ob e => ?_, fun i j ob ob' a e => ?_⟩
        · unfold L2.start
          rw [List.length_append, List.length_append, List.length_map, List.length_map, List.length_replicate, List.length_replicate, dr.length, hl]
        · obtain ⟨d', e1, e2⟩ := at_ e
          cases e2
          obtain ⟨v, e3, r⟩ := dr.at e1
          refine ⟨v, ?_, r⟩
          unfold L2.start
          rw [List.getElem?_append_left (by rw [List.length_map]; exact (List.getElem?_eq_some_iff.mp e3).1), List.getElem?_map, e3]
          rfl
        · obtain ⟨d', e1, e2⟩ := at_ e
          cases e2
        · obtain ⟨d', e1, e2⟩ := at_ e
          cases e2
      · have aft : ∀ {σ' : Fr} {S' : Sto} {σV' : L2.St} {H' G' : Hp} {μ' : List Addr}, Rel ⟨K, ct⟩ ⟨H, G, μ⟩ G' μ' σ' S' σV' H' → Aft ⟨K, ct⟩ H G μ H' G' μ' S' := fun R =>
          ⟨R.ent, R.bg, R.gb, R.fr, R.mu⟩
        cases hf : s (ds.map (fun d => some (.val d)) ++ List.replicate (N.length - ps.length) none) St with
        | nx σ' S' =>
          rw [hf] at q
          exact fun σV' H' G' μ' R s p => q .non H' G' μ' (aft R) .non
        | ret r σ' S' =>
          rw [hf] at q
          refine fun v σV' H' G' μ' R I s p => q v H' G' μ' (aft R) ?_
          cases r with
          | d d => exact I
          | f ob =>
            obtain ⟨a, e, ⟨h1, h2, h3, h4⟩, _⟩ := I
            exact ⟨a, e, h1, h2, h3, h4⟩
        | exc x σ' S' =>
          rw [hf] at q
          exact fun cls d σV' H' G' μ' R I => q cls d H' G' μ' (aft R) I
        | brk σ' S' => rw [hf] at q; exact q.elim
        | ct σ' S' => rw [hf] at q; exact q.elim
        | no => rw [hf] at q; exact q.elim
    · rw [if_neg hl] at q; exact q.elim
end Fw

namespace Fw
open PySem PySem.Spec PyProof.Rows L2

/-! ### targets -/
def Agr (is : List Nat) (σ σ' : L2.St) : Prop := σ'.length = σ.length ∧ ∀ j, j ∉ is → σ'[j]? = σ[j]?
theorem Agr.refl (is : List Nat) (σ : L2.St) : Agr is σ σ := ⟨rfl, fun _ _ => rfl⟩
theorem Agr.trans {is : List Nat} {a b c : L2.St} (h : Agr is a b) (h' : Agr is b c) : Agr is a c := ⟨h'.1.trans h.1, fun j hj => (h'.2 j hj).trans (h.2 j hj)⟩
theorem Agr.mono {is is' : List Nat} {a b : L2.St} (h : Agr is a b) (s : ∀ i ∈ is, i ∈ is') : Agr is' a b := ⟨h.1, fun j hj => h.2 j fun m => hj (s j m)⟩
theorem wipe_get (σ : L2.St) (j : Nat) : ∀ is : List Nat, (wipe σ is)[j]? = if j ∈ is then (if j < σ.length then some none else none) else σ[j]?
  | [] => by simp [wipe]
  | i :: is => by
    have ih := wipe_get σ j is
    unfold wipe
    rw [set_get, wipe_length]
    by_cases e : i = j
    · subst e; simp
    · rw [if_neg e, ih]
      have e' : ¬ j = i := fun z => e z.symm
      simp [e']
theorem wipe_wipe {is : List Nat} {σ : L2.St} : L2.wipe (L2.wipe σ is) is = L2.wipe σ is := by
  apply List.ext_getElem?
  intro j
  rw [wipe_get _ j, wipe_length, wipe_get σ j]
  split <;> rfl
theorem Agr.wipe {is : List Nat} {σ σ' : L2.St} (h : Agr is σ σ') : L2.wipe σ' is = L2.wipe σ is := by
  apply List.ext_getElem?
  intro j
  rw [wipe_get, wipe_get, h.1]
  split
  · rfl
  · rename_i hj; exact h.2 j hj
theorem agr_of_wipe {is : List Nat} {σ σ' : L2.St} (h : L2.wipe σ' is = L2.wipe σ is) : Agr is σ σ' := by
  refine ⟨?_, fun j hj => ?_⟩
  · have := congrArg List.length h
    rwa [wipe_length, wipe_length] at this
  · have e := congrArg (·[j]?) h
    simp only [wipe_get, if_neg hj] at e
    exact e
def rdG (N : Nv) (c : Cv) (is : List Nat) (g : D → Fr → Option Fr) : TG := fun v σV H Q =>
  ∃ G μ σ S d, Rel N c.B G μ σ S σV H ∧ DR N.K G μ v d ∧ match g d σ with
    | some σ' => ∀ σV', Rel N c.B G μ σ' S σV' H → Agr is σV σV' → Q σV' H
    | none => False
def rdGs (N : Nv) (c : Cv) (is : List Nat) (g : List D → Fr → Option Fr) : TGs := fun v σV H Q =>
  ∃ G μ σ S d, Rel N c.B G μ σ S σV H ∧ DRs N.K G μ v d ∧ match g d σ with
    | some σ' => ∀ σV', Rel N c.B G μ σ' S σV' H → Agr is σV σV' → Q σV' H
    | none => False
def JG (X : Cx) (c : Cv) (tg : Expr) (is : List Nat) (g : D → Fr → Option Fr) : Prop := PG X tg (rdG (nv X c) c is g)
def JGs (X : Cx) (c : Cv) (tg : List Expr) (is : List Nat) (g : List D → Fr → Option Fr) : Prop := PGs X tg (rdGs (nv X c) c is g)
theorem pg_weak {X : Cx} {e : Expr} {t t' : TG} (h : PG X e t) (hh : ∀ v σ H Q, t' v σ H Q → t v σ H Q) : PG X e t' := ⟨fun pins s σ H v u Q I r q => h.run pins s σ H v u Q I r (hh v σ H Q q)⟩
theorem pgs_weak {X : Cx} {e : List Expr} {t t' : TGs} (h : PGs X e t) (hh : ∀ v σ H Q, t' v σ H Q → t v σ H Q) : PGs X e t' := ⟨fun pins s σ H v u Q I r q => h.run pins s σ H v u Q I r (hh v σ H Q q)⟩
def gN (i : Nat) : D → Fr → Option Fr := fun d σ => some (σ.set i (some (.val d)))
def gsNil : List D → Fr → Option Fr := fun ds σ => match ds with
  | [] => some σ
  | _ => none
def gsCons (g : D → Fr → Option Fr) (gs : List D → Fr → Option Fr) : List D → Fr → Option Fr := fun ds σ => match ds with
  | d :: ds => match g d σ with
    | some σ' => gs ds σ'
    | none => none
  | [] => none
def gT (n : Nat) (gs : List D → Fr → Option Fr) : D → Fr → Option Fr := fun d σ => match d with
  | .tup ds => if ds.length = n then gs ds σ else none
  | _ => none
theorem agr_set (σ : L2.St) (i : Nat) (x : Option V) : Agr [i] σ (σ.set i x) := ⟨by rw [List.length_set], fun j hj => List.getElem?_set_ne fun e => hj (by rw [e]; exact List.mem_singleton.mpr rfl)⟩
section
variable {X : Cx} {c : Cv} {pos : Pos}
theorem jg_name (i : Nat) {x : Str} (hN : X.N.Nodup) (hi : X.N[i]? = some x) (hx : Loc X.env.scope x) (hf : X.fn x = true ∨ X.env.scope.names.lookup x = some .local := by first | exact .inl rfl | exact .inr rfl | assumption) : JG X c (.Name x pos) [i] (gN i) :=
  pg_weak (pg_name hN hi hx hf) fun v σV H Q q => by
    obtain ⟨G, μ, σ, S, d, R, h, q⟩ := q
    exact q _ (R.set h) (agr_set _ _ _)
theorem jgs_nil : JGs X c [] [] gsNil := pgs_weak pgs_nil fun v σV H Q q => by
  obtain ⟨G, μ, σ, S, d, R, h, q⟩ := q
  cases h with
  | nil => exact ⟨rfl, q _ R (Agr.refl _ _)⟩
  | cons a t => exact q.elim
theorem jgs_cons {e : Expr} {es : List Expr} {is js : List Nat} {g : D → Fr → Option Fr} {gs : List D → Fr → Option Fr} (h1 : JG X c e is g) (h2 : JGs X c es js gs)
    (hm : List.map (fun x => x.snd) (assignEach (e :: es) X.env) = assign e X.env :: List.map (fun x => x.snd) (assignEach es X.env) := by rfl) : JGs X c (e :: es) (is ++ js) (gsCons g gs) := pgs_weak (pgs_cons h1 h2 hm) fun v σV H Q q => by
  obtain ⟨G, μ, σ, S, d, R, h, q⟩ := q
  cases h with
  | nil => exact q.elim
  | @cons v vs d ds a t =>
    refine ⟨v, vs, rfl, G, μ, σ, S, d, R, a, ?_⟩
    unfold gsCons at q
    simp only at q
    cases hg : g d σ with
    | none => rw [hg] at q; exact q.elim
    | some σ' =>
      rw [hg] at q
      intro σV' R' ag
      refine ⟨G, μ, σ', S, ds, R', t, ?_⟩
      cases hg2 : gs ds σ' with
      | none => simp only [hg2] at q
      | some σ2 =>
        simp only [hg2] at q
        exact fun σV2 R2 ag2 => q σV2 R2 ((ag.mono fun i hi => List.mem_append_left _ hi).trans (ag2.mono fun i hi => List.mem_append_right _ hi))
theorem jg_tup {es : List Expr} {k n : Nat} {is : List Nat} {gs : List D → Fr → Option Fr} (hc : X.calm = true) (h : JGs X c es is gs) (h1 : (assignEach es X.env).length = n := by rfl)
    (h2 : List.findIdx? (fun x => x.fst) (assignEach es X.env) = none := by rfl) : JG X c (.Tuple es k pos) is (gT n gs) := pg_weak (pg_tup hc h h1 h2) fun v σV H Q q => by
  obtain ⟨G, μ, σ, S, d, R, h, q⟩ := q
  cases h with
  | @tup a xs ds h1 h2 =>
    unfold gT at q
    simp only at q
    by_cases hl : ds.length = n
    · rw [if_pos hl] at q
      exact ⟨a, xs, rfl, Same.tup R.gh h1, by rw [h2.length, hl], G, μ, σ, S, ds, R, h2, q⟩
    · rw [if_neg hl] at q; exact q.elim
  | _ => exact q.elim
end
/-- target = e -/
def sAsg (g : D → Fr → Option Fr) (f : SemO D) : SemS := fun σ S => (f σ S).toS fun d σ S => match g d σ with
  | some σ' => .nx σ' S
  | none => .no
theorem js_asg {X : Cx} {c : Cv} {pos : Pos} {tg e : Expr} {is : List Nat} {f : SemO D} {g : D → Fr → Option Fr} (he : JD X c e f) (hg : JG X c tg is g) (h1 : swapsWithSole [tg] e pos.line X.env = pure false := by rfl) (h2 : swappedStores [tg] e X.env = pure none := by rfl)
    (h3 : List.map (fun x => x.snd) (assignEach [tg] X.env) = [assign tg X.env] := by rfl) : JS X c (.Assign [tg] e pos) (sAsg g f) := ps_weak (ps_asg he hg h1 h2 h3) fun E σV H q => by
  obtain ⟨G, μ, σ, S, R, q⟩ := q
  refine ⟨G, μ, σ, S, R, SPost.toS q fun d σ1 S1 v H1 G1 μ1 R1 I1 s1 p1 q => ⟨G1, μ1, σ1, S1, d, R1, I1, ?_⟩⟩
  cases hg : g d σ1 with
  | none => rw [hg] at q; exact q.elim
  | some σ' =>
    rw [hg] at q
    exact fun σV' R' _ => q σV' H1 G1 μ1 R' (Same.refl _) (Pre.refl _)

/-! ### what a loop walks -/
def ItIs (N : Nv) (G : Hp) (μ : List Addr) (J : It) (ds : List D) : Prop := ∀ (i : Nat) (G' : Hp) (μ' : List Addr) (H : Hp), Same G G' → Same G' H → Pre μ μ' →
  (∀ d, ds[i]? = some d → J.go i H ∧ ∀ x H', J.yld i H x H' → NR N G' μ' H x H' (.d d)) ∧ (ds.length ≤ i → J.stop i H)
abbrev isIt (N : Nv) : Hp → List Addr → Fr → L2.St → Hp → It → List D → Prop := fun G μ _ _ _ J ds => ItIs N G μ J ds
def JI (X : Cx) (c : Cv) (tg iter : Expr) (h : SemO (List D)) : Prop := PI X tg iter (rd (nv X c) c (isIt (nv X c)) h)
theorem pi_weak {X : Cx} {e e' : Expr} {t t' : TI} (h : PI X e e' t) (hh : ∀ σ H Q, t' σ H Q → t σ H Q) : PI X e e' t' := ⟨fun pins s σ H Q I q => h.run pins s σ H Q I (hh σ H Q q)⟩
def lstOf : D → Option (List D)
  | .lst ds => some ds
  | _ => none
def tupOf : D → Option (List D)
  | .tup ds => some ds
  | _ => none
def intOf : D → Option Int
  | .int i => some i
  | _ => none
/-- a list, a tuple as data -/
def sItL (f : SemO D) : SemO (List D) := fun σ S => (f σ S).bind fun d => liftO (lstOf d)
def sItT (f : SemO D) : SemO (List D) := fun σ S => (f σ S).bind fun d => liftO (tupOf d)
def rngD (lo : Int) (n : Nat) : List D := (List.range n).map fun (k : Nat) => .int (lo + (k : Int))
def rng62 (i : Int) : Bool := decide (-(2 ^ 62) ≤ i) && decide (i < 2 ^ 62)
def sIt1 (f : SemO (List D)) : SemO (List D) := fun σ S => (f σ S).bind fun ds => liftO (match ds with
  | [.int j] => if rng62 j then some (rngD 0 j.toNat) else none
  | _ => none)
def sIt2 (f : SemO (List D)) : SemO (List D) := fun σ S => (f σ S).bind fun ds => liftO (match ds with
  | [.int i, .int j] => if rng62 i && rng62 j then some (rngD i (j - i).toNat) else none
  | _ => none)
theorem rngD_at {lo : Int} {n i : Nat} {d : D} (h : (rngD lo n)[i]? = some d) : i < n ∧ d = .int (lo + (i : Int)) := by
  unfold rngD at h
  rw [List.getElem?_map] at h
  cases e : (List.range n)[i]? with
  | none => rw [e] at h; cases h
  | some k =>
    rw [e] at h
    obtain ⟨hl, e⟩ := List.getElem?_eq_some_iff.mp e
    rw [List.length_range] at hl
    rw [List.getElem_range] at e
    subst e
    exact ⟨hl, (Option.some.inj h).symm⟩
theorem rngD_it {N : Nv} {G : Hp} {μ : List Addr} {lo : Int} {n : Nat} : ItIs N G μ (Itr lo n) (rngD lo n) := fun i G' μ' H s1 s2 p => ⟨fun d h => by
    obtain ⟨hi, rfl⟩ := rngD_at h
    refine ⟨hi, fun x H' y => ?_⟩
    obtain ⟨rfl, rfl⟩ := y
    exact .val (.int _), fun h => by
    unfold rngD at h
    rw [List.length_map, List.length_range] at h
    exact h⟩
section
variable {X : Cx} {c : Cv} {tg e a b : Expr} {pos p : Pos}
theorem ji_list {f : SemO D} (h : JD X c e f) : JI X c tg e (sItL f) := pi_weak (pi_list h) fun σV H Q q => by
  obtain ⟨G, μ, σ, S, R, q⟩ := q
  refine ⟨G, μ, σ, S, R, OPost.bind q fun d σ1 S1 v H1 G1 μ1 R1 I1 s1 p1 q => ?_⟩
  cases I1 with
  | @lst a xs ds h1 h2 =>
    refine ⟨a, rfl, ⟨xs, SqL.of (R1.gh _ _ h1)⟩, q (Itl X.K a) H1 G1 μ1 R1 (fun i G' μ' H' s1 s2 p => ⟨fun d e => ?_, fun hl => ?_⟩) (Same.refl _) (Pre.refl _)⟩
    · obtain ⟨x, e1, r⟩ := h2.at e
      refine ⟨⟨xs, x, SqL.of ((s1.trans s2) _ _ h1), e1⟩, fun y H2 yl => ?_⟩
      obtain ⟨rfl, hy⟩ := yl
      have e2 := hy xs (SqL.of ((s1.trans s2) _ _ h1))
      rw [e1] at e2
      cases e2
      exact .val (r.mono s1 p)
    · exact ⟨xs, SqL.of ((s1.trans s2) _ _ h1), by rw [h2.length]; exact hl⟩
  | _ => exact q.elim
theorem ji_tup {f : SemO D} (h : JD X c e f) : JI X c tg e (sItT f) := pi_weak (pi_tup h) fun σV H Q q => by
  obtain ⟨G, μ, σ, S, R, q⟩ := q
  refine ⟨G, μ, σ, S, R, OPost.bind q fun d σ1 S1 v H1 G1 μ1 R1 I1 s1 p1 q => ?_⟩
  cases I1 with
  | @tup a xs ds h1 h2 =>
    refine ⟨a, rfl, ⟨xs, Same.tup R1.gh h1⟩, q (Itt X.K a) H1 G1 μ1 R1 (fun i G' μ' H' s1 s2 p => ⟨fun d e => ?_, fun hl => ?_⟩) (Same.refl _) (Pre.refl _)⟩
    · obtain ⟨x, e1, r⟩ := h2.at e
      refine ⟨⟨xs, x, Same.tup (s1.trans s2) h1, e1⟩, fun y H2 yl => ?_⟩
      obtain ⟨rfl, hy⟩ := yl
      have e2 := hy xs (Same.tup (s1.trans s2) h1)
      rw [e1] at e2
      cases e2
      exact .val (r.mono s1 p)
    · exact ⟨xs, Same.tup (s1.trans s2) h1, by rw [h2.length]; exact hl⟩
  | _ => exact q.elim
theorem rng62_ok {i : Int} (h : rng62 i = true) : -(2 ^ 62) ≤ i ∧ i < 2 ^ 62 := by
  unfold rng62 at h
  rw [Bool.and_eq_true] at h
  exact ⟨of_decide_eq_true h.1, of_decide_eq_true h.2⟩
theorem ji_range1 {f : SemO (List D)} (hg : Gl X "range") (hm : X.mg "range" = none) (h : JDs X c [a] f) (hs : starEach [a] X.env = [(false, eval a X.env)] := by rfl) : JI X c tg (.Call (.Name "range" p) [a] [] pos) (sIt1 f) := pi_weak (pi_range1 hg hm h hs) fun σV H Q q => by
  obtain ⟨G, μ, σ, S, R, q⟩ := q
  refine ⟨G, μ, σ, S, R, OPost.bind q fun ds σ1 S1 vs H1 G1 μ1 R1 I1 s1 p1 q => ?_⟩
  cases I1 with
  | nil => exact q.elim
  | cons r t =>
    cases t with
    | cons r' t' => cases r <;> exact q.elim
    | nil =>
      cases r with
      | int j =>
        by_cases hj : rng62 j = true
        · simp only [hj] at q
          exact ⟨j, rfl, (rng62_ok hj).1, (rng62_ok hj).2, q _ H1 G1 μ1 R1 rngD_it (Same.refl _) (Pre.refl _)⟩
        · simp only [hj] at q; exact q.elim
      | _ => exact q.elim
theorem ji_range2 {f : SemO (List D)} (hg : Gl X "range") (hm : X.mg "range" = none) (h : JDs X c [a, b] f) (hs : starEach [a, b] X.env = [(false, eval a X.env), (false, eval b X.env)] := by rfl) (hs2 : starEach [b] X.env = [(false, eval b X.env)] := by rfl) :
    JI X c tg (.Call (.Name "range" p) [a, b] [] pos) (sIt2 f) := pi_weak (pi_range2 hg hm h hs hs2) fun σV H Q q => by
  obtain ⟨G, μ, σ, S, R, q⟩ := q
  refine ⟨G, μ, σ, S, R, OPost.bind q fun ds σ1 S1 vs H1 G1 μ1 R1 I1 s1 p1 q => ?_⟩
  cases I1 with
  | nil => exact q.elim
  | cons r t =>
    cases t with
    | nil => cases r <;> exact q.elim
    | cons r' t' =>
      cases t' with
      | cons r2 t2 => cases r <;> cases r' <;> exact q.elim
      | nil =>
        cases r with
        | int i =>
          cases r' with
          | int j =>
            by_cases hj : (rng62 i && rng62 j) = true
            · simp only [hj] at q
              rw [Bool.and_eq_true] at hj
              exact ⟨i, j, rfl, ⟨(rng62_ok hj.1).1, (rng62_ok hj.1).2, (rng62_ok hj.2).1, (rng62_ok hj.2).2⟩, q _ H1 G1 μ1 R1 rngD_it (Same.refl _) (Pre.refl _)⟩
            · simp only [hj] at q; exact q.elim
          | _ => exact q.elim
        | _ => exact q.elim
end

/-! ### loops -/
def forF (g : D → Fr → Option Fr) (b : SemS) : List D → SemS
  | [] => sNx
  | d :: ds => fun σ S => match g d σ with
    | some σ' => (match b σ' S with
      | .nx σ S => forF g b ds σ S
      | .ct σ S => forF g b ds σ S
      | .brk σ S => .nx σ S
      | o => o)
    | none => .no
def sFor (h : SemO (List D)) (g : D → Fr → Option Fr) (b : SemS) : SemS := fun σ S => (h σ S).toS fun ds => forF g b ds
def whileF (t : SemO Bool) (b : SemS) : Nat → SemS
  | 0 => fun _ _ => .no
  | n + 1 => fun σ S => (t σ S).toS fun v σ S => if v then (match b σ S with
      | .nx σ S => whileF t b n σ S
      | .ct σ S => whileF t b n σ S
      | .brk σ S => .nx σ S
      | o => o) else .nx σ S
section
variable {X : Cx} {c : Cv} {tg e : Expr} {pos : Pos} {body : List Stmt} {b : SemS}
theorem js_for {is : List Nat} {h : SemO (List D)} {g : D → Fr → Option Fr} (hp : PassesOwn (model X.prog X.w) X.A X.env X.xe) (hc : X.calm = true) (hi : JI X c tg e h) (hg : JG X c tg is g) (hb : JSs X c body b)
    (hs : ∀ x, foldedSetIterable e X.env x = pure x := by intro _; rfl) : JS X c (.For tg e body [] pos) (sFor h g b) := ps_weak (ps_for hp hc hi hg hb hs) fun E σV H q => by
  obtain ⟨G, μ, σ, S, R, q⟩ := q
  refine ⟨G, μ, σ, S, R, SPost.toS q fun ds σ1 S1 J H1 G1 μ1 R1 I1 s1 p1 q => ?_⟩
  refine ⟨fun i m σV H => m = ds.length - i ∧ i ≤ ds.length ∧ ∃ G μ σ S, Rel (nv X c) c.B G μ σ S σV H ∧ Same G1 G ∧ Pre μ1 μ ∧ SPost (nv X c) c G μ E (forF g b (ds.drop i) σ S),
    ⟨ds.length, by simp, Nat.zero_le _, G1, μ1, σ1, S1, R1, Same.refl _, Pre.refl _, q⟩, ?_⟩
  rintro i m σV H ⟨rfl, hi, G, μ, σ, S, R, s, p, q⟩
  obtain ⟨i1, i2⟩ := I1 i G μ H s R.gh p
  by_cases hlt : i < ds.length
  · obtain ⟨go, yl⟩ := i1 ds[i] (List.getElem?_eq_getElem hlt)
    refine .inr ⟨go, fun σV' H' => ∃ m', m' < ds.length - i ∧ m' = ds.length - (i + 1) ∧ i + 1 ≤ ds.length ∧ ∃ G μ σ S, Rel (nv X c) c.B G μ σ S σV' H' ∧ Same G1 G ∧ Pre μ1 μ ∧ SPost (nv X c) c G μ E (forF g b (ds.drop (i + 1)) σ S),
      fun σ' H' ⟨m', h1, h2⟩ => ⟨m', h1, h2⟩, fun x H' y => ?_⟩
    obtain ⟨G', R', dr, s'⟩ := R.nr (yl x H' y)
    rw [List.drop_eq_getElem_cons hlt] at q
    unfold forF at q
    refine ⟨G', μ, σ, S, ds[i], R', dr, ?_⟩
    cases hg : g ds[i] σ with
    | none => simp only [hg] at q; exact q.elim
    | some σ' =>
      simp only [hg] at q
      intro σV' R2 _
      refine ⟨G', μ, σ', S, R2, ?_⟩
      have q := q.mono s' (Pre.refl _)
      have again : ∀ {σ3 : Fr} {S3 : Sto} {σV3 : L2.St} {H3 G3 : Hp} {μ3 : List Addr}, SPost (nv X c) c G' μ E (forF g b (ds.drop (i + 1)) σ3 S3) → Rel (nv X c) c.B G3 μ3 σ3 S3 σV3 H3 → Same G' G3 → Pre μ μ3 →
          ∃ m', m' < ds.length - i ∧ m' = ds.length - (i + 1) ∧ i + 1 ≤ ds.length ∧ ∃ G μ σ S, Rel (nv X c) c.B G μ σ S σV3 H3 ∧ Same G1 G ∧ Pre μ1 μ ∧ SPost (nv X c) c G μ E (forF g b (ds.drop (i + 1)) σ S) :=
        fun h R3 s3 p3 => ⟨_, by omega, rfl, hlt, _, _, _, _, R3, (s.trans s').trans s3, p.trans p3, h.mono s3 p3⟩
      cases hb' : b σ' S with
      | nx σ3 S3 => simp only [hb'] at q; exact fun σV3 H3 G3 μ3 R3 s3 p3 => again q R3 s3 p3
      | ct σ3 S3 => simp only [hb'] at q; exact fun σV3 H3 G3 μ3 R3 s3 p3 => again q R3 s3 p3
      | brk σ3 S3 => simp only [hb'] at q; exact q
      | ret r σ3 S3 => simp only [hb'] at q; exact q
      | exc x σ3 S3 => simp only [hb'] at q; exact q
      | no => simp only [hb'] at q; exact q
  · have e : i = ds.length := by omega
    subst e
    rw [List.drop_length] at q
    exact .inl ⟨i2 (Nat.le_refl _), q σV H G μ R (Same.refl _) (Pre.refl _)⟩
theorem js_while {t : SemO Bool} (n : Nat) (hp : PassesOwn (model X.prog X.w) X.A X.env X.xe) (hc : JT X c e t) (hb : JSs X c body b) : JS X c (.While e body [] pos) (whileF t b n) := ps_weak (ps_while hp hc hb) fun E σV H q => by
  obtain ⟨G, μ, σ, S, R, q⟩ := q
  refine ⟨fun m σV' H' => ∃ G' μ' σ' S', Rel (nv X c) c.B G' μ' σ' S' σV' H' ∧ SPost (nv X c) c G' μ' E (whileF t b m σ' S'), ⟨n, G, μ, σ, S, R, q⟩, ?_⟩
  rintro m σV H ⟨G, μ, σ, S, R, q⟩
  cases m with
  | zero => exact q.elim
  | succ m =>
    refine ⟨G, μ, σ, S, R, SPost.toS q fun v σ1 S1 v' H1 G1 μ1 R1 I1 s1 p1 q => ?_⟩
    have I1 : v' = v := I1
    subst I1
    cases v' with
    | false => exact iteF (q σV H1 G1 μ1 R1 (Same.refl _) (Pre.refl _))
    | true =>
      refine iteT ⟨fun σV' H' => ∃ m', m' < m + 1 ∧ ∃ G' μ' σ' S', Rel (nv X c) c.B G' μ' σ' S' σV' H' ∧ SPost (nv X c) c G' μ' E (whileF t b m' σ' S'), fun _ _ h => h, G1, μ1, σ1, S1, R1, ?_⟩
      simp only [if_true] at q
      cases hb' : b σ1 S1 with
      | nx σ3 S3 => simp only [hb'] at q; exact fun σV3 H3 G3 μ3 R3 s3 p3 => ⟨m, Nat.lt_succ_self m, G3, μ3, σ3, S3, R3, q.mono s3 p3⟩
      | ct σ3 S3 => simp only [hb'] at q; exact fun σV3 H3 G3 μ3 R3 s3 p3 => ⟨m, Nat.lt_succ_self m, G3, μ3, σ3, S3, R3, q.mono s3 p3⟩
      | brk σ3 S3 => simp only [hb'] at q; exact q
      | ret r σ3 S3 => simp only [hb'] at q; exact q
      | exc x σ3 S3 => simp only [hb'] at q; exact q
      | no => simp only [hb'] at q; exact q
end

/-! ### comprehensions -/
def clear (σ : Fr) : List Nat → Fr
  | [] => σ
  | i :: is => (clear σ is).set i none
def Out.bindN {α β : Type} (o : Out α) (k : α → SemO β) : Out β := match o with
  | .ok a σ S => k a σ S
  | _ => .no
def lcF (g : D → Fr → Option Fr) (t : SemO Bool) (e : SemO D) (is : List Nat) : List D → SemO (List D)
  | [] => fun σ S => .ok [] σ S
  | d :: ds => fun σ S => match g d σ with
    | some σ' => (t σ' S).bindN fun b σ S => if b then (e σ S).bindN fun y σ S => (lcF g t e is ds (clear σ is) S).bindN fun ys σ S => .ok (y :: ys) σ S
        else lcF g t e is ds (clear σ is) S
    | none => .no
def sLc (h : SemO (List D)) (g : D → Fr → Option Fr) (t : SemO Bool) (e : SemO D) (is : List Nat) : SemO RV := fun σ S => (h σ S).bind fun ds σ S =>
  (lcF g t e is ds (clear σ is) S).bindN fun ys σ S => if okLen ys then .ok (.f (.lst ys)) σ S else .no
theorem clear_get (σ : Fr) (j : Nat) : ∀ is : List Nat, (clear σ is)[j]? = (if j ∈ is then (if j < σ.length then some none else none) else σ[j]?) ∧ (clear σ is).length = σ.length
  | [] => by simp [clear]
  | i :: is => by
    obtain ⟨ih, il⟩ := clear_get σ j is
    unfold clear
    refine ⟨?_, by rw [List.length_set]; exact il⟩
    rw [set_get, il]
    by_cases e : i = j
    · subst e; simp
    · rw [if_neg e, ih]
      have e' : ¬ j = i := fun z => e z.symm
      simp [e']
theorem clear_some {σ : Fr} {j : Nat} {is : List Nat} {x : Sl} (h : (clear σ is)[j]? = some (some x)) : j ∉ is ∧ σ[j]? = some (some x) := by
  rw [(clear_get σ j is).1] at h
  by_cases hj : j ∈ is
  · rw [if_pos hj] at h
    split at h <;> cases h
  · rw [if_neg hj] at h
    exact ⟨hj, h⟩
theorem clear_clear {σ : Fr} {is : List Nat} : clear (clear σ is) is = clear σ is := by
  apply List.ext_getElem?
  intro j
  rw [(clear_get _ j is).1, (clear_get σ j is).1, (clear_get σ j is).2]
  split <;> rfl
section
variable {N : Nv} {B : Bs} {G G' : Hp} {μ μ' : List Addr} {σ : Fr} {S S' : Sto} {σV σV' : L2.St} {H H' : Hp} {a : Addr} {o : HO} {ob : Ob}
theorem Rel.clear {is : List Nat} (R : Rel N B G μ σ S σV H) : Rel N B G μ (Fw.clear σ is) S σV H := R.weak (clear_get σ 0 is).2 fun i x h => (clear_some h).2
theorem Rel.swapV (R : Rel N B G μ σ S σV H) (hl : σV'.length = σV.length) (h : ∀ (i : Nat) (x : Sl), σ[i]? = some (some x) → σV'[i]? = σV[i]?) : Rel N B G μ σ S σV' H :=
  ⟨R.gh, R.bg, R.gb, R.fr, R.mu, R.nd, R.sl, R.sto, hl.trans R.len, fun i d e => by rw [h i _ e]; exact R.slot i d e, fun i d e => by rw [h i _ e]; exact R.own i d e, fun i j ob ob' a q1 q2 q3 q4 => by
    rw [h i _ q1] at q3
    rw [h j _ q2] at q4
    exact R.dst i j ob ob' a q1 q2 q3 q4⟩
theorem Rel.clearV {is : List Nat} (R : Rel N B G μ σ S σV H) (h : Agr is σV σV') : Rel N B G μ (Fw.clear σ is) S σV' H := R.clear.swapV h.1 fun i x e => h.2 i (clear_some e).1
/-- an object that is being made is kept aside -/
theorem Rel.hold (R : Rel N B G μ σ S σV H) (h1 : a ∉ μ) (h3 : G a = none) (h4 : H a = some o) (no : NoOwn σ σV a) : Rel N ⟨upd B.H a o, B.G, B.μ⟩ G μ σ S σV H := by
  refine ⟨R.gh, R.bg, fun b u q => ?_, fun b u q m => ?_, ?_, R.nd, R.sl, R.sto, R.len, R.slot, fun i ob q => ?_, R.dst⟩
  · rcases R.gb b u q with z | z
    · exact .inl z
    · refine .inr ?_
      show upd B.H a o b = none
      rw [upd_ne (ne_of_none q h3)]; exact z
  · by_cases e : b = a
    · subst e
      have q : upd B.H b o b = some u := q
      rw [upd_same] at q
      cases q
      exact h4
    · have q : upd B.H a o b = some u := q
      rw [upd_ne e] at q
      exact R.fr b u q m
  · obtain ⟨ν, e, hν⟩ := R.mu
    refine ⟨ν, e, fun b hb => ?_⟩
    show upd B.H a o b = none
    rw [upd_ne fun z => h1 (by rw [← z, e]; exact List.mem_append_right _ hb)]
    exact hν b hb
  · obtain ⟨b, e1, f1, f2, f3, f4⟩ := R.own i ob q
    refine ⟨b, e1, f1, ?_, f3, f4⟩
    show upd B.H a o b = none
    rw [upd_ne fun z => no i ob q (by rw [← z]; exact e1)]
    exact f2
theorem Rel.unhold (R : Rel N ⟨upd B.H a o, B.G, B.μ⟩ G μ σ S σV H) (hB : B.H a = none) (hG : B.G a = none) (hM : a ∉ B.μ) : Rel N B G μ σ S σV H ∧ a ∉ μ ∧ G a = none ∧ H a = some o ∧ NoOwn σ σV a := by
  have hn : ∀ b, upd B.H a o b = none → B.H b = none ∧ b ≠ a := fun b e => by
    by_cases z : b = a
    · subst z; rw [upd_same] at e; cases e
    · rw [upd_ne z] at e; exact ⟨e, z⟩
  refine ⟨⟨R.gh, R.bg, fun b u q => (R.gb b u q).imp id fun z => (hn b z).1, fun b u q m => R.fr b u (by show upd B.H a o b = some u; rw [upd_ne (ne_of_none q hB)]; exact q) m, ?_, R.nd, R.sl, R.sto, R.len, R.slot, fun i ob q => ?_, R.dst⟩, ?_, ?_, R.fr a o (by show upd B.H a o a = some o; exact upd_same) hM, fun i ob q e => ?_⟩
  · obtain ⟨ν, e, hν⟩ := R.mu
    exact ⟨ν, e, fun b hb => (hn b (hν b hb)).1⟩
  · obtain ⟨b, e1, f1, f2, f3, f4⟩ := R.own i ob q
    exact ⟨b, e1, f1, (hn b f2).1, f3, f4⟩
  · intro hm
    obtain ⟨ν, e, hν⟩ := R.mu
    have e : μ = B.μ ++ ν := e
    rw [e] at hm
    rcases List.mem_append.mp hm with z | z
    · exact hM z
    · exact (hn a (hν a z)).2 rfl
  · cases e : G a with
    | none => rfl
    | some u =>
      rcases R.gb a u e with z | z
      · have z : B.G a = some u := z
        rw [hG] at z; cases z
      · exact absurd rfl (hn a z).2
  · obtain ⟨b, e1, f1, f2, f3, f4⟩ := R.own i ob q
    rw [e] at e1
    cases e1
    exact (hn a f2).2 rfl
end
abbrev Cv.blk (c : Cv) (B : Bs) : Cv := ⟨c.ct, B, fun _ _ _ _ => False⟩
def JTs (X : Cx) (c : Cv) (ifs : List Expr) (t : SemO Bool) : Prop := PTs X ifs (rd (nv X c) c isT t)
def tTrue : SemO Bool := fun σ S => .ok true σ S
theorem pts_weak {X : Cx} {e : List Expr} {t t' : TT} (h : PTs X e t) (hh : ∀ σ H Q, t' σ H Q → t σ H Q) : PTs X e t' := ⟨fun pins s σ H Q I q => h.run pins s σ H Q I (hh σ H Q q)⟩
theorem jts_nil {X : Cx} {c : Cv} : JTs X c [] tTrue := pts_weak pts_nil fun σV H Q q => by
  obtain ⟨G, μ, σ, S, R, q⟩ := q
  exact q true H G μ R rfl (Same.refl _) (Pre.refl _)
theorem jts_one {X : Cx} {c : Cv} {e : Expr} {t : SemO Bool} (h : JT X c e t) : JTs X c [e] t := pts_one h
theorem Out.bindN_ok {α β : Type} {o : Out α} {k : α → SemO β} {b : β} {σ : Fr} {S : Sto} (h : o.bindN k = .ok b σ S) : ∃ a σ1 S1, o = .ok a σ1 S1 ∧ k a σ1 S1 = .ok b σ S := by
  cases o with
  | ok a σ1 S1 => exact ⟨a, σ1, S1, rfl, h⟩
  | exc x σ1 S1 => cases h
  | no => cases h
theorem rd_lc {K : PySem.W.Frag} {c : Cv} {h : SemO (List D)} {g : D → Fr → Option Fr} {t : SemO Bool} {e : SemO D} {is : List Nat} {σV : L2.St} {H : Hp} {Q : VK} {wi : TI} {tg : TG} {tt : TT} {te : TE}
    (hw : ∀ σ H Q, rd ⟨K, c.ct⟩ c (isIt ⟨K, c.ct⟩) h σ H Q → wi σ H Q)
    (hg : ∀ B v σ H Q, rdG ⟨K, c.ct⟩ (c.blk B) is g v σ H Q → tg v σ H Q) (ht : ∀ B σ H Q, rd ⟨K, c.ct⟩ (c.blk B) isT t σ H Q → tt σ H Q) (he : ∀ B σ H Q, rd ⟨K, c.ct⟩ (c.blk B) (isD ⟨K, c.ct⟩) e σ H Q → te σ H Q)
    (q : rd ⟨K, c.ct⟩ c (isRV ⟨K, c.ct⟩ c) (sLc h g t e is) σV H Q) : tLc wi tg tt te is σV H Q := by
  obtain ⟨G, μ, σ, S, R, q⟩ := q
  refine hw _ _ _ ⟨G, μ, σ, S, R, OPost.bind q fun ds σ1 S1 J H1 G1 μ1 R1 I1 s1 p1 q => ?_⟩
  intro A hA
  cases hl : lcF g t e is ds (clear σ1 is) S1 with
  | exc x σ2 S2 => rw [hl] at q; exact q.elim
  | no => rw [hl] at q; exact q.elim
  | ok zs σ2 S2 =>
    rw [hl] at q
    have q : OPost ⟨K, c.ct⟩ c (isRV ⟨K, c.ct⟩ c) G1 μ1 σV Q (if okLen zs = true then .ok (.f (.lst zs)) σ2 S2 else .no) := q
    by_cases hz : okLen zs = true
    · rw [if_pos hz] at q
      refine ⟨fun i m H => m = ds.length - i ∧ i ≤ ds.length ∧ ∃ G μ σ S acc accD ys, Rel ⟨K, c.ct⟩ c.B G μ σ S σV H ∧ clear σ is = σ ∧ Same G1 G ∧ Pre μ1 μ ∧ H A = some (.lst acc) ∧ DRs K G μ acc accD ∧ A ∉ μ ∧ G A = none ∧ NoOwn σ σV A ∧
          lcF g t e is (ds.drop i) σ S = .ok ys σ2 S2 ∧ accD ++ ys = zs,
        ⟨ds.length, by simp, Nat.zero_le _, G1, μ1, clear σ1 is, S1, [], [], zs, (R1.fresh hA).clear, clear_clear, Same.refl _, Pre.refl _, upd_same, .nil, R1.freeMu hA, R1.freeG hA, (R1.clear (is := is)).freeOwn hA, hl, rfl⟩, ?_⟩
      rintro i m H ⟨rfl, hi, G, μ, σ, S, acc, accD, ys, R, hcl, s, p, hacc, dacc, hm, hgn, no, hrun, hys⟩
      obtain ⟨i1, i2⟩ := I1 i G μ H s R.gh p
      by_cases hlt : i < ds.length
      · obtain ⟨go, yl⟩ := i1 ds[i] (List.getElem?_eq_getElem hlt)
        refine .inr ⟨go, fun H' => ∃ m', m' < ds.length - i ∧ m' = ds.length - (i + 1) ∧ i + 1 ≤ ds.length ∧ ∃ G μ σ S acc accD ys, Rel ⟨K, c.ct⟩ c.B G μ σ S σV H' ∧ clear σ is = σ ∧ Same G1 G ∧ Pre μ1 μ ∧ H' A = some (.lst acc) ∧ DRs K G μ acc accD ∧ A ∉ μ ∧ G A = none ∧ NoOwn σ σV A ∧
          lcF g t e is (ds.drop (i + 1)) σ S = .ok ys σ2 S2 ∧ accD ++ ys = zs, fun H' h => h, fun x H' y => ?_⟩
        have hB : c.B.H A = none := R1.freeB hA
        have hBG : c.B.G A = none := by
          cases z : c.B.G A with
          | none => rfl
          | some u =>
            have := R1.bg _ _ z
            rw [R1.freeG hA] at this; cases this
        have hBm : A ∉ c.B.μ := fun z => R1.freeMu hA (R1.pre.mem z)
        have Rh : Rel ⟨K, c.ct⟩ ⟨upd c.B.H A (.lst acc), c.B.G, c.B.μ⟩ G μ σ S σV H := R.hold hm hgn hacc no
        obtain ⟨G', R', dr, s'⟩ := Rh.nr (yl x H' y)
        have Rw := R'.swapV (σV' := wipe σV is) (wipe_length σV is) fun j z hj => by
          rw [wipe_get, if_neg]
          rw [← hcl] at hj
          exact (clear_some hj).1
        rw [List.drop_eq_getElem_cons hlt] at hrun
        unfold lcF at hrun
        refine hg ⟨upd c.B.H A (.lst acc), c.B.G, c.B.μ⟩ _ _ _ _ ⟨G', μ, σ, S, ds[i], Rw, dr, ?_⟩
        cases hgd : g ds[i] σ with
        | none => simp only [hgd] at hrun; cases hrun
        | some σ' =>
          simp only [hgd] at hrun
          obtain ⟨b, σ3, S3, e3, hrun⟩ := Out.bindN_ok hrun
          intro σV' R2 ag
          refine ⟨by rw [ag.wipe, wipe_wipe], ?_⟩
          refine ht ⟨upd c.B.H A (.lst acc), c.B.G, c.B.μ⟩ _ _ _ ⟨G', μ, σ', S, R2, ?_⟩
          rw [e3]
          intro b' H3 G3 μ3 R3 I3 s3 p3
          have I3 : b' = b := I3
          subst I3
          have agV : Agr is σV' σV := by
            have a1 : Agr is (wipe σV is) σV := ⟨(wipe_length σV is).symm, fun j hj => by rw [wipe_get, if_neg hj]⟩
            exact ⟨a1.1.trans ag.1.symm, fun j hj => (a1.2 j hj).trans (ag.2 j hj).symm⟩
          cases b' with
          | false =>
            refine iteF ?_
            have hrun : lcF g t e is (ds.drop (i + 1)) (clear σ3 is) S3 = .ok ys σ2 S2 := hrun
            obtain ⟨R4, m4, g4, h4, no4⟩ := (R3.clearV agV).unhold hB hBG hBm
            exact ⟨_, by omega, rfl, hlt, G3, μ3, _, S3, acc, accD, ys, R4, clear_clear, (s.trans s').trans s3, p.trans p3, h4, dacc.mono (s'.trans s3) p3, m4, g4, no4, hrun, hys⟩
          | true =>
            refine iteT ?_
            have hrun : (e σ3 S3).bindN (fun y σ S => (lcF g t e is (ds.drop (i + 1)) (clear σ is) S).bindN fun ys σ S => .ok (y :: ys) σ S) = .ok ys σ2 S2 := hrun
            obtain ⟨yD, σ4, S4, e4, hrun⟩ := Out.bindN_ok hrun
            obtain ⟨ys', σ5, S5, e5, hrun⟩ := Out.bindN_ok hrun
            cases hrun
            refine he ⟨upd c.B.H A (.lst acc), c.B.G, c.B.μ⟩ _ _ _ ⟨G3, μ3, σ3, S3, R3, ?_⟩
            rw [e4]
            intro yV H4 G4 μ4 R4 I4 s4 p4
            obtain ⟨R5, m5, g5, h5, no5⟩ := (R4.clearV agV).unhold hB hBG hBm
            have hsz : acc.length < sizeLine := by
              have h1 := okLen_le hz
              rw [← hys, List.length_append, List.length_cons, ← dacc.length] at h1
              omega
            refine ⟨acc, h5, hsz, _, by omega, rfl, hlt, G4, μ4, _, S4, acc ++ [yV], accD ++ [yD], ys', ?_, clear_clear, ((s.trans s').trans s3).trans s4, (p.trans p3).trans p4, upd_same, ?_, m5, g5, no5, e5, ?_⟩
            · have Rf : Rel ⟨K, c.ct⟩ c.B G4 μ4 (clear σ4 is) S4 σV (upd H4 A (.lst (acc ++ [yV]))) := by
                have nG : ∀ b u, G4 b = some u → b ≠ A := fun b u q => ne_of_none q g5
                refine ⟨fun b u q => by rw [upd_ne (nG b u q)]; exact R5.gh b u q, R5.bg, R5.gb, fun b u q m => ?_, R5.mu, R5.nd, R5.sl, fun n b ob h1 h2 => ?_, R5.len, R5.slot, fun j ob q => ?_, R5.dst⟩
                · rw [upd_ne (ne_of_none q hB)]; exact R5.fr b u q m
                · have nb : b ≠ A := fun z => m5 (by rw [← z]; exact List.mem_of_getElem? h1)
                  exact (R5.sto n b ob h1 h2).mono (Same.refl _) (Pre.refl _) (upd_ne nb) id
                · obtain ⟨b, e1, g1, g2, g3, g4⟩ := R5.own j ob q
                  have nb : b ≠ A := fun z => no5 j ob q (by rw [← z]; exact e1)
                  exact ⟨b, e1, g1, g2, g3, g4.mono (Same.refl _) (Pre.refl _) (upd_ne nb)⟩
              exact Rf
            · exact (dacc.mono ((s'.trans s3).trans s4) (p3.trans p4)).append (.cons I4 .nil)
            · rw [List.append_assoc]; exact hys
      · have ei : i = ds.length := by omega
        subst ei
        rw [List.drop_length] at hrun
        unfold lcF at hrun
        cases hrun
        rw [List.append_nil] at hys
        subst hys
        exact .inl ⟨i2 (Nat.le_refl _), q (.ref A) H G μ R ⟨A, rfl, ⟨hm, R1.freeB hA, hgn, acc, hacc, dacc⟩, no⟩ s p⟩
    · rw [if_neg hz] at q; exact q.elim
section
variable {X : Cx} {c : Cv} {elt tg iter : Expr} {ifs : List Expr} {scope : Scope} {own : List (Str × Nat)} {pos : Pos} {h : SemO (List D)} {g : D → Fr → Option Fr} {t : SemO Bool} {e : SemO D}
theorem pg_any {X : Cx} {e : Expr} {ι : Type} {T : ι → TG} (h : ∀ i, PG X e (T i)) : PG X e (fun v σ H Q => ∃ i, T i v σ H Q) := ⟨fun pins s σ H v u Q I r ⟨i, q⟩ => (h i).run pins s σ H v u Q I r q⟩
theorem pts_any {X : Cx} {e : List Expr} {ι : Type} {T : ι → TT} (h : ∀ i, PTs X e (T i)) : PTs X e (fun σ H Q => ∃ i, T i σ H Q) := ⟨fun pins s σ H Q I ⟨i, q⟩ => (h i).run pins s σ H Q I q⟩
theorem pe_any {X : Cx} {e : Expr} {ι : Type} {T : ι → TE} (h : ∀ i, PE X e (T i)) : PE X e (fun σ H Q => ∃ i, T i σ H Q) := ⟨fun pins s σ H Q I ⟨i, q⟩ => (h i).run pins s σ H Q I q⟩
theorem je_lc (hc : X.calm = true) (hN : X.N.Nodup) (hi : JI X c tg iter h) (ok : BlkOk X.N X.env.scope scope own)
    (hg : ∀ (s : Shared) (H : Hp) (C : Addr) (cl : List (Str × Addr)) (fp : List Addr) (B : Bs), JG (X.blk s H scope (compEnvC scope cl C X.env) fp) (c.blk B) tg (own.map (·.2)) g)
    (ht : ∀ (s : Shared) (H : Hp) (C : Addr) (cl : List (Str × Addr)) (fp : List Addr) (B : Bs), JTs (X.blk s H scope (compEnvC scope cl C X.env) fp) (c.blk B) ifs t)
    (he : ∀ (s : Shared) (H : Hp) (C : Addr) (cl : List (Str × Addr)) (fp : List Addr) (B : Bs), JD (X.blk s H scope (compEnvC scope cl C X.env) fp) (c.blk B) elt e) (hs : ∀ x, foldedSetIterable iter X.env x = pure x := by intro _; rfl) :
    JE X c (.ListComp elt [⟨tg, iter, ifs, 0⟩] scope pos) (sLc h g t e (own.map (·.2))) :=
  pe_weak (pe_lc hc hN hi ok (fun s H C cl fp => pg_any (hg s H C cl fp)) (fun s H C cl fp => pts_any (ht s H C cl fp)) (fun s H C cl fp => pe_any (he s H C cl fp)) hs) fun σV H Q q =>
    rd_lc (K := X.K) (fun _ _ _ z => z) (fun B _ _ _ _ z => ⟨B, z⟩) (fun B _ _ _ z => ⟨B, z⟩) (fun B _ _ _ z => ⟨B, z⟩) q
theorem js_setLc (i : Nat) {y : Str} {py spos : Pos} (hc : X.calm = true) (hN : X.N.Nodup) (hy : X.N[i]? = some y) (hyl : X.env.scope.names.lookup y = some .local)
    (hsw : swapsWith (.ListComp elt [⟨tg, iter, ifs, 0⟩] scope pos) (some (.Name y py)) spos.line X.env = pure true) (hi : JI X c tg iter h) (ok : BlkOk X.N X.env.scope scope own)
    (hg : ∀ (s : Shared) (H : Hp) (C : Addr) (cl : List (Str × Addr)) (fp : List Addr) (B : Bs), JG (X.blk s H scope (compEnvC scope cl C X.env) fp) (c.blk B) tg (own.map (·.2)) g)
    (ht : ∀ (s : Shared) (H : Hp) (C : Addr) (cl : List (Str × Addr)) (fp : List Addr) (B : Bs), JTs (X.blk s H scope (compEnvC scope cl C X.env) fp) (c.blk B) ifs t)
    (he : ∀ (s : Shared) (H : Hp) (C : Addr) (cl : List (Str × Addr)) (fp : List Addr) (B : Bs), JD (X.blk s H scope (compEnvC scope cl C X.env) fp) (c.blk B) elt e) (hs : ∀ x, foldedSetIterable iter X.env x = pure x := by intro _; rfl) :
    JS X c (.Assign [.Name y py] (.ListComp elt [⟨tg, iter, ifs, 0⟩] scope pos) spos) (sSet i (sLc h g t e (own.map (·.2)))) :=
  ps_weak (ps_setLc hc hN hy hyl hsw hi ok (fun s H C cl fp => pg_any (hg s H C cl fp)) (fun s H C cl fp => pts_any (ht s H C cl fp)) (fun s H C cl fp => pe_any (he s H C cl fp)) hs) fun E σV H q => by
    obtain ⟨G, μ, σ, S, R, q⟩ := q
    exact rd_lc (K := X.K) (c := c) (h := h) (g := g) (t := t) (e := e) (is := own.map (·.2)) (fun _ _ _ z => z) (fun B _ _ _ _ z => ⟨B, z⟩) (fun B _ _ _ z => ⟨B, z⟩) (fun B _ _ _ z => ⟨B, z⟩)
      ⟨G, μ, σ, S, R, SPost.toS q fun r σ1 S1 v H1 G1 μ1 R1 I1 s1 p1 q => q _ H1 G1 μ1 (R1.setRV I1) (Same.refl _) (Pre.refl _)⟩
end
end Fw

namespace Fw
open PySem PySem.Spec PyProof.Rows L2

/-! ### data without references, as the library's data -/
mutual
def toPy : D → Option PyData
  | .non => some .none
  | .bl b => some (.bool b)
  | .int i => some (.int i)
  | .str x => some (.str x)
  | .tup ds => match toPys ds with
    | some ps => some (.tuple ps)
    | none => none
  | .lst ds => match toPys ds with
    | some ps => some (.list ps)
    | none => none
  | .dic _ => none
  | .ref _ => none
  | .scr _ => none
def toPys : List D → Option (List PyData)
  | [] => some []
  | d :: ds => match toPy d, toPys ds with
    | some p, some ps => some (p :: ps)
    | _, _ => none
end
section
variable {N : Nv} {G H : Hp} {μ : List Addr}
mutual
theorem DR.dp (s : Same G H) : ∀ {d : D} {v : V} {p : PyData}, DR N.K G μ v d → toPy d = some p → Dp N.K H v p
  | .non, _, _, .non, e => by simp only [toPy, Option.some.injEq] at e; subst e; exact .non
  | .bl b, _, _, .bl _, e => by simp only [toPy, Option.some.injEq] at e; subst e; exact .bl b
  | .int i, _, _, .int _, e => by simp only [toPy, Option.some.injEq] at e; subst e; exact .int i
  | .str x, _, _, .str _, e => by simp only [toPy, Option.some.injEq] at e; subst e; exact .str x
  | .tup ds, _, _, .tup h t, e => by
    rw [toPy] at e
    cases q : toPys ds with
    | none => rw [q] at e; cases e
    | some ps =>
      rw [q] at e
      cases e
      exact .tup (Same.tup s h) (DRs.dp s t q)
  | .lst ds, _, _, .lst h t, e => by
    rw [toPy] at e
    cases q : toPys ds with
    | none => rw [q] at e; cases e
    | some ps =>
      rw [q] at e
      cases e
      exact .lst (SqL.of (s _ _ h)) (DRs.dp s t q)
  | .dic _, _, _, _, e => by simp [toPy] at e
  | .ref _, _, _, _, e => by simp [toPy] at e
  | .scr _, _, _, _, e => by simp [toPy] at e
theorem DRs.dp (s : Same G H) : ∀ {ds : List D} {vs : List V} {ps : List PyData}, DRs N.K G μ vs ds → toPys ds = some ps → DpAll N.K H vs ps
  | [], _, _, .nil, e => by simp only [toPys, Option.some.injEq] at e; subst e; exact .nil
  | d :: ds, _, _, .cons a t, e => by
    rw [toPys] at e
    cases q1 : toPy d with
    | none => rw [q1] at e; cases e
    | some p =>
      cases q2 : toPys ds with
      | none => rw [q1, q2] at e; cases e
      | some ps =>
        rw [q1, q2] at e
        cases e
        exact .cons (DR.dp s a q1) (DRs.dp s t q2)
end
theorem Vw.dp (s : Same G H) {d : D} {v : V} {p : PyData} (h : Vw N G μ H v d) (e : toPy d = some p) : Dp N.K H v p := by
  cases d with
  | lst ds =>
    obtain ⟨a, xs, rfl, h1, h2⟩ := h
    rw [toPy] at e
    cases q : toPys ds with
    | none => rw [q] at e; cases e
    | some ps =>
      rw [q] at e
      cases e
      exact .lst (SqL.of h1) (h2.dp s q)
  | dic ds => simp [toPy] at e
  | ref n => simp [toPy] at e
  | non => exact DR.dp s h e
  | bl b => exact DR.dp s h e
  | int b => exact DR.dp s h e
  | str b => exact DR.dp s h e
  | tup b => exact DR.dp s h e
  | scr b => simp [toPy] at e
end

/-! ### the operations -/
def dInt (i : Int) : RV := .d (.int i)
def dBl (b : Bool) : RV := .d (.bl b)
def fits {α : Type} (b : Bool) (a : α) : Option α := if b then some a else none
def szOk (n : Nat) : Bool := Nat.ble n sizeLine
def addP : P2 := fun d e => match d, e with
  | .int i, .int j => some (dInt (i + j))
  | .str x, .str y => fits (szOk (x.length + y.length)) (.d (.str (x ++ y)))
  | .lst xs, .lst ys => fits (szOk (xs.length + ys.length)) (.f (.lst (xs ++ ys)))
  | .tup xs, .tup ys => fits (szOk (xs.length + ys.length)) (.d (.tup (xs ++ ys)))
  | _, _ => none
def subP : P2 := fun d e => match d, e with
  | .int i, .int j => some (dInt (i - j))
  | _, _ => none
def small64 (i : Int) : Bool := decide (-(2 ^ 64) < i) && decide (i < 2 ^ 64)
def mulOk (i j : Int) : Bool := small64 i || small64 j || decide (i.natAbs.log2 + j.natAbs.log2 < 1000000)
def mulP : P2 := fun d e => match d, e with
  | .int i, .int j => fits (mulOk i j) (dInt (i * j))
  | .lst xs, .int k => fits (decide (-(2 ^ 63) ≤ k) && decide (k < 2 ^ 63) && szOk (xs.length * k.toNat)) (.f (.lst (List.replicate k.toNat xs).flatten))
  | _, _ => none
def divOk (j : Int) : Bool := decide (0 < j) && decide (j.natAbs.log2 < 9000)
def divP : P2 := fun d e => match d, e with
  | .int i, .int j => fits (divOk j) (dInt (i / j))
  | _, _ => none
def modP : P2 := fun d e => match d, e with
  | .int i, .int j => fits (decide (0 < j)) (dInt (i % j))
  | _, _ => none
def powP : P2 := fun d e => match d, e with
  | .int i, .int j => fits (decide (0 ≤ j) && decide (j ≤ 1000000) && decide (i.natAbs < 2 ^ 64)) (dInt (i ^ j.toNat))
  | _, _ => none
def negP : P1 := fun d => match d with
  | .int i => some (dInt (-i))
  | _ => none
def eqD (d e : D) : Option Bool := match toPy d, toPy e with
  | some p, some q => fits (SeqAt.shaped p && SeqAt.shaped q) (PyData.eqv p q)
  | _, _ => none
def eqP : P2 := fun d e => (eqD d e).map dBl
def neP : P2 := fun d e => (eqD d e).map fun b => dBl (!b)
def ltP : P2 := fun d e => match d, e with
  | .int i, .int j => some (dBl (decide (i < j)))
  | _, _ => none
def leP : P2 := fun d e => match d, e with
  | .int i, .int j => some (dBl (decide (i ≤ j)))
  | _, _ => none
def gtP : P2 := fun d e => match d, e with
  | .int i, .int j => some (dBl (decide (j < i)))
  | _, _ => none
def geP : P2 := fun d e => match d, e with
  | .int i, .int j => some (dBl (decide (j ≤ i)))
  | _, _ => none
/-- x in a list, at any depth -/
def inLD (d e : D) : Option Bool := match e with
  | .lst ds => match toPy d, toPys ds with
    | some p, some qs => fits (SeqAt.shaped p && SeqAt.shaped (.list qs)) (qs.any fun z => PyData.eqv z p)
    | _, _ => none
  | _ => none
def inLP : P2 := fun d e => (inLD d e).map dBl
def ninLP : P2 := fun d e => (inLD d e).map fun b => dBl (!b)
def atD (ds : List D) (i : Int) : Option D := atI ds i
def ixP : P2 := fun d e => match d, e with
  | .lst ds, .int i => (atD ds i).map .d
  | .tup ds, .int i => (atD ds i).map .d
  | .str z, .int i => if szOk z.length then (atI z.cps.toList i).map fun c => .d (.str ⟨#[c]⟩) else none
  | _, _ => none
section
variable {X : Cx} {c : Cv} {N : Nv}
theorem fits_some {α : Type} {b : Bool} {a r : α} (h : fits b a = some r) : b = true ∧ r = a := by
  unfold fits at h
  split at h
  · rename_i hb; cases h; exact ⟨hb, rfl⟩
  · cases h
theorem szOk_le {n : Nat} (h : szOk n = true) : n ≤ sizeLine := Nat.le_of_ble_eq_true h
theorem Prim2.or {N : Nv} {r r' : R2} {p : P2} (h : ∀ G μ H x y d e rv, Same G H → Vw N G μ H x d → Vw N G μ H y e → p d e = some rv → ∀ Q : VK, (∀ v H', NR N G μ H v H' rv → Q v H') → r x y H Q ∨ r' x y H Q) : Prim2 N (fun x y H Q => r x y H Q ∨ r' x y H Q) p := h
def rAddX (K : PySem.W.Frag) : R2 := fun x y H Q => (rI0 (fun i j => .int (i + j)) x y H Q ∨ (∃ i j, x = .str i ∧ y = .str j ∧ i.length + j.length ≤ sizeLine ∧ Q (.str (i ++ j)) H)) ∨ (rCat x y H Q ∨ rCatA K x y H Q)
theorem op_addX : OpR X (binaryOp .Add) (rAddX X.K) := (op_add.or op_add_str).or (op_cat.or op_catA)
theorem p_add : Prim2 N (rAddX N.K) addP := by
  intro G μ H x y d e rv s hx hy hp Q q
  unfold addP at hp
  split at hp
  · cases hp; cases hx; cases hy
    exact .inl (.inl ⟨_, _, rfl, rfl, q _ _ (.val (.int _))⟩)
  · obtain ⟨h1, rfl⟩ := fits_some hp
    cases hx; cases hy
    exact .inl (.inr ⟨_, _, rfl, rfl, szOk_le h1, q _ _ (.val (.str _))⟩)
  · obtain ⟨h1, rfl⟩ := fits_some hp
    obtain ⟨a, xs, rfl, h2, h3⟩ := hx
    obtain ⟨b, ys, rfl, h4, h5⟩ := hy
    exact .inr (.inl ⟨a, b, xs, ys, rfl, rfl, h2, h4, by rw [h3.length, h5.length]; exact szOk_le h1, fun p hp => q _ _ (.lst hp (h3.append h5))⟩)
  · obtain ⟨h1, rfl⟩ := fits_some hp
    cases hx with
    | @tup a xs ds h2 h3 =>
      cases hy with
      | @tup b ys es h4 h5 =>
        refine .inr (.inr ⟨a, b, xs, ys, rfl, rfl, Same.tup s h2, Same.tup s h4, by rw [h3.length, h5.length]; exact szOk_le h1, fun e => ?_, fun _ e => ?_, fun _ _ p hp => q _ _ (.tup hp (h3.append h5))⟩)
        · subst e; cases h3; exact q _ _ (.val (.tup h4 h5))
        · subst e; cases h5; refine q _ _ (.val ?_); rw [List.append_nil]; exact .tup h2 h3
  · cases hp
theorem p_sub : Prim2 N (rI0 fun i j => .int (i - j)) subP := by
  intro G μ H x y d e rv s hx hy hp Q q
  unfold subP at hp
  split at hp
  · cases hp; cases hx; cases hy
    exact ⟨_, _, rfl, rfl, q _ _ (.val (.int _))⟩
  · cases hp
def rMulX : R2 := fun x y H Q => rI CMul (fun i j => .int (i * j)) x y H Q ∨ rI CMulW (fun i j => .int (i * j)) x y H Q
theorem op_mulX : OpR X (binaryOp .Mult) rMulX := op_mul.or op_mulW
def mulIP : P2 := fun d e => match d, e with
  | .int i, .int j => fits (mulOk i j) (dInt (i * j))
  | _, _ => none
theorem mulOk_c {i j : Int} (h : mulOk i j = true) : CMul i j ∨ CMulW i j := by
  unfold mulOk small64 at h
  simp only [Bool.or_eq_true, Bool.and_eq_true, decide_eq_true_eq] at h
  rcases h with (h | h) | h
  · exact .inl (.inl h)
  · exact .inl (.inr h)
  · exact .inr h
theorem p_mul : Prim2 N rMulX mulIP := by
  intro G μ H x y d e rv s hx hy hp Q q
  unfold mulIP at hp
  split at hp
  · obtain ⟨h1, rfl⟩ := fits_some hp
    cases hx; cases hy
    rcases mulOk_c h1 with h | h
    · exact .inl ⟨_, _, rfl, rfl, h, q _ _ (.val (.int _))⟩
    · exact .inr ⟨_, _, rfl, rfl, h, q _ _ (.val (.int _))⟩
  · cases hp
theorem p_div : Prim2 N (rI CDivW fun i j => .int (i / j)) divP := by
  intro G μ H x y d e rv s hx hy hp Q q
  unfold divP at hp
  split at hp
  · obtain ⟨h1, rfl⟩ := fits_some hp
    cases hx; cases hy
    unfold divOk at h1
    simp only [Bool.and_eq_true, decide_eq_true_eq] at h1
    exact ⟨_, _, rfl, rfl, h1, q _ _ (.val (.int _))⟩
  · cases hp
theorem p_mod : Prim2 N (rI (fun _ j => 0 < j) fun i j => .int (i % j)) modP := by
  intro G μ H x y d e rv s hx hy hp Q q
  unfold modP at hp
  split at hp
  · obtain ⟨h1, rfl⟩ := fits_some hp
    cases hx; cases hy
    exact ⟨_, _, rfl, rfl, of_decide_eq_true h1, q _ _ (.val (.int _))⟩
  · cases hp
theorem p_pow : Prim2 N (rI CPow fun i j => .int (i ^ j.toNat)) powP := by
  intro G μ H x y d e rv s hx hy hp Q q
  unfold powP at hp
  split at hp
  · obtain ⟨h1, rfl⟩ := fits_some hp
    cases hx; cases hy
    simp only [Bool.and_eq_true, decide_eq_true_eq] at h1
    exact ⟨_, _, rfl, rfl, ⟨h1.1.1, h1.1.2, h1.2⟩, q _ _ (.val (.int _))⟩
  · cases hp
theorem p_neg : Prim1 N (rU fun i => .int (-i)) negP := by
  intro G μ H x d rv s hx hp Q q
  unfold negP at hp
  split at hp
  · cases hp; cases hx
    exact ⟨_, rfl, q _ _ (.val (.int _))⟩
  · cases hp
theorem eqD_some {d e : D} {b : Bool} (h : eqD d e = some b) : ∃ p q, toPy d = some p ∧ toPy e = some q ∧ SeqAt.shaped p = true ∧ SeqAt.shaped q = true ∧ b = PyData.eqv p q := by
  unfold eqD at h
  split at h
  · rename_i p q h1 h2
    obtain ⟨h3, rfl⟩ := fits_some h
    rw [Bool.and_eq_true] at h3
    exact ⟨p, q, h1, h2, h3.1, h3.2, rfl⟩
  · cases h
theorem p_eq : Prim2 N (rEqD N.K) eqP := by
  intro G μ H x y d e rv s hx hy hp Q q
  obtain ⟨b, h1, rfl⟩ := Option.map_eq_some_iff.mp hp
  obtain ⟨p, r, e1, e2, s1, s2, rfl⟩ := eqD_some h1
  exact ⟨p, r, hx.dp s e1, hy.dp s e2, s1, s2, q _ _ (.val (.bl _))⟩
theorem p_ne : Prim2 N (rNeD N.K) neP := by
  intro G μ H x y d e rv s hx hy hp Q q
  obtain ⟨b, h1, rfl⟩ := Option.map_eq_some_iff.mp hp
  obtain ⟨p, r, e1, e2, s1, s2, rfl⟩ := eqD_some h1
  exact ⟨p, r, hx.dp s e1, hy.dp s e2, s1, s2, q _ _ (.val (.bl _))⟩
theorem p_lt : Prim2 N (rI0 fun i j => .bl (decide (i < j))) ltP := by
  intro G μ H x y d e rv s hx hy hp Q q
  unfold ltP at hp
  split at hp
  · cases hp; cases hx; cases hy
    exact ⟨_, _, rfl, rfl, q _ _ (.val (.bl _))⟩
  · cases hp
theorem p_le : Prim2 N (rI0 fun i j => .bl (decide (i ≤ j))) leP := by
  intro G μ H x y d e rv s hx hy hp Q q
  unfold leP at hp
  split at hp
  · cases hp; cases hx; cases hy
    exact ⟨_, _, rfl, rfl, q _ _ (.val (.bl _))⟩
  · cases hp
theorem p_gt : Prim2 N (rI0 fun i j => .bl (decide (j < i))) gtP := by
  intro G μ H x y d e rv s hx hy hp Q q
  unfold gtP at hp
  split at hp
  · cases hp; cases hx; cases hy
    exact ⟨_, _, rfl, rfl, q _ _ (.val (.bl _))⟩
  · cases hp
theorem p_ge : Prim2 N (rI0 fun i j => .bl (decide (j ≤ i))) geP := by
  intro G μ H x y d e rv s hx hy hp Q q
  unfold geP at hp
  split at hp
  · cases hp; cases hx; cases hy
    exact ⟨_, _, rfl, rfl, q _ _ (.val (.bl _))⟩
  · cases hp
theorem inLD_some {N : Nv} {G : Hp} {μ : List Addr} {H : Hp} {x y : V} {d e : D} {b : Bool} (s : Same G H) (hx : Vw N G μ H x d) (hy : Vw N G μ H y e) (h : inLD d e = some b) :
    ∃ p qs, Dp N.K H x p ∧ Dp N.K H y (.list qs) ∧ SeqAt.shaped p = true ∧ SeqAt.shaped (.list qs) = true ∧ b = qs.any fun z => PyData.eqv z p := by
  unfold inLD at h
  split at h
  · rename_i ds
    split at h
    · rename_i p qs h1 h2
      obtain ⟨h3, rfl⟩ := fits_some h
      rw [Bool.and_eq_true] at h3
      exact ⟨p, qs, hx.dp s h1, hy.dp s (by rw [toPy, h2]), h3.1, h3.2, rfl⟩
    · cases h
  · cases h
theorem p_inL : Prim2 N (rInD N.K) inLP := by
  intro G μ H x y d e rv s hx hy hp Q q
  obtain ⟨b, h1, rfl⟩ := Option.map_eq_some_iff.mp hp
  obtain ⟨p, qs, e1, e2, s1, s2, rfl⟩ := inLD_some s hx hy h1
  exact ⟨p, qs, e1, e2, s1, s2, q _ _ (.val (.bl _))⟩
theorem p_ninL : Prim2 N (rNotInD N.K) ninLP := by
  intro G μ H x y d e rv s hx hy hp Q q
  obtain ⟨b, h1, rfl⟩ := Option.map_eq_some_iff.mp hp
  obtain ⟨p, qs, e1, e2, s1, s2, rfl⟩ := inLD_some s hx hy h1
  exact ⟨p, qs, e1, e2, s1, s2, q _ _ (.val (.bl _))⟩
theorem DRs.atI {K : PySem.W.Frag} {G : Hp} {μ : List Addr} {v : List V} {d : List D} {i : Int} {y : D} (h : DRs K G μ v d) (e : L2.atI d i = some y) : ∃ x, L2.atI v i = some x ∧ DR K G μ x y := by
  unfold L2.atI at e ⊢
  rw [h.length]
  cases q : ixN d.length i with
  | none => rw [q] at e; cases e
  | some j =>
    rw [q] at e
    exact h.at e
theorem p_ix : Prim2 N (rIx N.K) ixP := by
  intro G μ H x y d e rv s hx hy hp Q q
  unfold ixP at hp
  split at hp
  · obtain ⟨r, h1, rfl⟩ := Option.map_eq_some_iff.mp hp
    obtain ⟨a, xs, rfl, h2, h3⟩ := hx
    cases hy
    obtain ⟨v, e1, r⟩ := h3.atI h1
    exact .inl ⟨a, xs, _, v, rfl, rfl, SqL.of h2, e1, q _ _ (.val r)⟩
  · obtain ⟨r, h1, rfl⟩ := Option.map_eq_some_iff.mp hp
    cases hy
    cases hx with
    | @tup a xs ds h2 h3 =>
      obtain ⟨v, e1, r⟩ := h3.atI h1
      exact .inr (.inl ⟨a, xs, _, v, rfl, rfl, Same.tup s h2, e1, q _ _ (.val r)⟩)
  · split at hp
    · rename_i hz
      obtain ⟨r, h1, rfl⟩ := Option.map_eq_some_iff.mp hp
      cases hx; cases hy
      exact .inr (.inr ⟨_, _, r, rfl, rfl, szOk_le hz, h1, q _ _ (.val (.str _))⟩)
    · cases hp
  · cases hp
end

/-! ### built-in functions -/
def lenP : PL := fun ds => match ds with
  | [.lst xs] => some (dInt xs.length)
  | [.tup xs] => some (dInt xs.length)
  | [.str z] => fits (szOk z.length) (dInt z.length)
  | _ => none
def absP : PL := fun ds => match ds with
  | [.int i] => some (dInt (if i < 0 then -i else i))
  | _ => none
def intP : PL := fun ds => match ds with
  | [.int i] => some (dInt i)
  | [.bl b] => some (dInt (if b then 1 else 0))
  | _ => none
def gcdP : PL := fun ds => match ds with
  | [.int a, .int b] => some (dInt ((Nat.gcd a.natAbs b.natAbs : Nat) : Int))
  | _ => none
def lstP : PL := fun ds => match ds with
  | [.scr xs] => some (.f (.lst xs))
  | [.lst xs] => some (.f (.lst xs))
  | [.tup xs] => some (.f (.lst xs))
  | _ => none
def tupP : PL := fun ds => match ds with
  | [.lst xs] => some (.d (.tup xs))
  | [.tup xs] => some (.d (.tup xs))
  | _ => none
def intsOf : List D → Option (List Int)
  | [] => some []
  | .int i :: ds => match intsOf ds with
    | some ns => some (i :: ns)
    | none => none
  | _ => none
def blsOf : List D → Option (List Bool)
  | [] => some []
  | .bl i :: ds => match blsOf ds with
    | some ns => some (i :: ns)
    | none => none
  | _ => none
def sumP : PL := fun ds => match ds with
  | [.lst xs] => (intsOf xs).map fun ns => dInt ns.sum
  | _ => none
def allP : PL := fun ds => match ds with
  | [.lst xs] => (blsOf xs).map fun ns => dBl (ns.all id)
  | _ => none
def anyP : PL := fun ds => match ds with
  | [.lst xs] => (blsOf xs).map fun ns => dBl (ns.any id)
  | _ => none
/-! sorted, any data -/
def alikeB (ps : List PyData) : Bool := ps.all fun p => ps.all fun q => PySem.W.alike p q
def isTup1 : PyData → Bool
  | .tuple (_ :: _) => true
  | _ => false
def notTup : PyData → Bool
  | .none => false
  | .tuple _ => false
  | _ => true
def sortableB (ps : List PyData) : Bool := ps.all isTup1 || ps.all notTup
def sortD (ds : List D) : Option (List D) := match toPys ds with
  | some ps => fits (alikeB ps && sortableB ps && ps.all fun p => decide (p.depth ≤ 64)) (((ps.zip ds).mergeSort (PySem.W.dataLe false (·.1))).map (·.2))
  | none => none
def sortP : PL := fun ds => match ds with
  | [.lst xs] => (sortD xs).map fun ys => .f (.lst ys)
  | _ => none
section
variable {N : Nv}
theorem intsOf_ok {ds : List D} {ns : List Int} (h : intsOf ds = some ns) : ds = ns.map D.int := by
  induction ds generalizing ns with
  | nil => cases h; rfl
  | cons d ds ih =>
    cases d with
    | int i =>
      unfold intsOf at h
      cases e : intsOf ds with
      | none => rw [e] at h; cases h
      | some ms => rw [e] at h; cases h; rw [ih e]; rfl
    | _ => cases h
theorem blsOf_ok {ds : List D} {ns : List Bool} (h : blsOf ds = some ns) : ds = ns.map D.bl := by
  induction ds generalizing ns with
  | nil => cases h; rfl
  | cons d ds ih =>
    cases d with
    | bl i =>
      unfold blsOf at h
      cases e : blsOf ds with
      | none => rw [e] at h; cases h
      | some ms => rw [e] at h; cases h; rw [ih e]; rfl
    | _ => cases h
theorem p_len : PrimL N (fun xs H Q => ∃ x n, xs = [x] ∧ LenV N.K x H n ∧ Q (.int n) H) lenP := by
  intro G μ H xs ds rv s h hp Q q
  unfold lenP at hp
  split at hp
  · cases hp
    cases h with
    | cons a t =>
      cases t
      obtain ⟨b, ys, rfl, h2, h3⟩ := a
      refine ⟨_, _, rfl, .inl ⟨ys, SqL.of h2, rfl⟩, ?_⟩
      rw [h3.length]
      exact q _ _ (.val (.int _))
  · cases hp
    cases h with
    | cons a t =>
      cases t
      cases a with
      | @tup b ys es h2 h3 =>
        refine ⟨_, _, rfl, .inr ⟨ys, Same.tup s h2, rfl⟩, ?_⟩
        rw [h3.length]
        exact q _ _ (.val (.int _))
  · obtain ⟨h1, rfl⟩ := fits_some hp
    cases h with
    | cons a t =>
      cases t
      cases a
      exact ⟨_, _, rfl, ⟨szOk_le h1, rfl⟩, q _ _ (.val (.int _))⟩
  · cases hp
theorem p_abs : PrimL N (fun xs H Q => ∃ i, xs = [.int i] ∧ Q (.int (if i < 0 then -i else i)) H) absP := by
  intro G μ H xs ds rv s h hp Q q
  unfold absP at hp
  split at hp
  · cases hp
    cases h with
    | cons a t =>
      cases t
      cases a
      exact ⟨_, rfl, q _ _ (.val (.int _))⟩
  · cases hp
theorem p_int : PrimL N (fun xs H Q => (∃ i, xs = [.int i] ∧ Q (.int i) H) ∨ ∃ k, xs = [.bl k] ∧ Q (.int (if k then 1 else 0)) H) intP := by
  intro G μ H xs ds rv s h hp Q q
  unfold intP at hp
  split at hp
  · cases hp
    cases h with
    | cons a t =>
      cases t
      cases a
      exact .inl ⟨_, rfl, q _ _ (.val (.int _))⟩
  · cases hp
    cases h with
    | cons a t =>
      cases t
      cases a
      exact .inr ⟨_, rfl, q _ _ (.val (.int _))⟩
  · cases hp
theorem p_gcd : PrimL N rGcd gcdP := by
  intro G μ H xs ds rv s h hp Q q
  unfold gcdP at hp
  split at hp
  · cases hp
    cases h with
    | cons a t =>
      cases t with
      | cons b t =>
        cases t
        cases a
        cases b
        exact ⟨_, _, rfl, q _ _ (.val (.int _))⟩
  · cases hp
theorem p_lst : PrimL N (fun xs H Q => ∃ p ys, xs = [.ref p] ∧ (SqL N.K H p ys ∨ SqT N.K H p ys) ∧ ∀ l, H l = none → Q (.ref l) (upd H l (.lst ys))) lstP := by
  intro G μ H xs ds rv s h hp Q q
  unfold lstP at hp
  split at hp
  · cases hp
    cases h with
    | cons a t =>
      cases t
      cases a with
      | @scr b ys es h2 h3 => exact ⟨_, ys, rfl, .inl (s.seq h2), fun l hl => q _ _ (.lst hl h3)⟩
  · cases hp
    cases h with
    | cons a t =>
      cases t
      obtain ⟨b, ys, rfl, h2, h3⟩ := a
      exact ⟨_, ys, rfl, .inl (SqL.of h2), fun l hl => q _ _ (.lst hl h3)⟩
  · cases hp
    cases h with
    | cons a t =>
      cases t
      cases a with
      | @tup b ys es h2 h3 => exact ⟨_, ys, rfl, .inr (Same.tup s h2), fun l hl => q _ _ (.lst hl h3)⟩
  · cases hp
theorem p_tup : PrimL N (fun xs H Q => ∃ p ys, xs = [.ref p] ∧ ((SqL N.K H p ys ∧ ∀ l, H l = none → Q (.ref l) (upd H l (.tup ys))) ∨ (SqT N.K H p ys ∧ Q (.ref p) H))) tupP := by
  intro G μ H xs ds rv s h hp Q q
  unfold tupP at hp
  split at hp
  · cases hp
    cases h with
    | cons a t =>
      cases t
      obtain ⟨b, ys, rfl, h2, h3⟩ := a
      exact ⟨_, ys, rfl, .inl ⟨SqL.of h2, fun l hl => q _ _ (.tup hl h3)⟩⟩
  · cases hp
    cases h with
    | cons a t =>
      cases t
      cases a with
      | @tup b ys es h2 h3 => exact ⟨_, ys, rfl, .inr ⟨Same.tup s h2, q _ _ (.val (.tup h2 h3))⟩⟩
  · cases hp
theorem p_sum : PrimL N (rSum N.K) sumP := by
  intro G μ H xs ds rv s h hp Q q
  unfold sumP at hp
  split at hp
  · obtain ⟨ns, h1, rfl⟩ := Option.map_eq_some_iff.mp hp
    have e := intsOf_ok h1
    subst e
    cases h with
    | cons a t =>
      cases t
      obtain ⟨b, ys, rfl, h2, h3⟩ := a
      have e := h3.ints
      subst e
      exact ⟨b, ns, rfl, SqL.of h2, q _ _ (.val (.int _))⟩
  · cases hp
theorem p_all : PrimL N (rAll N.K) allP := by
  intro G μ H xs ds rv s h hp Q q
  unfold allP at hp
  split at hp
  · obtain ⟨ns, h1, rfl⟩ := Option.map_eq_some_iff.mp hp
    have e := blsOf_ok h1
    subst e
    cases h with
    | cons a t =>
      cases t
      obtain ⟨b, ys, rfl, h2, h3⟩ := a
      have e := h3.bools
      subst e
      exact ⟨b, ns, rfl, SqL.of h2, q _ _ (.val (.bl _))⟩
  · cases hp
theorem p_any : PrimL N (rAny N.K) anyP := by
  intro G μ H xs ds rv s h hp Q q
  unfold anyP at hp
  split at hp
  · obtain ⟨ns, h1, rfl⟩ := Option.map_eq_some_iff.mp hp
    have e := blsOf_ok h1
    subst e
    cases h with
    | cons a t =>
      cases t
      obtain ⟨b, ys, rfl, h2, h3⟩ := a
      have e := h3.bools
      subst e
      exact ⟨b, ns, rfl, SqL.of h2, q _ _ (.val (.bl _))⟩
  · cases hp
/-- sorted, by V beside the data -/
def rSortX (K : PySem.W.Frag) : List V → Hp → VK → Prop := fun vs H Q => ∃ (a : Addr) (xs : List V) (ps : List PyData), vs = [.ref a] ∧ SqL K H a xs ∧ DpAll K H xs ps ∧ alikeB ps = true ∧ sortableB ps = true ∧ (∀ p ∈ ps, p.depth ≤ 64) ∧
  ∀ l, H l = none → Q (.ref l) (upd H l (.lst (((ps.zip xs).mergeSort (PySem.W.dataLe false (·.1))).map (·.2))))
theorem alikeB_ok {ps : List PyData} (h : alikeB ps = true) : PySem.W.AllAlike ps := fun p hp q hq => List.all_eq_true.mp (List.all_eq_true.mp h p hp) q hq
theorem sortableB_ok {ps : List PyData} (h : sortableB ps = true) : PySem.W.Sortable ps := by
  unfold sortableB at h
  rw [Bool.or_eq_true] at h
  rcases h with h | h
  · refine .inl fun d hd => ?_
    have := List.all_eq_true.mp h d hd
    unfold isTup1 at this
    split at this
    · exact ⟨_, _, rfl⟩
    · cases this
  · refine .inr fun d hd => ?_
    have := List.all_eq_true.mp h d hd
    unfold notTup at this
    refine ⟨fun e => by subst e; simp at this, fun xs e => by subst e; simp at this⟩
theorem dpall_length {K : PySem.W.Frag} {H : Hp} : ∀ {xs : List V} {ps : List PyData}, DpAll K H xs ps → xs.length = ps.length
  | _, _, .nil => rfl
  | _, _, .cons _ t => congrArg (· + 1) (dpall_length t)
end
section
variable {X : Cx}
theorem each_of {R : Value → PyData × V → Prop} : ∀ {us : List Value} {bs : List (PyData × V)}, us.length = bs.length → (∀ (i : Nat) u b, us[i]? = some u → bs[i]? = some b → R u b) → PySem.W.EachIs R us bs
  | [], [], _, _ => .nil
  | [], _ :: _, h, _ => by simp at h
  | _ :: _, [], h, _ => by simp at h
  | u :: us, b :: bs, h, k => .cons (k 0 u b rfl rfl) (each_of (by simpa using h) fun i u b h1 h2 => k (i + 1) u b (by simpa using h1) (by simpa using h2))
theorem vals_of_each {us : List Value} {bs : List (PyData × V)} (h : PySem.W.EachIs (fun u (b : PyData × V) => RelV b.2 u) us bs) : Vals (bs.map (·.2)) us := by
  induction h with
  | nil => exact .nil
  | cons h1 _ ih => exact .cons h1 ih
theorem dpall_at {K : PySem.W.Frag} {H : Hp} : ∀ {xs : List V} {ps : List PyData} {i : Nat} {x : V} {p : PyData}, DpAll K H xs ps → xs[i]? = some x → ps[i]? = some p → Dp K H x p
  | _, _, i, _, _, .nil, h, _ => by simp at h
  | _, _, 0, _, _, .cons a t, h, h' => by simp at h h'; subst h h'; exact a
  | _, _, i + 1, _, _, .cons a t, h, h' => dpall_at t (by simpa using h) (by simpa using h')
theorem cr_sortX (hu : X.A.units + 70 < cLine) : CallR X (.builtin "sorted") (rSortX X.K) := by
  intro pins s σ H vs us Q I r h
  obtain ⟨a, xs, ps, rfl, hs, hd, h1, h2, h3, q⟩ := h
  obtain ⟨its, rv, hl, hz⟩ := I.list hs
  rw [Vals.ref1 r]
  have el := dpall_length hd
  have ev := rv.length
  have zf : ((ps.zip xs).map (·.1)) = ps := List.map_fst_zip (by omega)
  have zl : (ps.zip xs).length = its.length := by rw [List.length_zip]; omega
  have at_ : ∀ {i : Nat} {b : PyData × V}, (ps.zip xs)[i]? = some b → ps[i]? = some b.1 ∧ xs[i]? = some b.2 := fun {i b} e => by
    obtain ⟨p, x⟩ := b
    exact List.getElem?_zip_eq_some.mp e
  refine PySem.W.sorted_data (β := PyData × V) (bs := ps.zip xs) (enc := (·.1)) (R := fun u b => RelV b.2 u) hl.isList (each_of (by rw [zl]) fun i u b e1 e2 => ?_)
    (each_of (by rw [zl]) fun i u b e1 e2 => ?_) (by rw [zf]; exact alikeB_ok h1) (by rw [zf]; exact sortableB_ok h2) (by rw [zl]; omega) (fun b hb => ?_) fun out ho er => ?_
  · obtain ⟨u', e3, r3⟩ := rv.get (at_ e2).2
    rw [e1] at e3
    cases e3
    exact r3
  · obtain ⟨u', e3, r3⟩ := rv.get (at_ e2).2
    rw [e1] at e3
    cases e3
    exact Dp.reads I b.1 b.2 u (dpall_at hd (at_ e2).2 (at_ e2).1) r3
  · obtain ⟨i, hi⟩ := List.getElem?_of_mem hb
    have := h3 b.1 (List.mem_of_getElem? (at_ hi).1)
    omega
  · obtain ⟨ep, he'⟩ := PyProof.Rows.sortedAll_at s.heap its out.toArray
    have rv' := vals_of_each er
    have hlen : ((((ps.zip xs).mergeSort (PySem.W.dataLe false (·.1))).map (·.2))).length ≤ sizeLine := by
      rw [List.length_map, List.length_mergeSort, zl]; omega
    exact ⟨.ref _, upd H (s.heap.objs.size + 1) (.lst (((ps.zip xs).mergeSort (PySem.W.dataLe false (·.1))).map (·.2))), I.laid (t' := s.toks) (fun _ _ => PyProof.Rows.sortedAll_old) (Nat.le_succ _) ⟨hlen, out, ep, rv', he'⟩, rfl, q _ (I.hok.fresh (Nat.le_succ _))⟩
end
/-- the data beside the values, sorted alike -/
theorem DRs.sorted {K : PySem.W.Frag} {G : Hp} {μ : List Addr} {xs : List V} {ds : List D} {ps : List PyData} (h : DRs K G μ xs ds) (hl : ps.length = ds.length) :
    DRs K G μ (((ps.zip xs).mergeSort (PySem.W.dataLe false (·.1))).map (·.2)) (((ps.zip ds).mergeSort (PySem.W.dataLe false (·.1))).map (·.2)) := by
  have hx := h.length
  have e1 : ps.zip xs = (ps.zip (xs.zip ds)).map fun t => (t.1, t.2.1) := by
    apply List.ext_getElem?
    intro i
    simp only [List.getElem?_map, List.getElem?_zip_eq_some, List.zip, List.getElem?_zipWith]
    cases ps[i]? <;> cases hxi : xs[i]? <;> cases hdi : ds[i]? <;> simp
    · rename_i p v
      have h1 := (List.getElem?_eq_some_iff.mp hxi).1
      have h2 := List.getElem?_eq_none_iff.mp hdi
      omega
  have e2 : ps.zip ds = (ps.zip (xs.zip ds)).map fun t => (t.1, t.2.2) := by
    apply List.ext_getElem?
    intro i
    simp only [List.getElem?_map, List.zip, List.getElem?_zipWith]
    cases ps[i]? <;> cases hxi : xs[i]? <;> cases hdi : ds[i]? <;> simp
    · rename_i p v
      have h1 := (List.getElem?_eq_some_iff.mp hdi).1
      have h2 := List.getElem?_eq_none_iff.mp hxi
      omega
  rw [e1, e2, ← List.map_mergeSort (f := fun t : PyData × V × D => (t.1, t.2.1)) (r := PySem.W.dataLe false (·.1)) (fun a _ b _ => rfl), ← List.map_mergeSort (f := fun t : PyData × V × D => (t.1, t.2.2)) (r := PySem.W.dataLe false (·.1)) (fun a _ b _ => rfl), List.map_map, List.map_map]
  have all : ∀ t ∈ (ps.zip (xs.zip ds)).mergeSort (PySem.W.dataLe false (·.1)), DR K G μ t.2.1 t.2.2 := fun t ht => by
    have hm := List.mem_mergeSort.mp ht
    obtain ⟨i, hi⟩ := List.getElem?_of_mem hm
    obtain ⟨p, v, d⟩ := t
    have z := List.getElem?_zip_eq_some.mp hi
    have z2 := List.getElem?_zip_eq_some.mp z.2
    obtain ⟨x, e, r⟩ := h.at z2.2
    rw [z2.1] at e
    cases e
    exact r
  revert all
  generalize (ps.zip (xs.zip ds)).mergeSort (PySem.W.dataLe false (·.1)) = l
  intro all
  induction l with
  | nil => exact .nil
  | cons t l ih => exact .cons (all t List.mem_cons_self) (ih fun u hu => all u (List.mem_cons_of_mem _ hu))
theorem toPys_len : ∀ {ds : List D} {ps : List PyData}, toPys ds = some ps → ps.length = ds.length
  | [], _, h => by simp only [toPys, Option.some.injEq] at h; subst h; rfl
  | d :: ds, ps, h => by
    rw [toPys] at h
    cases q1 : toPy d with
    | none => rw [q1] at h; cases h
    | some p =>
      cases q2 : toPys ds with
      | none => rw [q1, q2] at h; cases h
      | some qs => rw [q1, q2] at h; cases h; simp [toPys_len q2]
theorem p_sort {N : Nv} : PrimL N (rSortX N.K) sortP := by
  intro G μ H xs ds rv s h hp Q q
  unfold sortP at hp
  split at hp
  · rename_i ys
    obtain ⟨zs, h1, rfl⟩ := Option.map_eq_some_iff.mp hp
    cases h with
    | cons a t =>
      cases t
      obtain ⟨b, vs, rfl, h2, h3⟩ := a
      unfold sortD at h1
      cases e : toPys ys with
      | none => rw [e] at h1; cases h1
      | some ps =>
        rw [e] at h1
        obtain ⟨h4, rfl⟩ := fits_some h1
        rw [Bool.and_eq_true, Bool.and_eq_true] at h4
        refine ⟨b, vs, ps, rfl, SqL.of h2, h3.dp s e, h4.1.1, h4.1.2, fun p hp => of_decide_eq_true (List.all_eq_true.mp h4.2 p hp), fun l hl => q _ _ (.lst hl (h3.sorted (toPys_len e)))⟩
  · cases hp

/-! ### calls of built-in functions -/
section
variable {X : Cx} {c : Cv} {e : Expr} {es : List Expr} {x : Str} {p pos : Pos} {id T : String} {r : List V → Hp → VK → Prop} {f : SemO (List Opd)} {pl : PL}
theorem je_B (hc : CallR X (.builtin id) r) (hp : PrimL (nv X c) r pl) (hg : Gl X x) (hm : X.mg x = none) (hv : bootBuiltins x = some (.builtin id)) (ha : JBs X c (e :: es) f) (hn : x ≠ "__name__" := by decide) (hdb : (x == ("__debug__" : Str)) = false := by decide)
    (he : starEach (e :: es) X.env = (false, eval e X.env) :: starEach es X.env := by rfl) (hpl : (backTo pos (starEach es X.env)).any (·.1) = false := by rfl) : JE X c (.Call (.Name x p) (e :: es) [] pos) (sL pl f) :=
  pe_weak (pe_callB hc hg hm hv ha hn hdb he hpl) fun _ _ _ q => rd_L hp q
theorem je_T (hc : CallR X (.type T) r) (hp : PrimL (nv X c) r pl) (hg : Gl X x) (hm : X.mg x = none) (hv : bootBuiltins x = some (.type T)) (ha : JBs X c (e :: es) f) (hn : x ≠ "__name__" := by decide) (hdb : (x == ("__debug__" : Str)) = false := by decide)
    (he : starEach (e :: es) X.env = (false, eval e X.env) :: starEach es X.env := by rfl) (hpl : (backTo pos (starEach es X.env)).any (·.1) = false := by rfl) : JE X c (.Call (.Name x p) (e :: es) [] pos) (sL pl f) :=
  pe_weak (pe_callTy hc hg hm hv ha hn hdb he hpl) fun _ _ _ q => rd_L hp q
theorem je_BF (hc : CallR X (.builtin id) r) (hp : PrimL (nv X c) r pl) (hg : Gl X x) (hm : X.mg x = some (.builtin id)) (ha : JBs X c (e :: es) f) (hdb : (x == ("__debug__" : Str)) = false := by decide)
    (he : starEach (e :: es) X.env = (false, eval e X.env) :: starEach es X.env := by rfl) (hpl : (backTo pos (starEach es X.env)).any (·.1) = false := by rfl) : JE X c (.Call (.Name x p) (e :: es) [] pos) (sL pl f) :=
  pe_weak (pe_callBfun hc hg hm ha hdb he hpl) fun _ _ _ q => rd_L hp q
end
/-! isinstance(x, T) -/
def tyN : D → Option String
  | .non => some "NoneType"
  | .bl _ => some "bool"
  | .int _ => some "int"
  | .str _ => some "str"
  | .tup _ => some "tuple"
  | .lst _ => some "list"
  | .dic _ => some "dict"
  | .ref _ => none
  | .scr _ => none
def isiP (n : String) (d : D) : Option Bool := (tyN d).bind fun t => kitB t n
def sIsi (n : String) (f : SemO Opd) : SemO RV := s1 (fun d => (isiP n d).map dBl) f
theorem Vw.ty {N : Nv} {G : Hp} {μ : List Addr} {H : Hp} {v : V} {d : D} {t : String} (s : Same G H) (h : Vw N G μ H v d) (e : tyN d = some t) : TyX N.K H v (.type t) := by
  cases d with
  | non => cases e; cases h; exact .base .non
  | bl b => cases e; cases h; exact .base (.bl _)
  | int b => cases e; cases h; exact .base (.int _)
  | str b => cases e; cases h; exact .base (.str _)
  | tup ds =>
    cases e
    cases h with
    | tup h1 h2 =>
      rcases Same.tup s h1 with (h1 | ⟨o, h1⟩) | ⟨o, its, n, h1, h2, _⟩
      · exact .base (.tup h1)
      · exact .fTuple h1
      · exact .kTuple h1 h2
  | lst ds =>
    cases e
    obtain ⟨a, xs, rfl, h1, h2⟩ := h
    exact .base (.lst h1)
  | dic ds =>
    cases e
    obtain ⟨a, xs, rfl, h1, h2⟩ := h
    exact .base (.dK h1)
  | ref n => cases e
  | scr n => cases e
theorem je_isi {X : Cx} {c : Cv} {a b : Expr} {n : String} {x : Str} {p pos : Pos} {f : SemO Opd} (hg : Gl X x) (hm : X.mg x = none) (hv : bootBuiltins x = some (.builtin "isinstance")) (ha : JB X c a f) (hb : PE X b (tC (.ty n)))
    (hn : x ≠ "__name__" := by decide) (hdb : (x == ("__debug__" : Str)) = false := by decide) (hs : starEach [a, b] X.env = (false, eval a X.env) :: starEach [b] X.env := by rfl) (hs1 : starEach [b] X.env = (false, eval b X.env) :: starEach [] X.env := by rfl) (hpl : (backTo pos (starEach [b] X.env)).any (·.1) = false := by rfl) :
    JE X c (.Call (.Name x p) [a, b] [] pos) (sIsi n f) :=
  pe_weak (pe_callB call_isi hg hm hv (pa_cons ha (pa_cons hb pa_nil hs1) hs) hn hdb hs hpl) fun σV H Q q => by
    obtain ⟨G, μ, σ, S, R, q⟩ := q
    refine ⟨G, μ, σ, S, R, OPost.bind q fun x σ1 S1 v H1 G1 μ1 R1 I1 s1 p1 q => ?_⟩
    cases hv : view σ1 S1 x with
    | none => rw [hv] at q; exact q.elim
    | some d =>
      simp only [hv] at q
      cases hq : isiP n d with
      | none => simp only [hq] at q; exact q.elim
      | some k =>
        simp only [hq] at q
        unfold isiP at hq
        obtain ⟨t, h1, h2⟩ := Option.bind_eq_some_iff.mp hq
        exact ⟨v, .ty n, .type t, .type n, k, rfl, .ty n, Vw.ty R1.gh (R1.view I1 hv) h1, kit_ty h2, q _ _ _ _ R1 (.bl k) (Same.refl _) (Pre.refl _)⟩
end Fw

namespace Fw
open PySem PySem.Spec PyProof.Rows L2

/-! ### writing -/
def wrAt {α : Type} (k : Ob → Option (Ob × α)) (σ : Fr) (S : Sto) (n : Nat) : Option (α × Fr × Sto) := match S[n]? with
  | some .dead => none
  | some ob => match k ob with
    | some (ob', a) => some (a, σ, S.set n ob')
    | none => none
  | none => none
def wrOb {α : Type} (k : Ob → Option (Ob × α)) (σ : Fr) (S : Sto) : Opd → Option (α × Fr × Sto)
  | .d (.ref n) => wrAt k σ S n
  | .d _ => none
  | .s i => match σ[i]? with
    | some (some (.own ob)) => (match k ob with
      | some (ob', a) => some (a, σ.set i (some (.own ob')), S)
      | none => none)
    | some (some (.val (.ref n))) => wrAt k σ S n
    | _ => none
section
variable {N : Nv} {B : Bs} {G G' : Hp} {μ μ' : List Addr} {σ σ' : Fr} {S S' : Sto} {σV : L2.St} {H H' : Hp} {v : V} {o : Opd} {α : Type} {k : Ob → Option (Ob × α)} {a : α}
theorem Rel.wrAt {n : Nat} (R : Rel N B G μ σ S σV H) (h : DR N.K G μ v (.ref n)) (e : Fw.wrAt k σ S n = some (a, σ', S')) :
    ∃ p ob ob', v = .ref p ∧ k ob = some (ob', a) ∧ ObIs N G μ H p ob ∧ ∀ o', ObIs N G μ (upd H p o') p ob' → Rel N B G μ σ' S' σV (upd H p o') := by
  cases h with
  | @ref p n hn =>
    unfold Fw.wrAt at e
    cases hs : S[n]? with
    | none => rw [hs] at e; cases e
    | some ob =>
      have l := R.sto n p ob hn hs
      rw [hs] at e
      have hd : ob ≠ .dead := fun z => by subst z; cases e
      have hob : ObIs N G μ H p ob := by
        cases ob with
        | dead => exact absurd rfl hd
        | lst ds => exact l.2
        | dic ds => exact l.2
        | ins c ds => exact l.2
      have e : (match k ob with
        | some (ob', a) => some (a, σ, S.set n ob')
        | none => none) = some (a, σ', S') := by
        cases ob with
        | dead => exact absurd rfl hd
        | lst ds => exact e
        | dic ds => exact e
        | ins c ds => exact e
      cases hk : k ob with
      | none => rw [hk] at e; cases e
      | some r =>
        obtain ⟨ob', a'⟩ := r
        rw [hk] at e
        cases e
        exact ⟨p, ob, ob', rfl, hk, hob, fun o' ho' => R.wrLoc hs hn hd ho'⟩
theorem Rel.wrOb (R : Rel N B G μ σ S σV H) (h : OpIs N G μ σV v o) (e : Fw.wrOb k σ S o = some (a, σ', S')) :
    ∃ p ob ob', v = .ref p ∧ k ob = some (ob', a) ∧ ObIs N G μ H p ob ∧ ∀ o', ObIs N G μ (upd H p o') p ob' → Rel N B G μ σ' S' σV (upd H p o') := by
  cases o with
  | d d =>
    cases d with
    | ref n => exact R.wrAt h e
    | _ => cases e
  | s i =>
    have h : σV[i]? = some (some v) := h
    unfold Fw.wrOb at e
    simp only at e
    cases hs : σ[i]? with
    | none => rw [hs] at e; cases e
    | some x =>
      rw [hs] at e
      cases x with
      | none => cases e
      | some x =>
        cases x with
        | val d =>
          cases d with
          | ref n =>
            obtain ⟨u, e1, r⟩ := R.slot i _ hs
            rw [h] at e1
            cases e1
            exact R.wrAt r e
          | _ => cases e
        | own ob =>
          simp only at e
          obtain ⟨p, e1, f1, f2, f3, f4⟩ := R.own i ob hs
          rw [h] at e1
          cases e1
          cases hk : k ob with
          | none => rw [hk] at e; cases e
          | some r =>
            obtain ⟨ob', a'⟩ := r
            rw [hk] at e
            cases e
            exact ⟨p, ob, ob', rfl, hk, f4, fun o' ho' => R.wrOwn hs h ho'⟩
end
/-- o[i] = e, a list -/
def setLK (i : Int) (d : D) : Ob → Option (Ob × Unit)
  | .lst ds => match ixN ds.length i with
    | some j => some (.lst (ds.set j d), ())
    | none => none
  | _ => none
def sSetIx (o i : SemO Opd) (e : SemO D) : SemS := fun σ S => (e σ S).toS fun d σ S => (o σ S).toS fun x σ S => (i σ S).toS fun y σ S => match view σ S y with
  | some (.int k) => (match wrOb (setLK k d) σ S x with
    | some (_, σ', S') => .nx σ' S'
    | none => .no)
  | _ => .no
/-- o.m(e), a list's method that gives None -/
def sMeth (k : D → Ob → Option (Ob × D)) (o : SemO Opd) (e : SemO D) : SemO RV := fun σ S => (o σ S).bind fun x σ S => match view σ S x with
  | some (.lst _) => (e σ S).bind fun d σ S => (match wrOb (k d) σ S x with
    | some (r, σ', S') => .ok (.d r) σ' S'
    | none => .no)
  | _ => .no
def sMeth0 (k : Ob → Option (Ob × D)) (o : SemO Opd) : SemO RV := fun σ S => (o σ S).bind fun x σ S => match view σ S x with
  | some (.lst _) => (match wrOb k σ S x with
    | some (r, σ', S') => .ok (.d r) σ' S'
    | none => .no)
  | _ => .no
def appK (d : D) : Ob → Option (Ob × D)
  | .lst ds => if Nat.blt ds.length sizeLine then some (.lst (ds ++ [d]), .non) else none
  | _ => none
def extK (d : D) : Ob → Option (Ob × D)
  | .lst ds => match d with
    | .lst es => if szOk (ds.length + es.length) then some (.lst (ds ++ es), .non) else none
    | _ => none
  | _ => none
def popK : Ob → Option (Ob × D)
  | .lst ds => match ds[ds.length - 1]? with
    | some d => some (.lst ds.dropLast, d)
    | none => none
  | _ => none
section
variable {X : Cx} {c : Cv} {o i e : Expr} {fo fi : SemO Opd} {fe : SemO D} {pos p2 : Pos}
theorem DRs.dropLast {K : PySem.W.Frag} {G : Hp} {μ : List Addr} {v : List V} {d : List D} (h : DRs K G μ v d) : DRs K G μ v.dropLast d.dropLast := by
  rw [List.dropLast_eq_take, List.dropLast_eq_take, h.length]
  exact h.take _
theorem js_setIx (he : JD X c e fe) (ho : JB X c o fo) (hi : JB X c i fi) (hg : ∀ v : Value, assign (.Subscript o i p2) X.env v = (do
      let a ← holding [v] (eval o X.env)
      let b ← holding [v, a] (eval i X.env)
      standAt p2; holding [v, a, b] (setItem a b v); release [v, a, b] []) := by intro _; rfl)
    (h1 : swapsWithSole [.Subscript o i p2] e pos.line X.env = pure false := by rfl) (h2 : swappedStores [.Subscript o i p2] e X.env = pure none := by rfl)
    (h3 : List.map (fun x => x.snd) (assignEach [.Subscript o i p2] X.env) = [assign (.Subscript o i p2) X.env] := by rfl) : JS X c (.Assign [.Subscript o i p2] e pos) (sSetIx fo fi fe) := ps_weak (ps_asg he (pg_sub ho hi set_list hg) h1 h2 h3) fun E σV H q => by
  obtain ⟨G, μ, σ, S, R, q⟩ := q
  refine ⟨G, μ, σ, S, R, SPost.toS q fun d σ1 S1 v H1 G1 μ1 R1 I1 s1 p1 q => ?_⟩
  refine ⟨G1, μ1, σ1, S1, R1, SPost.toS q fun x σ2 S2 xv H2 G2 μ2 R2 I2 s2 p2 q => ?_⟩
  refine ⟨G2, μ2, σ2, S2, R2, SPost.toS q fun y σ3 S3 yv H3 G3 μ3 R3 I3 s3 p3 q => ?_⟩
  cases hv : view σ3 S3 y with
  | none => rw [hv] at q; exact q.elim
  | some dk =>
    rw [hv] at q
    cases dk with
    | int k =>
      simp only at q
      cases hw : wrOb (setLK k d) σ3 S3 x with
      | none => rw [hw] at q; exact q.elim
      | some r =>
        obtain ⟨⟨⟩, σ4, S4⟩ := r
        rw [hw] at q
        obtain ⟨p, ob, ob', rfl, hk, hob, hR⟩ := R3.wrOb (OpIs.mono I2 s3 p3) hw
        have hy := R3.view I3 hv
        cases ob with
        | lst ds =>
          obtain ⟨xs, e1, e2⟩ := hob
          unfold setLK at hk
          simp only at hk
          cases hj : ixN ds.length k with
          | none => rw [hj] at hk; cases hk
          | some j =>
            rw [hj] at hk
            cases hk
            cases hy
            refine ⟨p, xs, k, j, rfl, rfl, e1, by rw [e2.length]; exact hj, q _ _ G3 μ3 (hR _ ⟨_, upd_same, e2.set j ?_⟩) (Same.refl _) (Pre.refl _)⟩
            exact I1.mono (s2.trans s3) (p2.trans p3)
        | _ => cases hk
    | _ => exact q.elim
theorem rd_meth {N : Nv} {k : D → Ob → Option (Ob × D)} {r : V → List V → Hp → VK → Prop} (hr : ∀ G μ H p d ob ob' y dv, ObIs N G μ H p ob → k d ob = some (ob', dv) → DR N.K G μ y d → Same G H → ∀ Q : VK, (∀ v o', DR N.K G μ v dv → ObIs N G μ (upd H p o') p ob' → Q v (upd H p o')) → r (.ref p) [y] H Q)
    {σV : L2.St} {H : Hp} {Q : VK} (q : rd N c (isRV N c) (sMeth k fo fe) σV H Q) : tBM N.K "list" r (rd N c (isO N) fo) (tCons (rd N c (isD N) fe) tNil) σV H Q := by
  obtain ⟨G, μ, σ, S, R, q⟩ := q
  refine ⟨G, μ, σ, S, R, OPost.bind q fun x σ1 S1 xv H1 G1 μ1 R1 I1 s1 p1 q => ?_⟩
  cases hv : view σ1 S1 x with
  | none => rw [hv] at q; exact q.elim
  | some dl =>
    rw [hv] at q
    have hx := R1.view I1 hv
    cases dl with
    | lst ds =>
      simp only at q
      obtain ⟨a, xs, rfl, h1, h2⟩ := hx
      refine ⟨.inl ⟨rfl, xs, SqL.of h1⟩, G1, μ1, σ1, S1, R1, OPost.bind q fun d σ2 S2 y H2 G2 μ2 R2 I2 s2 p2 q => ?_⟩
      cases hw : wrOb (k d) σ2 S2 x with
      | none => rw [hw] at q; exact q.elim
      | some z =>
        obtain ⟨dv, σ3, S3⟩ := z
        rw [hw] at q
        obtain ⟨p, ob, ob', e0, hk, hob, hR⟩ := R2.wrOb (OpIs.mono I1 s2 p2) hw
        rw [e0]
        exact hr G2 μ2 H2 p d ob ob' y dv hob hk I2 R2.gh Q fun v o' dr ho => q v _ G2 μ2 (hR o' ho) dr (Same.refl _) (Pre.refl _)
    | _ => exact q.elim
theorem rd_meth0 {N : Nv} {k : Ob → Option (Ob × D)} {r : V → List V → Hp → VK → Prop} (hr : ∀ G μ H p ob ob' dv, ObIs N G μ H p ob → k ob = some (ob', dv) → Same G H → ∀ Q : VK, (∀ v o', DR N.K G μ v dv → ObIs N G μ (upd H p o') p ob' → Q v (upd H p o')) → r (.ref p) [] H Q)
    {σV : L2.St} {H : Hp} {Q : VK} (q : rd N c (isRV N c) (sMeth0 k fo) σV H Q) : tBM0 N.K "list" r (rd N c (isO N) fo) σV H Q := by
  obtain ⟨G, μ, σ, S, R, q⟩ := q
  refine ⟨G, μ, σ, S, R, OPost.bind q fun x σ1 S1 xv H1 G1 μ1 R1 I1 s1 p1 q => ?_⟩
  cases hv : view σ1 S1 x with
  | none => rw [hv] at q; exact q.elim
  | some dl =>
    rw [hv] at q
    have hx := R1.view I1 hv
    cases dl with
    | lst ds =>
      simp only at q
      obtain ⟨a, xs, rfl, h1, h2⟩ := hx
      refine ⟨.inl ⟨rfl, xs, SqL.of h1⟩, ?_⟩
      cases hw : wrOb k σ1 S1 x with
      | none => rw [hw] at q; exact q.elim
      | some z =>
        obtain ⟨dv, σ3, S3⟩ := z
        rw [hw] at q
        obtain ⟨p, ob, ob', e0, hk, hob, hR⟩ := R1.wrOb I1 hw
        rw [e0]
        exact hr G1 μ1 H1 p ob ob' dv hob hk R1.gh Q fun v o' dr ho => q v _ G1 μ1 (hR o' ho) dr (Same.refl _) (Pre.refl _)
    | _ => exact q.elim
theorem je_meth {k : D → Ob → Option (Ob × D)} {id : String} {r : V → List V → Hp → VK → Prop} {name : Str} {apos cpos : Pos} (slot : Slot "list" name id) (hty : typeOf (.builtin id) = pure (.type "method_descriptor")) (hm : MtR X id r)
    (hr : ∀ G μ H p d ob ob' y dv, ObIs (nv X c) G μ H p ob → k d ob = some (ob', dv) → DR X.K G μ y d → Same G H → ∀ Q : VK, (∀ v o', DR X.K G μ v dv → ObIs (nv X c) G μ (upd H p o') p ob' → Q v (upd H p o')) → r (.ref p) [y] H Q)
    (ho : JB X c o fo) (he : JD X c e fe) (h1 : attributeBase o name X.env (eval o X.env) = eval o X.env := by rfl)
    (h2 : (((backTo cpos (starEach [e] X.env)).all fun x => !x.fst) && ((backToKw cpos (keywordEach [] X.env)).all fun x => x.fst.isSome) && decide (([e] : List Expr).length + ([] : List Keyword).length + (if ([] : List Keyword).isEmpty = true then 0 else 1) < 30)) = true := by rfl)
    (h3 : (apos.endLine == cpos.line) = true := by rfl) (h4 : starEach [e] X.env = (false, eval e X.env) :: starEach [] X.env := by rfl) (h5 : ((backTo cpos (starEach [] X.env)).any fun x => x.fst) = false := by rfl) :
    JE X c (.Call (.Attribute o name apos) [e] [] cpos) (sMeth k fo fe) := pe_weak (pe_bm F.plainAttrs_list slot hty hm ho (pa_cons he pa_nil h4) h1 h2 h3 h4 h5) fun σV H Q q => rd_meth hr q
theorem je_meth0 {k : Ob → Option (Ob × D)} {id : String} {r : V → List V → Hp → VK → Prop} {name : Str} {apos cpos : Pos} (slot : Slot "list" name id) (hty : typeOf (.builtin id) = pure (.type "method_descriptor")) (hm : MtR X id r)
    (hr : ∀ G μ H p ob ob' dv, ObIs (nv X c) G μ H p ob → k ob = some (ob', dv) → Same G H → ∀ Q : VK, (∀ v o', DR X.K G μ v dv → ObIs (nv X c) G μ (upd H p o') p ob' → Q v (upd H p o')) → r (.ref p) [] H Q)
    (ho : JB X c o fo) (h1 : attributeBase o name X.env (eval o X.env) = eval o X.env := by rfl) (h3 : (apos.endLine == cpos.line) = true := by rfl) :
    JE X c (.Call (.Attribute o name apos) [] [] cpos) (sMeth0 k fo) := pe_weak (pe_bm0 F.plainAttrs_list slot hty hm ho h1 h3) fun σV H Q q => rd_meth0 hr q
theorem k_app {N : Nv} : ∀ G μ H p d ob ob' y dv, ObIs N G μ H p ob → appK d ob = some (ob', dv) → DR N.K G μ y d → Same G H → ∀ Q : VK, (∀ v o', DR N.K G μ v dv → ObIs N G μ (upd H p o') p ob' → Q v (upd H p o')) → rAppend (.ref p) [y] H Q := by
  intro G μ H p d ob ob' y dv hob hk hy s Q q
  cases ob with
  | lst ds =>
    obtain ⟨xs, e1, e2⟩ := hob
    unfold appK at hk
    simp only at hk
    split at hk
    · rename_i hl
      cases hk
      exact ⟨p, xs, y, rfl, rfl, e1, by rw [e2.length]; exact Nat.le_of_ble_eq_true hl, q _ _ .non ⟨_, upd_same, e2.append (.cons hy .nil)⟩⟩
    · cases hk
  | _ => cases hk
theorem k_ext {N : Nv} : ∀ G μ H p d ob ob' y dv, ObIs N G μ H p ob → extK d ob = some (ob', dv) → DR N.K G μ y d → Same G H → ∀ Q : VK, (∀ v o', DR N.K G μ v dv → ObIs N G μ (upd H p o') p ob' → Q v (upd H p o')) → rExtend (.ref p) [y] H Q := by
  intro G μ H p d ob ob' y dv hob hk hy s Q q
  cases ob with
  | lst ds =>
    obtain ⟨xs, e1, e2⟩ := hob
    unfold extK at hk
    simp only at hk
    split at hk
    · split at hk
      · rename_i hl
        cases hk
        cases hy with
        | @lst b zs es h1 h2 => exact ⟨p, b, xs, zs, rfl, rfl, e1, s _ _ h1, by rw [e2.length, h2.length]; exact szOk_le hl, q _ _ .non ⟨_, upd_same, e2.append h2⟩⟩
      · cases hk
    · cases hk
  | _ => cases hk
theorem k_pop {N : Nv} : ∀ G μ H p ob ob' dv, ObIs N G μ H p ob → popK ob = some (ob', dv) → Same G H → ∀ Q : VK, (∀ v o', DR N.K G μ v dv → ObIs N G μ (upd H p o') p ob' → Q v (upd H p o')) → rPop (.ref p) [] H Q := by
  intro G μ H p ob ob' dv hob hk s Q q
  cases ob with
  | lst ds =>
    obtain ⟨xs, e1, e2⟩ := hob
    unfold popK at hk
    simp only at hk
    cases hd : ds[ds.length - 1]? with
    | none => rw [hd] at hk; cases hk
    | some d =>
      rw [hd] at hk
      cases hk
      obtain ⟨y, e3, r⟩ := e2.at hd
      exact ⟨p, xs, y, rfl, rfl, e1, by rw [e2.length]; exact e3, q _ _ r ⟨_, upd_same, e2.dropLast⟩⟩
  | _ => cases hk
end
/-! list * int, a call without arguments, comparison chains -/
def repP : P2 := fun d e => match d, e with
  | .lst xs, .int k => fits (decide (-(2 ^ 63) ≤ k) && decide (k < 2 ^ 63) && szOk (xs.length * k.toNat)) (.f (.lst (List.replicate k.toNat xs).flatten))
  | _, _ => none
theorem p_rep {N : Nv} : Prim2 N rRep repP := by
  intro G μ H x y d e rv s hx hy hp Q q
  unfold repP at hp
  split at hp
  · obtain ⟨h1, rfl⟩ := fits_some hp
    simp only [Bool.and_eq_true, decide_eq_true_eq] at h1
    obtain ⟨a, xs, rfl, h2, h3⟩ := hx
    cases hy
    exact ⟨a, _, xs, rfl, rfl, h2, h1.1.1, h1.1.2, by rw [h3.length]; exact szOk_le h1.2, fun p hp => q _ _ (.lst hp (h3.rep _))⟩
  · cases hp
end Fw

namespace Fw
open PySem PySem.Spec PyProof.Rows L2

/-! ### no exception leaves -/
theorem passN {X : Cx} {σ : L2.St} {E : XK} : PassesAt CX0 X σ E := fun _ _ _ _ _ _ h => h.elim
/-! ### a constant of the module -/
theorem dr_tup {K : PySem.W.Frag} {a : Addr} {xs : List V} {ds : List D} {G : Hp} {μ : List Addr} (h : SqT K G a xs) (t : DRs K G μ xs ds) : DR K G μ (.ref a) (.tup ds) := .tup h t
/-! ### the law's end -/
theorem dr_ints {K : PySem.W.Frag} {G : Hp} {μ : List Addr} : ∀ ns : List Int, DRs K G μ (ns.map V.int) (ns.map D.int)
  | [] => .nil
  | n :: ns => .cons (.int n) (dr_ints ns)
theorem law_sp {K : PySem.W.Frag} {ct : Nat → Addr} {g : SemC} {H : Hp} {a : Addr} {ns : List Int} (hS : SqL K H a (ns.map V.int)) (h : ∃ S, g [.scr (ns.map D.int)] [] = .ok (.d (.bl true)) S) :
    spOf ⟨K, ct⟩ g [.ref a] H (fun v _ => v = .bl true) fun _ _ _ => False := by
  obtain ⟨S, h⟩ := h
  refine ⟨H, [], _, [], ⟨Same.refl _, List.nodup_nil, rfl, fun n a ob e => by simp at e⟩, .cons (.scr hS (dr_ints ns)) .nil, ?_⟩
  rw [h]
  intro v H' G' μ' A f
  cases f
  rfl
theorem walk_end {l : PySem.W.OpenLaw} {n k : Nat} {q : Program} {loose : List Str} {XP : (Str → Option Value) → Heap → Prop} {YP : World → Heap → Prop} {d : DefRec} {CX : CXT} {x : Str} {g : SemC}
    (hn : l.most = some n) (hn2 : n ≤ sizeLine) (hdf : d.params.defaults = []) (hr : Room k callerA)
    (F : ∀ (w : World) (mg : Str → Option Value) (fa : Addr) (h : Heap), YP w h → h.Ns mainGlobals mg → mg d.name = some (.ref fa) →
      ∃ (K : PySem.W.Frag) (fd : FuncData) (ct : Nat → Addr), K.In h ∧ (∀ (s : Shared) (u : Value), BindsTo s fd ⟨[u], []⟩ [(x, u)]) ∧
        ∀ base : Heap, K.In base → base.Ns mainGlobals mg → FnOk l.prog w K mg base CX k fa fd [x] (spOf ⟨K, ct⟩ g))
    (hg : ∀ ns : List Int, ns.length ≤ n → (∀ z ∈ ns, Builtin.Int.intBits z ≤ 1048576) → ∃ S, g [.scr (ns.map D.int)] [] = .ok (.d (.bl true)) S)
    (hCX : ∀ (H : Hp) (s : Shared) (e : Value) (s' : Shared), CX [] H s (fun _ _ _ => False) e s' → False) :
    PySem.W.WalkO q loose XP YP l.row.toRowW d [] (fun f vs => PySem.call f vs) := by
  refine Att.attach_callB hn hdf fun w s₀ s₁ mg mb fa o pm cd doc a vs ns G Y ho hd hcd hmg hobj hints hlen hbits hgn => ?_
  obtain ⟨K, fd, ct, KX, hb, hF⟩ := F w mg fa _ Y G.T.g hmg
  exact law_call KX G.T.g G.T.b G.T.builtins G.T.nolimit hgn hobj hints (Nat.le_trans hlen hn2) hr hF hb (fun H hO hS => law_sp hS (hg ns hlen hbits)) fun H e s' => hCX H s₁ e s'
theorem passN' {X : Cx} : ∀ σ : L2.St, PassesAt CX0 X σ fun _ _ _ => False := fun _ _ _ _ _ _ _ h => h.elim
theorem u65 {A : Around} {k : Nat} (h : Room k A) : A.units + 65 < cLine := by have := h.un; omega
theorem u70 {A : Around} {k : Nat} (h : Room k A) : A.units + 70 < cLine := by have := h.un; omega
theorem no_ok {P : Program} {w : World} {K : PySem.W.Frag} {mg : Str → Option Value} {base : Heap} {CX : CXT} {f : Addr} {fd : FuncData} {ps : List Str} {N : Nv} : FnOk P w K mg base CX 0 f fd ps (spOf N fun _ _ => .no) :=
  ⟨fun vs H Q E h => by obtain ⟨_, _, _, _, _, _, h⟩ := h; exact h.elim, fun A outer s H args us vs Q E _ _ _ _ h => by obtain ⟨_, _, _, _, _, _, h⟩ := h; exact h.elim⟩
def sBrk : SemS := fun σ S => .brk σ S
def sCt : SemS := fun σ S => .ct σ S
/-- a list or a tuple is walked -/
def seqOf : D → Option (List D)
  | .lst ds => some ds
  | .tup ds => some ds
  | _ => none
def sItS (f : SemO D) : SemO (List D) := fun σ S => (f σ S).bind fun d => liftO (seqOf d)
theorem pi_or {X : Cx} {tg e : Expr} {t u : TI} (h : PI X tg e t) (h' : PI X tg e u) : PI X tg e (fun σ H R => t σ H R ∨ u σ H R) := ⟨fun pins s σ H R I q => q.elim (h.run pins s σ H R I) (h'.run pins s σ H R I)⟩
theorem ji_seq {X : Cx} {c : Cv} {tg e : Expr} {f : SemO D} (h : JD X c e f) : JI X c tg e (sItS f) := pi_weak (pi_or (ji_list (tg := tg) h) (ji_tup (tg := tg) h)) fun σV H Q q => by
  obtain ⟨G, μ, σ, S, R, q⟩ := q
  cases hf : f σ S with
  | exc x σ1 S1 =>
    refine .inl ⟨G, μ, σ, S, R, ?_⟩
    unfold sItS at q; unfold sItL
    rw [hf] at q ⊢; exact q
  | no =>
    unfold sItS at q
    rw [hf] at q; exact q.elim
  | ok d σ1 S1 =>
    unfold sItS at q
    rw [hf] at q
    cases d with
    | lst ds => refine .inl ⟨G, μ, σ, S, R, ?_⟩; unfold sItL; rw [hf]; exact q
    | tup ds => refine .inr ⟨G, μ, σ, S, R, ?_⟩; unfold sItT; rw [hf]; exact q
    | _ => exact q.elim
end Fw

/-! evaluation: what a meaning gives, rule by rule -/
namespace Fw
open PySem PySem.Spec PyProof.Rows L2
section
variable {α β γ : Type} {σ σ' : Fr} {S S' : Sto} {a : α}
theorem e_bind {k : α → SemO β} : (Out.ok a σ S).bind k = k a σ S := rfl
theorem e_bindX {x : Ex} {k : α → SemO β} : (Out.exc x σ S).bind k = .exc x σ S := rfl
theorem e_bindN {k : α → SemO β} : (Out.ok a σ S).bindN k = k a σ S := rfl
theorem e_toS {k : α → SemS} : (Out.ok a σ S).toS k = k a σ S := rfl
theorem e_toSX {x : Ex} {k : α → SemS} : (Out.exc x σ S).toS k = .exc x σ S := rfl
theorem e_seq {k : SemS} : (SOut.nx σ S).seq k = k σ S := rfl
theorem e_seqR {k : SemS} {r : RV} : (SOut.ret r σ S).seq k = .ret r σ S := rfl
theorem e_seqB {k : SemS} : (SOut.brk σ S).seq k = .brk σ S := rfl
theorem e_seqC {k : SemS} : (SOut.ct σ S).seq k = .ct σ S := rfl
theorem e_seqX {k : SemS} {x : Ex} : (SOut.exc x σ S).seq k = .exc x σ S := rfl
theorem e_iteBind {c : Prop} [Decidable c] {x y : Out α} {k : α → SemO β} : (if c then x else y).bind k = if c then x.bind k else y.bind k := by split <;> rfl
theorem e_iteBindN {c : Prop} [Decidable c] {x y : Out α} {k : α → SemO β} : (if c then x else y).bindN k = if c then x.bindN k else y.bindN k := by split <;> rfl
theorem e_iteToS {c : Prop} [Decidable c] {x y : Out α} {k : α → SemS} : (if c then x else y).toS k = if c then x.toS k else y.toS k := by split <;> rfl
theorem e_iteSeq {c : Prop} [Decidable c] {x y : SOut} {k : SemS} : (if c then x else y).seq k = if c then x.seq k else y.seq k := by split <;> rfl
theorem e_some {a : α} : liftO (some a) σ S = .ok a σ S := rfl
theorem e_none : liftO (none : Option α) σ S = .no := rfl
def kThaw (r : RV) : SemO D := fun σ S => liftO (thaw r) σ S
theorem e_kThaw {r : RV} : kThaw r σ S = liftO (thaw r) σ S := rfl
theorem e_sD {f : SemO RV} : sD f σ S = (f σ S).bind kThaw := rfl
def kOp (r : D) : SemO Opd := fun σ S => .ok (.d r) σ S
theorem e_kOp {r : D} : kOp r σ S = .ok (.d r) σ S := rfl
theorem e_sO {f : SemO D} : sO f σ S = (f σ S).bind kOp := rfl
theorem e_sC {d : D} : sC d σ S = .ok (.d d) σ S := rfl
theorem e_thawD {d : D} : thaw (.d d) = some d := rfl
theorem e_thawL {ds : List D} : thaw (.f (.lst ds)) = some (.lst ds) := rfl
theorem e_thawK {ds : List (Key × D)} : thaw (.f (.dic ds)) = some (.dic ds) := rfl
def rdV (i : Nat) (σ : Fr) (S : Sto) : Option (Option Sl) → Out RV
  | some (some (.val d)) => .ok (.d d) σ S
  | some (some (.own (.lst ds))) => .ok (.d (.lst ds)) (σ.set i (some (.val (.lst ds)))) S
  | some (some (.own (.dic ds))) => .ok (.d (.dic ds)) (σ.set i (some (.val (.dic ds)))) S
  | _ => .no
theorem e_sV {i : Nat} : sV i σ S = rdV i σ S σ[i]? := by
  unfold sV slotD rdV
  cases σ[i]? with
  | none => rfl
  | some x => cases x with
    | none => rfl
    | some x => cases x with
      | val d => rfl
      | own o => cases o <;> rfl
theorem e_rdV {i : Nat} {d : D} : rdV i σ S (some (some (.val d))) = .ok (.d d) σ S := rfl
theorem e_rdVL {i : Nat} {ds : List D} : rdV i σ S (some (some (.own (.lst ds)))) = .ok (.d (.lst ds)) (σ.set i (some (.val (.lst ds)))) S := rfl
theorem e_rdVK {i : Nat} {ds : List (Key × D)} : rdV i σ S (some (some (.own (.dic ds)))) = .ok (.d (.dic ds)) (σ.set i (some (.val (.dic ds)))) S := rfl
def rdVO (i : Nat) (σ : Fr) (S : Sto) : Option (Option Sl) → Out Opd
  | some (some (.val d)) => .ok (.d d) σ S
  | some (some (.own _)) => .ok (.s i) σ S
  | _ => .no
theorem e_sVO {i : Nat} : sVO i σ S = rdVO i σ S σ[i]? := rfl
theorem e_rdVO {i : Nat} {d : D} : rdVO i σ S (some (some (.val d))) = .ok (.d d) σ S := rfl
theorem e_rdVOo {i : Nat} {o : Ob} : rdVO i σ S (some (some (.own o))) = .ok (.s i) σ S := rfl
def rdRV (i : Nat) (σ : Fr) (S : Sto) : Option (Option Sl) → SOut
  | some (some (.val d)) => .ret (.d d) σ S
  | some (some (.own ob)) => .ret (.f ob) (σ.set i none) S
  | _ => .no
theorem e_sRetV {i : Nat} : sRetV i σ S = rdRV i σ S σ[i]? := rfl
theorem e_rdRV {i : Nat} {d : D} : rdRV i σ S (some (some (.val d))) = .ret (.d d) σ S := rfl
theorem e_rdRVo {i : Nat} {o : Ob} : rdRV i σ S (some (some (.own o))) = .ret (.f o) (σ.set i none) S := rfl
/-! looking at operands -/
theorem e_viewI {i : Int} : view σ S (.d (.int i)) = some (.int i) := rfl
theorem e_viewS {x : Str} : view σ S (.d (.str x)) = some (.str x) := rfl
theorem e_viewB {x : Bool} : view σ S (.d (.bl x)) = some (.bl x) := rfl
theorem e_viewN : view σ S (.d .non) = some .non := rfl
theorem e_viewT {x : List D} : view σ S (.d (.tup x)) = some (.tup x) := rfl
theorem e_viewL {x : List D} : view σ S (.d (.lst x)) = some (.lst x) := rfl
theorem e_viewK {x : List (Key × D)} : view σ S (.d (.dic x)) = some (.dic x) := rfl
theorem e_viewC {x : List D} : view σ S (.d (.scr x)) = some (.scr x) := rfl
def obD : Option Ob → Option D
  | some (.lst ds) => some (.lst ds)
  | some (.dic ks) => some (.dic ks)
  | _ => none
theorem e_viewR {n : Nat} : view σ S (.d (.ref n)) = obD S[n]? := rfl
theorem e_obDL {ds : List D} : obD (some (.lst ds)) = some (.lst ds) := rfl
theorem e_obDK {ds : List (Key × D)} : obD (some (.dic ds)) = some (.dic ds) := rfl
def slView (S : Sto) : Option (Option Sl) → Option D
  | some (some (.own (.lst ds))) => some (.lst ds)
  | some (some (.own (.dic ks))) => some (.dic ks)
  | some (some (.val d)) => viewD S d
  | _ => none
theorem e_viewV {i : Nat} : view σ S (.s i) = slView S σ[i]? := rfl
theorem e_slViewL {ds : List D} : slView S (some (some (.own (.lst ds)))) = some (.lst ds) := rfl
theorem e_slViewK {ds : List (Key × D)} : slView S (some (some (.own (.dic ds)))) = some (.dic ds) := rfl
theorem e_slViewVL {ds : List D} : slView S (some (some (.val (.lst ds)))) = some (.lst ds) := rfl
theorem e_views0 : views σ S [] = some [] := rfl
theorem e_views1 {o : Opd} {os : List Opd} : views σ S (o :: os) = (view σ S o).bind fun d => (views σ S os).bind fun ds => some (d :: ds) := by
  rw [views]
  cases view σ S o <;> cases views σ S os <;> rfl
def kP1 (p : P1) (d : D) : SemO RV := fun σ S => liftO (p d) σ S
theorem e_kP1 {p : P1} {d : D} : kP1 p d σ S = liftO (p d) σ S := rfl
def k1 (p : P1) (x : Opd) : SemO RV := fun σ S => (liftO (view σ S x) σ S).bind (kP1 p)
theorem e_k1 {p : P1} {x : Opd} : k1 p x σ S = (liftO (view σ S x) σ S).bind (kP1 p) := rfl
theorem e_s1 {p : P1} {f : SemO Opd} : s1 p f σ S = (f σ S).bind (k1 p) := by
  unfold s1; congr 1; funext x σ S; unfold k1; cases view σ S x <;> rfl
def kP2 (p : P2) (d e : D) : SemO RV := fun σ S => liftO (p d e) σ S
theorem e_kP2 {p : P2} {d e : D} : kP2 p d e σ S = liftO (p d e) σ S := rfl
def k2c (p : P2) (y : Opd) (d : D) : SemO RV := fun σ S => (liftO (view σ S y) σ S).bind (kP2 p d)
theorem e_k2c {p : P2} {y : Opd} {d : D} : k2c p y d σ S = (liftO (view σ S y) σ S).bind (kP2 p d) := rfl
def k2b (p : P2) (x y : Opd) : SemO RV := fun σ S => (liftO (view σ S x) σ S).bind (k2c p y)
theorem e_k2b {p : P2} {x y : Opd} : k2b p x y σ S = (liftO (view σ S x) σ S).bind (k2c p y) := rfl
def k2a (p : P2) (g : SemO Opd) (x : Opd) : SemO RV := fun σ S => (g σ S).bind (k2b p x)
theorem e_k2a {p : P2} {g : SemO Opd} {x : Opd} : k2a p g x σ S = (g σ S).bind (k2b p x) := rfl
theorem e_s2 {p : P2} {f g : SemO Opd} : s2 p f g σ S = (f σ S).bind (k2a p g) := by
  unfold s2; congr 1; funext x σ S; unfold k2a; congr 1; funext y σ S; unfold k2b; cases view σ S x <;> cases hy : view σ S y <;> simp only [liftO, Out.bind, hy, k2c, kP2]
def kPL (p : PL) (ds : List D) : SemO RV := fun σ S => liftO (p ds) σ S
theorem e_kPL {p : PL} {ds : List D} : kPL p ds σ S = liftO (p ds) σ S := rfl
def kL (p : PL) (xs : List Opd) : SemO RV := fun σ S => (liftO (views σ S xs) σ S).bind (kPL p)
theorem e_kL {p : PL} {xs : List Opd} : kL p xs σ S = (liftO (views σ S xs) σ S).bind (kPL p) := rfl
theorem e_sL {p : PL} {f : SemO (List Opd)} : sL p f σ S = (f σ S).bind (kL p) := by
  unfold sL; congr 1; funext x σ S; unfold kL; cases views σ S x <;> rfl
def kCs {α : Type} (x : α) (xs : List α) : SemO (List α) := fun σ S => .ok (x :: xs) σ S
theorem e_kCs {α : Type} {x : α} {xs : List α} : kCs x xs σ S = .ok (x :: xs) σ S := rfl
def kC {α : Type} (g : SemO (List α)) (x : α) : SemO (List α) := fun σ S => (g σ S).bind (kCs x)
theorem e_kC {α : Type} {g : SemO (List α)} {x : α} : kC g x σ S = (g σ S).bind (kCs x) := rfl
theorem e_nilD : nilD σ S = .ok [] σ S := rfl
theorem e_consD {f : SemO D} {g : SemO (List D)} : consD f g σ S = (f σ S).bind (kC g) := rfl
theorem e_nilO : nilO σ S = .ok [] σ S := rfl
theorem e_consO {f : SemO Opd} {g : SemO (List Opd)} : consO f g σ S = (f σ S).bind (kC g) := rfl
def kTup (ds : List D) : SemO RV := fun σ S => liftO (fits (okLen ds) (.d (.tup ds))) σ S
theorem e_kTup {ds : List D} : kTup ds σ S = liftO (fits (okLen ds) (.d (.tup ds))) σ S := rfl
theorem e_sTup {f : SemO (List D)} : sTup f σ S = (f σ S).bind kTup := rfl
def kLst (ds : List D) : SemO RV := fun σ S => liftO (fits (okLen ds) (.f (.lst ds))) σ S
theorem e_kLst {ds : List D} : kLst ds σ S = liftO (fits (okLen ds) (.f (.lst ds))) σ S := rfl
theorem e_sLst {f : SemO (List D)} : sLst f σ S = (f σ S).bind kLst := rfl
theorem e_fits {b : Bool} {a : α} (h : b = true) : fits b a = some a := by rw [h]; rfl
theorem e_fitsT {a : α} : fits true a = some a := rfl
def kB (r : RV) : SemO Bool := fun σ S => liftO (bOf r) σ S
theorem e_kB {r : RV} : kB r σ S = liftO (bOf r) σ S := rfl
theorem e_sB {f : SemO RV} : sB f σ S = (f σ S).bind kB := rfl
theorem e_bOf {b : Bool} : bOf (dBl b) = some b := rfl
theorem e_bOf' {b : Bool} : bOf (.d (.bl b)) = some b := rfl
def kAnd (g : SemO Bool) (b : Bool) : SemO Bool := fun σ S => if b then g σ S else .ok false σ S
theorem e_kAnd {g : SemO Bool} {b : Bool} : kAnd g b σ S = if b then g σ S else .ok false σ S := rfl
theorem e_sAnd {f g : SemO Bool} : sAnd f g σ S = (f σ S).bind (kAnd g) := rfl
def kOr (g : SemO Bool) (b : Bool) : SemO Bool := fun σ S => if b then .ok true σ S else g σ S
theorem e_kOr {g : SemO Bool} {b : Bool} : kOr g b σ S = if b then .ok true σ S else g σ S := rfl
theorem e_sOr {f g : SemO Bool} : sOr f g σ S = (f σ S).bind (kOr g) := rfl
def kNot (b : Bool) : SemO Bool := fun σ S => .ok (!b) σ S
theorem e_kNot {b : Bool} : kNot b σ S = .ok (!b) σ S := rfl
theorem e_sNot {f : SemO Bool} : sNot f σ S = (f σ S).bind kNot := rfl
def kVal (b : Bool) : SemO RV := fun σ S => .ok (.d (.bl b)) σ S
theorem e_kVal {b : Bool} : kVal b σ S = .ok (.d (.bl b)) σ S := rfl
theorem e_sVal {f : SemO Bool} : sVal f σ S = (f σ S).bind kVal := rfl
def kIf (f g : SemO RV) (b : Bool) : SemO RV := fun σ S => if b then f σ S else g σ S
theorem e_kIf {f g : SemO RV} {b : Bool} : kIf f g b σ S = if b then f σ S else g σ S := rfl
theorem e_sIf {t : SemO Bool} {f g : SemO RV} : sIf t f g σ S = (t σ S).bind (kIf f g) := rfl
theorem e_sCall {g : SemC} {dd : List D} {f : SemO (List D)} : sCall g dd f σ S = (f σ S).bind fun ds σ S => (match g (ds ++ dd) S with
  | .ok r S' => .ok r σ S'
  | .exc x S' => .exc x σ S'
  | .no => .no) := rfl
def cOut (σ : Fr) : COut → Out RV
  | .ok r S' => .ok r σ S'
  | .exc x S' => .exc x σ S'
  | .no => .no
def kCall (g : SemC) (dd ds : List D) : SemO RV := fun σ S => cOut σ (g (ds ++ dd) S)
theorem e_kCall {g : SemC} {dd ds : List D} : kCall g dd ds σ S = cOut σ (g (ds ++ dd) S) := rfl
theorem e_call {g : SemC} {dd : List D} {f : SemO (List D)} : sCall g dd f σ S = (f σ S).bind (kCall g dd) := by
  rw [e_sCall]; congr 1
theorem e_cOut {r : RV} : cOut σ (.ok r S) = .ok r σ S := rfl
theorem e_cOutX {x : Ex} : cOut σ (.exc x S) = .exc x σ S := rfl
def isiQ (t : String) : P1 := fun d => (isiP t d).map dBl
theorem e_isiQ {t : String} {d : D} : isiQ t d = (isiP t d).map dBl := rfl
theorem e_sIsi {t : String} {f : SemO Opd} : sIsi t f σ S = (f σ S).bind (k1 (isiQ t)) := e_s1
/-! statements -/
theorem e_sNx : sNx σ S = .nx σ S := rfl
theorem e_sBrk : sBrk σ S = .brk σ S := rfl
theorem e_sCt : sCt σ S = .ct σ S := rfl
theorem e_sSeq {f g : SemS} : sSeq f g σ S = (f σ S).seq g := rfl
def kRet (r : RV) : SemS := fun σ S => .ret r σ S
theorem e_kRet {r : RV} : kRet r σ S = .ret r σ S := rfl
theorem e_sRet {f : SemO RV} : sRet f σ S = (f σ S).toS kRet := rfl
theorem e_sRetN : sRetN σ S = .ret (.d .non) σ S := rfl
def kSet (i : Nat) (r : RV) : SemS := fun σ S => .nx (σ.set i (some (slOf r))) S
theorem e_kSet {i : Nat} {r : RV} : kSet i r σ S = .nx (σ.set i (some (slOf r))) S := rfl
theorem e_sSet {i : Nat} {f : SemO RV} : sSet i f σ S = (f σ S).toS (kSet i) := rfl
theorem e_slD {d : D} : slOf (.d d) = .val d := rfl
theorem e_slF {o : Ob} : slOf (.f o) = .own o := rfl
theorem e_slI {i : Int} : slOf (dInt i) = .val (.int i) := rfl
theorem e_slB {b : Bool} : slOf (dBl b) = .val (.bl b) := rfl
theorem e_thI {i : Int} : thaw (dInt i) = some (.int i) := rfl
theorem e_thB {b : Bool} : thaw (dBl b) = some (.bl b) := rfl
def setLR (i : Nat) (σ : Fr) (S : Sto) : RV → SOut
  | .f ob => .nx (σ.set i (some (.val (.ref S.length)))) (S ++ [ob])
  | .d _ => .no
def kSetL (i : Nat) (r : RV) : SemS := fun σ S => setLR i σ S r
theorem e_kSetL {i : Nat} {r : RV} : kSetL i r σ S = setLR i σ S r := rfl
theorem e_sSetL {i : Nat} {f : SemO RV} : sSetL i f σ S = (f σ S).toS (kSetL i) := by
  rfl
theorem e_setLR {i : Nat} {ob : Ob} : setLR i σ S (.f ob) = .nx (σ.set i (some (.val (.ref S.length)))) (S ++ [ob]) := rfl
def kDrop (_ : RV) : SemS := fun σ S => .nx σ S
theorem e_kDrop {r : RV} : kDrop r σ S = .nx σ S := rfl
theorem e_sDrop {f : SemO RV} : sDrop f σ S = (f σ S).toS kDrop := rfl
def kIfS (f g : SemS) (b : Bool) : SemS := fun σ S => if b then f σ S else g σ S
theorem e_kIfS {f g : SemS} {b : Bool} : kIfS f g b σ S = if b then f σ S else g σ S := rfl
theorem e_sIfS {t : SemO Bool} {f g : SemS} : sIfS t f g σ S = (t σ S).toS (kIfS f g) := rfl
def asgR (S : Sto) : Option Fr → SOut
  | some σ' => .nx σ' S
  | none => .no
def kAsg (g : D → Fr → Option Fr) (d : D) : SemS := fun σ S => asgR S (g d σ)
theorem e_kAsg {g : D → Fr → Option Fr} {d : D} : kAsg g d σ S = asgR S (g d σ) := rfl
theorem e_sAsg {g : D → Fr → Option Fr} {f : SemO D} : sAsg g f σ S = (f σ S).toS (kAsg g) := by
  rfl
theorem e_asgR : asgR S (some σ) = .nx σ S := rfl
theorem e_gN {i : Nat} {d : D} : gN i d σ = some (σ.set i (some (.val d))) := rfl
theorem e_gT {n : Nat} {gs : List D → Fr → Option Fr} {ds : List D} (h : ds.length = n) : gT n gs (.tup ds) σ = gs ds σ := if_pos h
theorem e_gC {g : D → Fr → Option Fr} {gs : List D → Fr → Option Fr} {d : D} {ds : List D} : gsCons g gs (d :: ds) σ = (g d σ).bind (gs ds) := by
  unfold gsCons; cases h : g d σ <;> simp only [h] <;> rfl
theorem e_g0 : gsNil [] σ = some σ := rfl
theorem e_sFor {h : SemO (List D)} {g : D → Fr → Option Fr} {b : SemS} : sFor h g b σ S = (h σ S).toS (forF g b) := rfl
def kItS (d : D) : SemO (List D) := fun σ S => liftO (seqOf d) σ S
theorem e_kItS {d : D} : kItS d σ S = liftO (seqOf d) σ S := rfl
theorem e_sItS {f : SemO D} : sItS f σ S = (f σ S).bind kItS := rfl
theorem e_seqL {ds : List D} : seqOf (.lst ds) = some ds := rfl
theorem e_seqT {ds : List D} : seqOf (.tup ds) = some ds := rfl
def it1 : List D → Option (List D)
  | [.int j] => if rng62 j then some (rngD 0 j.toNat) else none
  | _ => none
def kIt1 (ds : List D) : SemO (List D) := fun σ S => liftO (it1 ds) σ S
theorem e_kIt1 {ds : List D} : kIt1 ds σ S = liftO (it1 ds) σ S := rfl
theorem e_sIt1 {f : SemO (List D)} : sIt1 f σ S = (f σ S).bind kIt1 := rfl
theorem e_it1 {j : Int} (h : rng62 j = true) : it1 [.int j] = some (rngD 0 j.toNat) := by simp only [it1, h, if_true]
def it2 : List D → Option (List D)
  | [.int i, .int j] => if rng62 i && rng62 j then some (rngD i (j - i).toNat) else none
  | _ => none
def kIt2 (ds : List D) : SemO (List D) := fun σ S => liftO (it2 ds) σ S
theorem e_kIt2 {ds : List D} : kIt2 ds σ S = liftO (it2 ds) σ S := rfl
theorem e_sIt2 {f : SemO (List D)} : sIt2 f σ S = (f σ S).bind kIt2 := rfl
theorem e_it2 {i j : Int} (h : rng62 i = true) (h' : rng62 j = true) : it2 [.int i, .int j] = some (rngD i (j - i).toNat) := by simp only [it2, h, h', Bool.and_self, if_true]
theorem e_for0 {g : D → Fr → Option Fr} {b : SemS} : forF g b [] σ S = .nx σ S := rfl
/-- a turn's end -/
def turn (k : SemS) : SOut → SOut
  | .nx σ S => k σ S
  | .ct σ S => k σ S
  | .brk σ S => .nx σ S
  | o => o
theorem e_turnN {k : SemS} : turn k (.nx σ S) = k σ S := rfl
theorem e_turnC {k : SemS} : turn k (.ct σ S) = k σ S := rfl
theorem e_turnB {k : SemS} : turn k (.brk σ S) = .nx σ S := rfl
theorem e_turnR {k : SemS} {r : RV} : turn k (.ret r σ S) = .ret r σ S := rfl
theorem e_turnX {k : SemS} {x : Ex} : turn k (.exc x σ S) = .exc x σ S := rfl
theorem e_turnI {c : Prop} [Decidable c] {x y : SOut} {k : SemS} : turn k (if c then x else y) = if c then turn k x else turn k y := by split <;> rfl
theorem for1 {g : D → Fr → Option Fr} {b : SemS} {d : D} {ds : List D} (h : g d σ = some σ') : forF g b (d :: ds) σ S = turn (forF g b ds) (b σ' S) := by
  simp only [forF, h]
  cases b σ' S <;> rfl
def kWh (t : SemO Bool) (b : SemS) (n : Nat) (v : Bool) : SemS := fun σ S => if v then turn (whileF t b n) (b σ S) else .nx σ S
theorem e_kWh {t : SemO Bool} {b : SemS} {n : Nat} {v : Bool} : kWh t b n v σ S = if v then turn (whileF t b n) (b σ S) else .nx σ S := rfl
theorem while1 {t : SemO Bool} {b : SemS} {n : Nat} : whileF t b (n + 1) σ S = (t σ S).toS (kWh t b n) := by
  have e : (fun (v : Bool) (σ : Fr) (S : Sto) => if v then (match b σ S with
      | .nx σ S => whileF t b n σ S
      | .ct σ S => whileF t b n σ S
      | .brk σ S => .nx σ S
      | o => o) else .nx σ S) = fun (v : Bool) (σ : Fr) (S : Sto) => if v then turn (whileF t b n) (b σ S) else .nx σ S := by
    funext v σ S
    cases v
    · rfl
    · simp only [if_true]
      cases b σ S <;> rfl
  exact congrArg (Out.toS (t σ S)) e
/-! comprehensions -/
def kLcE (ys : List D) : SemO RV := fun σ S => if okLen ys then .ok (.f (.lst ys)) σ S else .no
theorem e_kLcE {ys : List D} : kLcE ys σ S = if okLen ys then .ok (.f (.lst ys)) σ S else .no := rfl
def kLc (g : D → Fr → Option Fr) (t : SemO Bool) (e : SemO D) (is : List Nat) (ds : List D) : SemO RV := fun σ S => (lcF g t e is ds (clear σ is) S).bindN kLcE
theorem e_kLc {g : D → Fr → Option Fr} {t : SemO Bool} {e : SemO D} {is : List Nat} {ds : List D} : kLc g t e is ds σ S = (lcF g t e is ds (clear σ is) S).bindN kLcE := rfl
theorem e_sLc {h : SemO (List D)} {g : D → Fr → Option Fr} {t : SemO Bool} {e : SemO D} {is : List Nat} : sLc h g t e is σ S = (h σ S).bind (kLc g t e is) := rfl
theorem e_clear0 : clear σ [] = σ := rfl
theorem e_clear1 {i : Nat} {is : List Nat} : clear σ (i :: is) = (clear σ is).set i none := rfl
theorem lc0 {g : D → Fr → Option Fr} {t : SemO Bool} {e : SemO D} {is : List Nat} : lcF g t e is [] σ S = .ok [] σ S := rfl
theorem lc1 {g : D → Fr → Option Fr} {t : SemO Bool} {e : SemO D} {is : List Nat} {d : D} {ds : List D} (h : g d σ = some σ') : lcF g t e is (d :: ds) σ S = (t σ' S).bindN fun b σ S => if b then (e σ S).bindN fun y σ S => (lcF g t e is ds (clear σ is) S).bindN fun ys σ S => .ok (y :: ys) σ S
    else lcF g t e is ds (clear σ is) S := by simp only [lcF, h]
theorem e_tTrue : tTrue σ S = .ok true σ S := rfl
/-! stores -/
def asgW : Option (Unit × Fr × Sto) → SOut
  | some (_, σ', S') => .nx σ' S'
  | none => .no
def kIx4 (d : D) (x : Opd) (k : Int) : SemS := fun σ S => asgW (wrOb (setLK k d) σ S x)
theorem e_kIx4 {d : D} {x : Opd} {k : Int} : kIx4 d x k σ S = asgW (wrOb (setLK k d) σ S x) := rfl
def kIx3 (d : D) (x y : Opd) : SemS := fun σ S => (liftO ((view σ S y).bind intOf) σ S).toS (kIx4 d x)
theorem e_kIx3 {d : D} {x y : Opd} : kIx3 d x y σ S = (liftO ((view σ S y).bind intOf) σ S).toS (kIx4 d x) := rfl
def kIx2 (i : SemO Opd) (d : D) (x : Opd) : SemS := fun σ S => (i σ S).toS (kIx3 d x)
theorem e_kIx2 {i : SemO Opd} {d : D} {x : Opd} : kIx2 i d x σ S = (i σ S).toS (kIx3 d x) := rfl
def kIx1 (o i : SemO Opd) (d : D) : SemS := fun σ S => (o σ S).toS (kIx2 i d)
theorem e_kIx1 {o i : SemO Opd} {d : D} : kIx1 o i d σ S = (o σ S).toS (kIx2 i d) := rfl
theorem e_sSetIx {o i : SemO Opd} {e : SemO D} : sSetIx o i e σ S = (e σ S).toS (kIx1 o i) := by
  unfold sSetIx; congr 1; funext d σ S; unfold kIx1; congr 1; funext x σ S; unfold kIx2; congr 1; funext y σ S; unfold kIx3
  cases view σ S y with
  | none => rfl
  | some z => cases z with
    | int k =>
      show _ = asgW (wrOb (setLK k d) σ S x)
      simp only
      cases wrOb (setLK k d) σ S x <;> rfl
    | _ => rfl
theorem e_asgW : asgW (some ((), σ, S)) = .nx σ S := rfl
theorem e_intOf {i : Int} : intOf (.int i) = some i := rfl
def methR : Option (D × Fr × Sto) → Out RV
  | some (r, σ', S') => .ok (.d r) σ' S'
  | none => .no
theorem e_methR {r : D} : methR (some (r, σ, S)) = .ok (.d r) σ S := rfl
def kMe3 (k : D → Ob → Option (Ob × D)) (x : Opd) (d : D) : SemO RV := fun σ S => methR (wrOb (k d) σ S x)
theorem e_kMe3 {k : D → Ob → Option (Ob × D)} {x : Opd} {d : D} : kMe3 k x d σ S = methR (wrOb (k d) σ S x) := rfl
def kMe2 (k : D → Ob → Option (Ob × D)) (e : SemO D) (x : Opd) (_ : List D) : SemO RV := fun σ S => (e σ S).bind (kMe3 k x)
theorem e_kMe2 {k : D → Ob → Option (Ob × D)} {e : SemO D} {x : Opd} {ds : List D} : kMe2 k e x ds σ S = (e σ S).bind (kMe3 k x) := rfl
def kMe1 (k : D → Ob → Option (Ob × D)) (e : SemO D) (x : Opd) : SemO RV := fun σ S => (liftO ((view σ S x).bind lstOf) σ S).bind (kMe2 k e x)
theorem e_kMe1 {k : D → Ob → Option (Ob × D)} {e : SemO D} {x : Opd} : kMe1 k e x σ S = (liftO ((view σ S x).bind lstOf) σ S).bind (kMe2 k e x) := rfl
theorem e_sMeth {k : D → Ob → Option (Ob × D)} {o : SemO Opd} {e : SemO D} : sMeth k o e σ S = (o σ S).bind (kMe1 k e) := by
  unfold sMeth; congr 1; funext x σ S; unfold kMe1
  cases view σ S x with
  | none => rfl
  | some z => cases z with
    | lst k' =>
      show _ = (e σ S).bind _
      rfl
    | _ => rfl
def kMz2 (k : Ob → Option (Ob × D)) (x : Opd) (_ : List D) : SemO RV := fun σ S => methR (wrOb k σ S x)
theorem e_kMz2 {k : Ob → Option (Ob × D)} {x : Opd} {ds : List D} : kMz2 k x ds σ S = methR (wrOb k σ S x) := rfl
def kMz1 (k : Ob → Option (Ob × D)) (x : Opd) : SemO RV := fun σ S => (liftO ((view σ S x).bind lstOf) σ S).bind (kMz2 k x)
theorem e_kMz1 {k : Ob → Option (Ob × D)} {x : Opd} : kMz1 k x σ S = (liftO ((view σ S x).bind lstOf) σ S).bind (kMz2 k x) := rfl
theorem e_sMeth0 {k : Ob → Option (Ob × D)} {o : SemO Opd} : sMeth0 k o σ S = (o σ S).bind (kMz1 k) := by
  unfold sMeth0; congr 1; funext x σ S; unfold kMz1
  cases view σ S x with
  | none => rfl
  | some z => cases z with
    | lst k' =>
      rfl
    | _ => rfl
theorem e_lstOf {ds : List D} : lstOf (.lst ds) = some ds := rfl
def wrSl {α : Type} (k : Ob → Option (Ob × α)) (σ : Fr) (S : Sto) (i : Nat) : Option (Option Sl) → Option (α × Fr × Sto)
  | some (some (.own ob)) => (k ob).bind fun r => some (r.2, σ.set i (some (.own r.1)), S)
  | some (some (.val (.ref n))) => wrAt k σ S n
  | _ => none
theorem e_wrS {α : Type} {k : Ob → Option (Ob × α)} {i : Nat} : wrOb k σ S (.s i) = wrSl k σ S i σ[i]? := by
  unfold wrOb wrSl
  simp only
  cases σ[i]? with
  | none => rfl
  | some x => cases x with
    | none => rfl
    | some x => cases x with
      | val d => cases d <;> rfl
      | own ob =>
        simp only
        cases k ob <;> rfl
theorem e_wrSl {α : Type} {k : Ob → Option (Ob × α)} {i : Nat} {ob : Ob} : wrSl k σ S i (some (some (.own ob))) = (k ob).bind fun r => some (r.2, σ.set i (some (.own r.1)), S) := rfl
theorem e_wrSlR {α : Type} {k : Ob → Option (Ob × α)} {i n : Nat} : wrSl k σ S i (some (some (.val (.ref n)))) = wrAt k σ S n := rfl
theorem e_wrD {α : Type} {k : Ob → Option (Ob × α)} {n : Nat} : wrOb k σ S (.d (.ref n)) = wrAt k σ S n := rfl
def wrA {α : Type} (k : Ob → Option (Ob × α)) (σ : Fr) (S : Sto) (n : Nat) : Option Ob → Option (α × Fr × Sto)
  | some .dead => none
  | some ob => (k ob).bind fun r => some (r.2, σ, S.set n r.1)
  | none => none
theorem e_wrAt {α : Type} {k : Ob → Option (Ob × α)} {n : Nat} : wrAt k σ S n = wrA k σ S n S[n]? := by
  unfold wrAt wrA
  cases S[n]? with
  | none => rfl
  | some ob => cases ob <;> simp only <;> cases k _ <;> rfl
theorem e_wrAL {α : Type} {k : Ob → Option (Ob × α)} {n : Nat} {ds : List D} : wrA k σ S n (some (.lst ds)) = (k (.lst ds)).bind fun r => some (r.2, σ, S.set n r.1) := rfl
theorem e_wrAK {α : Type} {k : Ob → Option (Ob × α)} {n : Nat} {ds : List (Key × D)} : wrA k σ S n (some (.dic ds)) = (k (.dic ds)).bind fun r => some (r.2, σ, S.set n r.1) := rfl
theorem e_wrAI {α : Type} {k : Ob → Option (Ob × α)} {n c : Nat} {ds : List (Str × D)} : wrA k σ S n (some (.ins c ds)) = (k (.ins c ds)).bind fun r => some (r.2, σ, S.set n r.1) := rfl
theorem e_setLK {i : Int} {d : D} {ds : List D} : setLK i d (.lst ds) = (ixN ds.length i).bind fun j => some (.lst (ds.set j d), ()) := by
  unfold setLK; simp only; cases ixN ds.length i <;> rfl
theorem e_appK {d : D} {ds : List D} (h : ds.length < sizeLine) : appK d (.lst ds) = some (.lst (ds ++ [d]), .non) := by
  unfold appK; simp only; rw [show ds.length.blt sizeLine = true from Nat.ble_eq_true_of_le h]; rfl
theorem e_extK {ds es : List D} (h : szOk (ds.length + es.length) = true) : extK (.lst es) (.lst ds) = some (.lst (ds ++ es), .non) := by
  unfold extK; simp only; rw [if_pos h]
/-! primitives -/
theorem e_addI {i j : Int} : addP (.int i) (.int j) = some (dInt (i + j)) := rfl
theorem e_addS {i j : Str} : addP (.str i) (.str j) = fits (szOk (i.length + j.length)) (.d (.str (i ++ j))) := rfl
theorem e_addL {i j : List D} : addP (.lst i) (.lst j) = fits (szOk (i.length + j.length)) (.f (.lst (i ++ j))) := rfl
theorem e_addT {i j : List D} : addP (.tup i) (.tup j) = fits (szOk (i.length + j.length)) (.d (.tup (i ++ j))) := rfl
theorem e_sub {i j : Int} : subP (.int i) (.int j) = some (dInt (i - j)) := rfl
theorem e_mul {i j : Int} : mulIP (.int i) (.int j) = fits (mulOk i j) (dInt (i * j)) := rfl
theorem e_div {i j : Int} : divP (.int i) (.int j) = fits (divOk j) (dInt (i / j)) := rfl
theorem e_mod {i j : Int} : modP (.int i) (.int j) = fits (decide (0 < j)) (dInt (i % j)) := rfl
theorem e_neg {i : Int} : negP (.int i) = some (dInt (-i)) := rfl
theorem e_pow {i j : Int} : powP (.int i) (.int j) = fits (decide (0 ≤ j) && decide (j ≤ 1000000) && decide (i.natAbs < 2 ^ 64)) (dInt (i ^ j.toNat)) := rfl
theorem e_rep {ds : List D} {k : Int} : repP (.lst ds) (.int k) = fits (decide (-(2 ^ 63) ≤ k) && decide (k < 2 ^ 63) && szOk (ds.length * k.toNat)) (.f (.lst (List.replicate k.toNat ds).flatten)) := rfl
theorem e_lt {i j : Int} : ltP (.int i) (.int j) = some (dBl (decide (i < j))) := rfl
theorem e_le {i j : Int} : leP (.int i) (.int j) = some (dBl (decide (i ≤ j))) := rfl
theorem e_gt {i j : Int} : gtP (.int i) (.int j) = some (dBl (decide (j < i))) := rfl
theorem e_ge {i j : Int} : geP (.int i) (.int j) = some (dBl (decide (j ≤ i))) := rfl
theorem e_eq {d e : D} : eqP d e = (eqD d e).bind fun b => some (dBl b) := by unfold eqP; cases eqD d e <;> rfl
theorem e_ne {d e : D} : neP d e = (eqD d e).bind fun b => some (dBl (!b)) := by unfold neP; cases eqD d e <;> rfl
theorem e_eqI {i j : Int} : eqD (.int i) (.int j) = some (decide (i = j)) := by
  simp [eqD, toPy, fits, SeqAt.shaped, PyData.canLay0, PyData.depth, PyData.eqv]
  exact Bool.beq_eq_decide_eq i j
theorem e_inL {d e : D} : inLP d e = (inLD d e).bind fun b => some (dBl b) := by unfold inLP; cases inLD d e <;> rfl
theorem e_ninL {d e : D} : ninLP d e = (inLD d e).bind fun b => some (dBl (!b)) := by unfold ninLP; cases inLD d e <;> rfl
theorem e_ixL {ds : List D} {i : Int} : ixP (.lst ds) (.int i) = (atI ds i).bind fun d => some (.d d) := by show (atI ds i).map _ = _; cases atI ds i <;> rfl
theorem e_ixT {ds : List D} {i : Int} : ixP (.tup ds) (.int i) = (atI ds i).bind fun d => some (.d d) := by show (atI ds i).map _ = _; cases atI ds i <;> rfl
theorem e_at0 {α : Type} {x : α} {l : List α} : atI (x :: l) (0 : Int) = some x := by
  have h : atI (x :: l) ((0 : Nat) : Int) = some x := atI_nat rfl
  exact h
theorem e_at1 {α : Type} {x y : α} {l : List α} : atI (x :: y :: l) (1 : Int) = some y := by
  have h : atI (x :: y :: l) ((1 : Nat) : Int) = some y := atI_nat rfl
  exact h
theorem e_at2 {α : Type} {x y z : α} {l : List α} : atI (x :: y :: z :: l) (2 : Int) = some z := by
  have h : atI (x :: y :: z :: l) ((2 : Nat) : Int) = some z := atI_nat rfl
  exact h
theorem e_at3 {α : Type} {x y z u : α} {l : List α} : atI (x :: y :: z :: u :: l) (3 : Int) = some u := by
  have h : atI (x :: y :: z :: u :: l) ((3 : Nat) : Int) = some u := atI_nat rfl
  exact h
theorem e_ix0 {n : Nat} : ixN (n + 1) (0 : Int) = some 0 := by simp [ixN]
theorem e_ix1 {n : Nat} : ixN (n + 1 + 1) (1 : Int) = some 1 := by simp [ixN]; omega
theorem e_ix2 {n : Nat} : ixN (n + 1 + 1 + 1) (2 : Int) = some 2 := by simp [ixN]; omega
theorem e_ix3 {n : Nat} : ixN (n + 1 + 1 + 1 + 1) (3 : Int) = some 3 := by simp [ixN]; omega
theorem e_lenL {ds : List D} : lenP [.lst ds] = some (dInt ds.length) := rfl
theorem e_lenT {ds : List D} : lenP [.tup ds] = some (dInt ds.length) := rfl
theorem e_abs {i : Int} : absP [.int i] = some (dInt (if i < 0 then -i else i)) := rfl
theorem e_intI {i : Int} : intP [.int i] = some (dInt i) := rfl
theorem e_intB {i : Bool} : intP [.bl i] = some (dInt (if i then 1 else 0)) := rfl
theorem e_gcd {i j : Int} : gcdP [.int i, .int j] = some (dInt ((Nat.gcd i.natAbs j.natAbs : Nat) : Int)) := rfl
theorem e_lstL {ds : List D} : lstP [.lst ds] = some (.f (.lst ds)) := rfl
theorem e_lstT {ds : List D} : lstP [.tup ds] = some (.f (.lst ds)) := rfl
theorem e_lstC {ds : List D} : lstP [.scr ds] = some (.f (.lst ds)) := rfl
theorem e_tupL {ds : List D} : tupP [.lst ds] = some (.d (.tup ds)) := rfl
theorem e_tupT {ds : List D} : tupP [.tup ds] = some (.d (.tup ds)) := rfl
theorem intsOf_map (ns : List Int) : intsOf (ns.map D.int) = some ns := by
  induction ns with
  | nil => rfl
  | cons n ns ih => rw [List.map_cons, intsOf, ih]
theorem e_sum {ns : List Int} : sumP [.lst (ns.map D.int)] = some (dInt ns.sum) := by
  show (intsOf (ns.map D.int)).map _ = _
  rw [intsOf_map]; rfl
theorem blsOf_map (ns : List Bool) : blsOf (ns.map D.bl) = some ns := by
  induction ns with
  | nil => rfl
  | cons n ns ih => rw [List.map_cons, blsOf, ih]
theorem e_all {ns : List Bool} : allP [.lst (ns.map D.bl)] = some (dBl (ns.all id)) := by
  show (blsOf (ns.map D.bl)).map _ = _
  rw [blsOf_map]; rfl
theorem e_any {ns : List Bool} : anyP [.lst (ns.map D.bl)] = some (dBl (ns.any id)) := by
  show (blsOf (ns.map D.bl)).map _ = _
  rw [blsOf_map]; rfl
end
/-! a def's body, run -/
def bodyOut : SOut → COut
  | .nx _ S' => .ok (.d .non) S'
  | .ret r _ S' => .ok r S'
  | .exc x _ S' => .exc x S'
  | _ => .no
theorem runB_eq {n p : Nat} {f : SemS} {ds : List D} {S : Sto} (h : ds.length = p) : runB n p f ds S = bodyOut (f (ds.map (fun d => some (.val d)) ++ List.replicate (n - p) none) S) := by
  unfold runB
  rw [if_pos h]
  cases f (ds.map (fun d => some (.val d)) ++ List.replicate (n - p) none) S <;> rfl
theorem e_boN {σ : Fr} {S : Sto} : bodyOut (.nx σ S) = .ok (.d .non) S := rfl
theorem e_boR {σ : Fr} {S : Sto} {r : RV} : bodyOut (.ret r σ S) = .ok r S := rfl
theorem e_boX {σ : Fr} {S : Sto} {x : Ex} : bodyOut (.exc x σ S) = .exc x S := rfl
theorem e_boI {c : Prop} [Decidable c] {x y : SOut} : bodyOut (if c then x else y) = if c then bodyOut x else bodyOut y := by split <;> rfl
end Fw

/-! plain data: equality, depth -/
namespace Fw
open PySem PySem.Spec PyProof.Rows L2
mutual
def okD : Nat → D → Bool
  | _, .non => true
  | _, .bl _ => true
  | _, .int _ => true
  | _, .str x => PySem.PyData.strOk x
  | k + 1, .tup ds => okDs k ds
  | k + 1, .lst ds => okDs k ds
  | _, _ => false
def okDs : Nat → List D → Bool
  | _, [] => true
  | k, d :: ds => okD k d && okDs k ds
end
mutual
def eqB : D → D → Bool
  | .non, .non => true
  | .bl a, .bl b => a == b
  | .bl a, .int j => (if a then 1 else 0) == j
  | .int i, .bl b => i == (if b then 1 else 0)
  | .int i, .int j => i == j
  | .str x, .str y => x == y
  | .lst xs, .lst ys => eqBs xs ys
  | .tup xs, .tup ys => eqBs xs ys
  | _, _ => false
def eqBs : List D → List D → Bool
  | [], [] => true
  | x :: xs, y :: ys => eqB x y && eqBs xs ys
  | _, _ => false
end
mutual
theorem okD_py : ∀ (k : Nat) (d : D), okD k d = true → ∃ p, toPy d = some p ∧ p.canLay0 = true ∧ p.depth ≤ k
  | _, .non, _ => ⟨_, by rw [toPy], rfl, by simp [PyData.depth]⟩
  | _, .bl _, _ => ⟨_, by rw [toPy], rfl, by simp [PyData.depth]⟩
  | _, .int _, _ => ⟨_, by rw [toPy], rfl, by simp [PyData.depth]⟩
  | _, .str x, h => ⟨_, by rw [toPy], by rw [okD] at h; rw [PyData.canLay0]; exact h, by simp [PyData.depth]⟩
  | k + 1, .tup ds, h => by
    obtain ⟨ps, e, h1, h2⟩ := okDs_py k ds (by rw [okD] at h; exact h)
    exact ⟨.tuple ps, by rw [toPy, e], by rw [PyData.canLay0]; exact h1, by rw [PyData.depth]; omega⟩
  | k + 1, .lst ds, h => by
    obtain ⟨ps, e, h1, h2⟩ := okDs_py k ds (by rw [okD] at h; exact h)
    exact ⟨.list ps, by rw [toPy, e], by rw [PyData.canLay0]; exact h1, by rw [PyData.depth]; omega⟩
  | 0, .tup ds, h => by simp [okD] at h
  | 0, .lst ds, h => by simp [okD] at h
  | _, .dic _, h => by simp [okD] at h
  | _, .ref _, h => by simp [okD] at h
  | _, .scr _, h => by simp [okD] at h
theorem okDs_py : ∀ (k : Nat) (ds : List D), okDs k ds = true → ∃ ps, toPys ds = some ps ∧ PyData.canLayAll0 ps = true ∧ PyData.depthAll ps ≤ k
  | _, [], _ => ⟨[], by rw [toPys], rfl, by simp [PyData.depthAll]⟩
  | k, d :: ds, h => by
    rw [okDs, Bool.and_eq_true] at h
    obtain ⟨p, e1, h1, h2⟩ := okD_py k d h.1
    obtain ⟨ps, e2, h3, h4⟩ := okDs_py k ds h.2
    exact ⟨p :: ps, by rw [toPys, e1, e2], by rw [PyData.canLayAll0, h1, h3]; rfl, by rw [PyData.depthAll]; omega⟩
end
mutual
theorem eqB_py : ∀ (d e : D) (p q : PyData), toPy d = some p → toPy e = some q → PyData.eqv p q = eqB d e
  | .non, e, p, q, h1, h2 => by
    rw [toPy] at h1; cases h1
    cases e <;> simp only [toPy] at h2 <;> first | cases h2 | skip
    all_goals first
      | (simp [PyData.eqv, eqB]; done)
      | (split at h2 <;> first | (cases h2; simp [PyData.eqv, eqB]; done) | cases h2)
  | .bl b, e, p, q, h1, h2 => by
    rw [toPy] at h1; cases h1
    cases e <;> simp only [toPy] at h2 <;> first | cases h2 | skip
    all_goals first
      | (simp [PyData.eqv, eqB]; done)
      | (split at h2 <;> first | (cases h2; simp [PyData.eqv, eqB]; done) | cases h2)
  | .int b, e, p, q, h1, h2 => by
    rw [toPy] at h1; cases h1
    cases e <;> simp only [toPy] at h2 <;> first | cases h2 | skip
    all_goals first
      | (simp [PyData.eqv, eqB]; done)
      | (split at h2 <;> first | (cases h2; simp [PyData.eqv, eqB]; done) | cases h2)
  | .str b, e, p, q, h1, h2 => by
    rw [toPy] at h1; cases h1
    cases e <;> simp only [toPy] at h2 <;> first | cases h2 | skip
    all_goals first
      | (simp [PyData.eqv, eqB]; done)
      | (split at h2 <;> first | (cases h2; simp [PyData.eqv, eqB]; done) | cases h2)
  | .tup ds, e, p, q, h1, h2 => by
    rw [toPy] at h1
    split at h1
    · rename_i ps hp
      cases h1
      cases e <;> simp only [toPy] at h2 <;> first | cases h2 | skip
      all_goals first
        | (simp [PyData.eqv, eqB]; done)
        | (split at h2
           · rename_i qs hq
             cases h2
             first
               | (simp [PyData.eqv, eqB]; done)
               | (rw [PyData.eqv, eqB]; exact eqBs_py ds _ _ _ hp hq)
           · cases h2)
    · cases h1
  | .lst ds, e, p, q, h1, h2 => by
    rw [toPy] at h1
    split at h1
    · rename_i ps hp
      cases h1
      cases e <;> simp only [toPy] at h2 <;> first | cases h2 | skip
      all_goals first
        | (simp [PyData.eqv, eqB]; done)
        | (split at h2
           · rename_i qs hq
             cases h2
             first
               | (simp [PyData.eqv, eqB]; done)
               | (rw [PyData.eqv, eqB]; exact eqBs_py ds _ _ _ hp hq)
           · cases h2)
    · cases h1
  | .dic _, _, _, _, h1, _ => by simp [toPy] at h1
  | .ref _, _, _, _, h1, _ => by simp [toPy] at h1
  | .scr _, _, _, _, h1, _ => by simp [toPy] at h1
theorem eqBs_py : ∀ (ds es : List D) (ps qs : List PyData), toPys ds = some ps → toPys es = some qs → PyData.eqvAll ps qs = eqBs ds es
  | [], es, ps, qs, h1, h2 => by
    rw [toPys] at h1; cases h1
    cases es with
    | nil => rw [toPys] at h2; cases h2; rfl
    | cons e es =>
      rw [toPys] at h2
      split at h2
      · cases h2; simp [PyData.eqvAll, eqBs]
      · cases h2
  | d :: ds, es, ps, qs, h1, h2 => by
    rw [toPys] at h1
    split at h1
    · rename_i p ps' e1 e2
      cases h1
      cases es with
      | nil => rw [toPys] at h2; cases h2; simp [PyData.eqvAll, eqBs]
      | cons e es =>
        rw [toPys] at h2
        split at h2
        · rename_i q qs' e3 e4
          cases h2
          rw [PyData.eqvAll, eqBs, eqB_py d e _ _ e1 e3, eqBs_py ds es _ _ e2 e4]
        · cases h2
    · cases h1
end
theorem okD_shaped {d : D} (h : okD 64 d = true) : ∃ p, toPy d = some p ∧ SeqAt.shaped p = true := by
  obtain ⟨p, e, h1, h2⟩ := okD_py 64 d h
  exact ⟨p, e, by unfold SeqAt.shaped; rw [h1, decide_eq_true h2]; rfl⟩
/-- == of plain data -/
theorem eqD_ok {d e : D} (h : okD 64 d = true) (h' : okD 64 e = true) : eqD d e = some (eqB d e) := by
  obtain ⟨p, e1, s1⟩ := okD_shaped h
  obtain ⟨q, e2, s2⟩ := okD_shaped h'
  unfold eqD
  rw [e1, e2]
  simp only
  rw [e_fits (by rw [s1, s2]; rfl), eqB_py d e p q e1 e2]
theorem any_py {d : D} {p : PyData} (e1 : toPy d = some p) : ∀ (ds : List D) (qs : List PyData), toPys ds = some qs → (qs.any fun z => PyData.eqv z p) = ds.any fun z => eqB z d
  | [], _, h => by rw [toPys] at h; cases h; rfl
  | z :: ds, qs, h => by
    rw [toPys] at h
    split at h
    · rename_i q qs' e2 e3
      cases h
      rw [List.any_cons, List.any_cons, eqB_py z d q p e2 e1, any_py e1 ds qs' e3]
    · cases h
/-- x in a list of plain data -/
theorem inLD_ok {d : D} {ds : List D} (h : okD 64 d = true) (h' : okD 64 (.lst ds) = true) : inLD d (.lst ds) = some (ds.any fun z => eqB z d) := by
  obtain ⟨p, e1, s1⟩ := okD_shaped h
  obtain ⟨q, e2, s2⟩ := okD_shaped h'
  rw [toPy] at e2
  split at e2
  · rename_i qs e3
    cases e2
    unfold inLD
    simp only
    rw [e1, e3]
    simp only
    rw [e_fits (by rw [s1, s2]; rfl), any_py e1 ds qs e3]
  · cases e2
mutual
theorem okD_mono : ∀ (k : Nat) (d : D), okD k d = true → okD (k + 1) d = true
  | k, .non, _ => by rw [okD]
  | k, .bl _, _ => by rw [okD]
  | k, .int _, _ => by rw [okD]
  | k, .str x, h => by rw [okD] at h ⊢; exact h
  | k + 1, .tup ds, h => by rw [okD] at h ⊢; exact okDs_mono k ds h
  | k + 1, .lst ds, h => by rw [okD] at h ⊢; exact okDs_mono k ds h
  | 0, .tup ds, h => by simp [okD] at h
  | 0, .lst ds, h => by simp [okD] at h
  | _, .dic _, h => by simp [okD] at h
  | _, .ref _, h => by simp [okD] at h
  | _, .scr _, h => by simp [okD] at h
theorem okDs_mono : ∀ (k : Nat) (ds : List D), okDs k ds = true → okDs (k + 1) ds = true
  | _, [], _ => by rw [okDs]
  | k, d :: ds, h => by
    rw [okDs, Bool.and_eq_true] at h ⊢
    exact ⟨okD_mono k d h.1, okDs_mono k ds h.2⟩
end
theorem okDs_all {k : Nat} {ds : List D} (h : ∀ d ∈ ds, okD k d = true) : okDs k ds = true := by
  induction ds with
  | nil => rw [okDs]
  | cons d ds ih => rw [okDs, h d List.mem_cons_self, ih fun e he => h e (List.mem_cons_of_mem _ he)]; rfl
theorem okD_le {k j : Nat} {d : D} (h : okD k d = true) (hj : k ≤ j) : okD j d = true := by
  induction hj with
  | refl => exact h
  | step _ ih => exact okD_mono _ _ ih
theorem ok_tup {k : Nat} {ds : List D} (h : ∀ d ∈ ds, okD k d = true) : okD (k + 1) (.tup ds) = true := by rw [okD]; exact okDs_all h
theorem ok_lst {k : Nat} {ds : List D} (h : ∀ d ∈ ds, okD k d = true) : okD (k + 1) (.lst ds) = true := by rw [okD]; exact okDs_all h
theorem ok_int {k : Nat} {i : Int} : okD k (.int i) = true := by cases k <;> rw [okD]
theorem ok_bl {k : Nat} {i : Bool} : okD k (.bl i) = true := by cases k <;> rw [okD]
theorem ok_str {k : Nat} {x : Str} (h : PySem.PyData.strOk x = true) : okD k (.str x) = true := by cases k <;> rw [okD] <;> exact h
theorem ok_ints {k : Nat} (ns : List Int) : okD (k + 1) (.tup (ns.map D.int)) = true := ok_tup fun d hd => by
  obtain ⟨i, _, rfl⟩ := List.mem_map.mp hd
  exact ok_int
theorem eqBs_len : ∀ (xs ys : List D), eqBs xs ys = true → xs.length = ys.length
  | [], [], _ => rfl
  | [], _ :: _, h => by simp [eqBs] at h
  | _ :: _, [], h => by simp [eqBs] at h
  | x :: xs, y :: ys, h => by
    rw [eqBs, Bool.and_eq_true] at h
    rw [List.length_cons, List.length_cons, eqBs_len xs ys h.2]
/-- an encoding whose == is equality -/
theorem eqBs_map {α : Type} [DecidableEq α] {f : α → D} (hf : ∀ a b, eqB (f a) (f b) = decide (a = b)) : ∀ xs ys : List α, eqBs (xs.map f) (ys.map f) = decide (xs = ys)
  | [], [] => by simp [eqBs]
  | [], _ :: _ => by simp [eqBs]
  | _ :: _, [] => by simp [eqBs]
  | x :: xs, y :: ys => by
    rw [List.map_cons, List.map_cons, eqBs, hf, eqBs_map hf xs ys]
    by_cases h1 : x = y <;> by_cases h2 : xs = ys <;> simp [h1, h2]
theorem eqB_int (a b : Int) : eqB (.int a) (.int b) = decide (a = b) := by rw [eqB]; exact Bool.beq_eq_decide_eq a b
theorem eqB_ints (a b : List Int) : eqB (.tup (a.map D.int)) (.tup (b.map D.int)) = decide (a = b) := by rw [eqB]; exact eqBs_map eqB_int a b
end Fw

/-! loops, by an invariant; comprehensions; sorted -/
namespace Fw
open PySem PySem.Spec PyProof.Rows L2
theorem for_inv {g : D → Fr → Option Fr} {b : SemS} (I : List D → Fr → Sto → Prop)
    (h : ∀ d ds σ S, I (d :: ds) σ S → ∃ σ1 σ2 S', g d σ = some σ1 ∧ b σ1 S = .nx σ2 S' ∧ I ds σ2 S') :
    ∀ ds σ S, I ds σ S → ∃ σ' S', forF g b ds σ S = .nx σ' S' ∧ I [] σ' S' := by
  intro ds
  induction ds with
  | nil => intro σ S i; exact ⟨σ, S, rfl, i⟩
  | cons d ds ih =>
    intro σ S i
    obtain ⟨σ1, σ2, S', e1, e2, i2⟩ := h d ds σ S i
    obtain ⟨σ3, S3, e3, i3⟩ := ih σ2 S' i2
    exact ⟨σ3, S3, by rw [for1 e1, e2, e_turnN, e3], i3⟩
/-- comprehension with a store that changes -/
theorem lc_inv {α : Type} {i : Nat} {e : SemO D} {σ : Fr} (enc : α → D) (P : D → α → Prop) (I : Sto → Prop) (hs : σ.set i none = σ) :
    ∀ ds, (∀ d ∈ ds, ∀ S, I S → ∃ z S', e (σ.set i (some (.val d))) S = .ok (enc z) (σ.set i (some (.val d))) S' ∧ I S' ∧ P d z) →
    ∀ S, I S → ∃ (zs : List α) (S' : Sto), lcF (gN i) tTrue e [i] ds σ S = .ok (zs.map enc) σ S' ∧ I S' ∧ zs.length = ds.length ∧ ∀ z ∈ zs, ∃ d ∈ ds, P d z := by
  intro ds
  induction ds with
  | nil => intro _ S i; exact ⟨[], S, rfl, i, rfl, fun z hz => absurd hz (by simp)⟩
  | cons d ds ih =>
    intro h S iS
    obtain ⟨z, S1, e1, i1, p1⟩ := h d List.mem_cons_self S iS
    obtain ⟨zs, S2, e2, i2, l2, p2⟩ := ih (fun d hd => h d (List.mem_cons_of_mem _ hd)) S1 i1
    refine ⟨z :: zs, S2, ?_, i2, by rw [List.length_cons, List.length_cons, l2], ?_⟩
    · rw [lc1 e_gN, e_tTrue, e_bindN]
      simp only [if_true]
      rw [e1, e_bindN, e_clear1, e_clear0, List.set_set, hs, e2, e_bindN]; rfl
    · intro y hy
      rcases List.mem_cons.mp hy with rfl | hy
      · exact ⟨d, List.mem_cons_self, p1⟩
      · obtain ⟨d', hd, p⟩ := p2 y hy
        exact ⟨d', List.mem_cons_of_mem _ hd, p⟩
/-- comprehension, no store at play -/
theorem lc_map {α : Type} {i : Nat} {e : SemO D} {σ : Fr} {S : Sto} {k : α → D} {f : α → D} (hs : σ.set i none = σ) :
    ∀ as : List α, (∀ a ∈ as, e (σ.set i (some (.val (k a)))) S = .ok (f a) (σ.set i (some (.val (k a)))) S) →
    lcF (gN i) tTrue e [i] (as.map k) σ S = .ok (as.map f) σ S := by
  intro as
  induction as with
  | nil => intro _; rfl
  | cons a as ih =>
    intro h
    rw [List.map_cons, List.map_cons, lc1 e_gN, e_tTrue, e_bindN]
    simp only [if_true]
    rw [h a List.mem_cons_self, e_bindN, e_clear1, e_clear0, List.set_set, hs, ih fun d hd => h d (List.mem_cons_of_mem _ hd), e_bindN]
/-- comprehension with a test, no store at play -/
theorem lc_filter {α : Type} {i : Nat} {t : SemO Bool} {e : SemO D} {σ : Fr} {S : Sto} {k : α → D} {p : α → Bool} {f : α → D} (hs : σ.set i none = σ) :
    ∀ as : List α, (∀ a ∈ as, t (σ.set i (some (.val (k a)))) S = .ok (p a) (σ.set i (some (.val (k a)))) S) →
    (∀ a ∈ as, p a = true → e (σ.set i (some (.val (k a)))) S = .ok (f a) (σ.set i (some (.val (k a)))) S) →
    lcF (gN i) t e [i] (as.map k) σ S = .ok ((as.filter p).map f) σ S := by
  intro as
  induction as with
  | nil => intro _ _; rfl
  | cons a as ih =>
    intro ht h
    rw [List.map_cons, lc1 e_gN, ht a List.mem_cons_self, e_bindN]
    have ih' := ih (fun d hd => ht d (List.mem_cons_of_mem _ hd)) (fun d hd => h d (List.mem_cons_of_mem _ hd))
    cases hp : p a
    · simp only [Bool.false_eq_true, if_false]
      rw [e_clear1, e_clear0, List.set_set, hs, ih', List.filter_cons_of_neg (by simp [hp])]
    · simp only [if_true]
      rw [h a List.mem_cons_self hp, e_bindN, e_clear1, e_clear0, List.set_set, hs, ih', e_bindN, List.filter_cons_of_pos hp, List.map_cons]
/-- sorted -/
theorem toPys_map {α : Type} {enc : α → D} {py : α → PyData} (h : ∀ a, toPy (enc a) = some (py a)) : ∀ as : List α, toPys (as.map enc) = some (as.map py)
  | [] => by rw [List.map_nil, toPys]; rfl
  | a :: as => by rw [List.map_cons, toPys, h, toPys_map h as]; rfl
theorem sort_ok {α : Type} {enc : α → D} {py : α → PyData} (h : ∀ a, toPy (enc a) = some (py a)) (ha : ∀ a b, PySem.W.alike (py a) (py b) = true)
    (ht : (∀ a, isTup1 (py a) = true) ∨ (∀ a, notTup (py a) = true)) (hd : ∀ a, (py a).depth ≤ 64) (as : List α) :
    sortP [.lst (as.map enc)] = some (.f (.lst ((as.mergeSort (PySem.W.dataLe false py)).map enc))) := by
  show (sortD (as.map enc)).map _ = _
  unfold sortD
  rw [toPys_map h]
  simp only
  have a1 : alikeB (as.map py) = true := by
    unfold alikeB
    refine List.all_eq_true.mpr fun p hp => List.all_eq_true.mpr fun q hq => ?_
    obtain ⟨a, _, rfl⟩ := List.mem_map.mp hp
    obtain ⟨b, _, rfl⟩ := List.mem_map.mp hq
    exact ha a b
  have a2 : sortableB (as.map py) = true := by
    unfold sortableB
    rw [Bool.or_eq_true]
    rcases ht with ht | ht
    · refine .inl (List.all_eq_true.mpr fun p hp => ?_)
      obtain ⟨a, _, rfl⟩ := List.mem_map.mp hp
      exact ht a
    · refine .inr (List.all_eq_true.mpr fun p hp => ?_)
      obtain ⟨a, _, rfl⟩ := List.mem_map.mp hp
      exact ht a
  have a3 : (as.map py).all (fun p => decide (p.depth ≤ 64)) = true := by
    refine List.all_eq_true.mpr fun p hp => ?_
    obtain ⟨a, _, rfl⟩ := List.mem_map.mp hp
    exact decide_eq_true (hd a)
  rw [e_fits (by rw [a1, a2, a3]; rfl), List.zip_map', Option.map_some]
  congr 3
  have e := List.map_mergeSort (f := fun a => (py a, enc a)) (r := PySem.W.dataLe false py) (s := PySem.W.dataLe false (·.1)) (l := as) (fun a _ b _ => rfl)
  rw [← e, List.map_map]; rfl
theorem len_le {α : Type} {l : List α} (h : l.length ≤ 1000) : okLen l = true := Nat.ble_eq_true_of_le (Nat.le_trans h (by decide))
end Fw

/-! fractions in lowest terms -/
namespace Fw
open PySem PySem.Spec PyProof.Rows L2
abbrev gcdI (p q : Int) : Int := ((Nat.gcd p.natAbs q.natAbs : Nat) : Int)
def nrm (p q : Int) : Int × Int := (p / gcdI p q, q / gcdI p q)
abbrev fr (x : Int × Int) : D := .tup [.int x.1, .int x.2]
theorem okLen2 (a b : D) : okLen [a, b] = true := rfl
theorem log2_lt {x : Int} {b : Nat} (h0 : 0 < b) (h : x.natAbs < 2 ^ b) : x.natAbs.log2 < b := PySem.Flt.log2_lt_of h0 h
theorem divOk_of {x : Int} (h : 0 < x) (hb : x.natAbs < 2 ^ 9000) : divOk x = true := by
  unfold divOk
  rw [decide_eq_true h, decide_eq_true (log2_lt (by decide) hb)]; rfl
theorem mulOk_of {x y : Int} {a b : Nat} (hx : x.natAbs < 2 ^ a) (hy : y.natAbs < 2 ^ b) (h0 : 0 < a) (h1 : 0 < b) (h : a + b < 1000000) : mulOk x y = true := by
  have l1 := log2_lt h0 hx
  have l2 := log2_lt h1 hy
  unfold mulOk
  rw [decide_eq_true (show x.natAbs.log2 + y.natAbs.log2 < 1000000 by omega)]; simp
theorem gcdI_pos {p q : Int} (hq : 0 < q) : 0 < gcdI p q := by
  have : 0 < Nat.gcd p.natAbs q.natAbs := Nat.gcd_pos_of_pos_right _ (by omega)
  unfold gcdI; omega
theorem gcdI_le {p q : Int} (hq : 0 < q) : (gcdI p q).natAbs ≤ q.natAbs := by
  have : Nat.gcd p.natAbs q.natAbs ≤ q.natAbs := Nat.gcd_le_right _ (by omega)
  unfold gcdI; omega
theorem e_mulK {i j : Int} (h : small64 j = true) : mulIP (.int i) (.int j) = some (.d (.int (i * j))) := by
  show fits (mulOk i j) (dInt (i * j)) = _
  rw [e_fits (show mulOk i j = true by unfold mulOk; rw [h]; simp)]; rfl
theorem e_mulB {x y : Int} {a b : Nat} (hx : x.natAbs < 2 ^ a) (hy : y.natAbs < 2 ^ b) (h0 : 0 < a) (h1 : 0 < b) (h : a + b < 1000000) : mulIP (.int x) (.int y) = some (.d (.int (x * y))) := by
  show fits (mulOk _ _) (dInt _) = _
  rw [e_fits (mulOk_of hx hy h0 h1 h)]; rfl
theorem e_divK {i j : Int} (h : divOk j = true) : divP (.int i) (.int j) = some (.d (.int (i / j))) := by
  show fits (divOk j) (dInt (i / j)) = _
  rw [e_fits h]; rfl
theorem e_modK {i j : Int} (h : 0 < j) : modP (.int i) (.int j) = some (.d (.int (i % j))) := by
  show fits (decide (0 < j)) (dInt (i % j)) = _
  rw [decide_eq_true h]; rfl
/-- in lowest terms, and small -/
structure Bd (b : Nat) (x : Int × Int) : Prop where
  pos : 0 < x.2
  num : x.1.natAbs < 2 ^ b
  den : x.2.natAbs < 2 ^ b
  cop : Nat.gcd x.1.natAbs x.2.natAbs = 1
theorem Bd.mono {a b : Nat} {x : Int × Int} (h : Bd a x) (hab : a ≤ b) : Bd b x :=
  ⟨h.pos, Nat.lt_of_lt_of_le h.num (Nat.pow_le_pow_right (by decide) hab), Nat.lt_of_lt_of_le h.den (Nat.pow_le_pow_right (by decide) hab), h.cop⟩
theorem nrm_cop {p q : Int} (h : Nat.gcd p.natAbs q.natAbs = 1) : nrm p q = (p, q) := by
  unfold nrm gcdI; rw [h]; simp
theorem nrm_bd {p q : Int} {b : Nat} (hq : 0 < q) (hp : p.natAbs < 2 ^ b) (hb : q.natAbs < 2 ^ b) : Bd b (nrm p q) := by
  have hg := gcdI_pos (p := p) hq
  have d1 : gcdI p q ∣ q := Int.gcd_dvd_right p q
  refine ⟨?_, ?_, ?_, ?_⟩
  · exact Int.ediv_pos_of_pos_of_dvd hq (Int.le_of_lt hg) d1
  · exact Nat.lt_of_le_of_lt (Int.natAbs_ediv_le_natAbs p _) hp
  · exact Nat.lt_of_le_of_lt (Int.natAbs_ediv_le_natAbs q _) hb
  · exact Int.gcd_ediv_gcd_ediv_gcd (i := p) (j := q) (by unfold gcdI at hg; unfold Int.gcd; omega)
def addF (x y : Int × Int) : Int × Int := nrm (x.1 * y.2 + y.1 * x.2) (x.2 * y.2)
def mulI (x : Int × Int) (c : Int) : Int × Int := nrm (x.1 * c) x.2
theorem natAbs_mul_lt {x y : Int} {a b : Nat} (hx : x.natAbs < 2 ^ a) (hy : y.natAbs < 2 ^ b) : (x * y).natAbs < 2 ^ (a + b) := by
  rw [Int.natAbs_mul, Nat.pow_add]
  by_cases h : y.natAbs = 0
  · rw [h, Nat.mul_zero]; exact Nat.mul_pos (Nat.pow_pos (by decide)) (Nat.pow_pos (by decide))
  · exact Nat.mul_lt_mul_of_lt_of_le hx (Nat.le_of_lt hy) (Nat.pos_of_ne_zero (by intro e; have : 0 < 2 ^ b := Nat.pow_pos (by decide); omega))
theorem natAbs_add_lt {x y : Int} {a : Nat} (hx : x.natAbs < 2 ^ a) (hy : y.natAbs < 2 ^ a) : (x + y).natAbs < 2 ^ (a + 1) := by
  have := Int.natAbs_add_le x y
  rw [Nat.pow_succ]; omega
theorem lt_pow {n a b : Nat} (h : n < 2 ^ a) (hab : a ≤ b) : n < 2 ^ b := Nat.lt_of_lt_of_le h (Nat.pow_le_pow_right (by decide) hab)
theorem add_num {a b : Nat} {x y : Int × Int} (hx : Bd a x) (hy : Bd b y) : (x.1 * y.2 + y.1 * x.2).natAbs < 2 ^ (a + b + 1) :=
  natAbs_add_lt (natAbs_mul_lt hx.num hy.den) (by rw [Nat.add_comm]; exact natAbs_mul_lt hy.num hx.den)
theorem add_den {a b : Nat} {x y : Int × Int} (hx : Bd a x) (hy : Bd b y) : (x.2 * y.2).natAbs < 2 ^ (a + b + 1) := lt_pow (natAbs_mul_lt hx.den hy.den) (by omega)
theorem addF_bd {a b : Nat} {x y : Int × Int} (hx : Bd a x) (hy : Bd b y) : Bd (a + b + 1) (addF x y) :=
  nrm_bd (Int.mul_pos hx.pos hy.pos) (add_num hx hy) (add_den hx hy)
theorem mulI_bd {a b : Nat} {x : Int × Int} {c : Int} (hx : Bd a x) (hc : c.natAbs < 2 ^ b) : Bd (a + b) (mulI x c) :=
  nrm_bd hx.pos (natAbs_mul_lt hx.num hc) (lt_pow hx.den (by omega))
theorem mulI_one {a : Nat} {x : Int × Int} (hx : Bd a x) : mulI x 1 = x := by
  unfold mulI; rw [Int.mul_one, nrm_cop hx.cop]
theorem mulI_zero {a : Nat} {x : Int × Int} (hx : Bd a x) : mulI x 0 = (0, 1) := by
  have := hx.pos
  unfold mulI nrm gcdI
  rw [Int.mul_zero, Int.natAbs_zero, Nat.gcd_zero_left, show ((x.2.natAbs : Nat) : Int) = x.2 by omega, Int.ediv_self (by omega)]
  simp
theorem addF_zero {a : Nat} {x : Int × Int} (hx : Bd a x) : addF x (0, 1) = x := by
  unfold addF; simp only [Int.mul_one, Int.zero_mul, Int.add_zero]; exact nrm_cop hx.cop
theorem bd01 : Bd 1 (0, 1) := ⟨by decide, by decide, by decide, by decide⟩
theorem rngD_succ (lo : Int) (m : Nat) : rngD lo (m + 1) = .int lo :: rngD (lo + 1) m := by
  unfold rngD
  rw [List.range_succ_eq_map, List.map_cons, List.map_map]
  congr 1
  · simp
  · apply List.map_congr_left
    intro k _
    simp only [Function.comp_apply]
    congr 1
    omega
theorem rngD_zero (lo : Int) : rngD lo 0 = [] := rfl
end Fw
namespace Fw
theorem rng_ok {j : Int} (h0 : 0 ≤ j) (h1 : j ≤ 1000000) : rng62 j = true := by
  have e : (2 : Int) ^ 62 = 4611686018427387904 := by decide +kernel
  unfold rng62
  rw [e, decide_eq_true (by omega), decide_eq_true (by omega)]; rfl
end Fw

namespace K13
open PySem PySem.Spec PyProof.Rows L2 Fw
/-! the text -/
def top (i : Nat) : Stmt := PySem.Challenge.pw_meanwithin_k13_sums_of_shares.main.body.getD i (.Pass ⟨0, 0, 0, 0⟩)
abbrev t_fraction : Stmt := top 2
abbrev t_sum_of : Stmt := top 3
abbrev t_product_of : Stmt := top 4
abbrev t_share_ended : Stmt := top 7
abbrev t_mean_count : Stmt := top 8
abbrev t_mean_result : Stmt := top 9
abbrev t_share_of : Stmt := top 10
abbrev t_ended_mean : Stmt := top 11
abbrev t__law_start : Stmt := top 13
abbrev t__law_draw : Stmt := top 14
abbrev t__law_is_int : Stmt := top 15
abbrev t__law_same : Stmt := top 16
abbrev t__law_fraction : Stmt := top 17
abbrev t__law_added : Stmt := top 18
abbrev t__law_number : Stmt := top 19
abbrev t__law_end : Stmt := top 20
abbrev t__law_rows : Stmt := top 21
abbrev t__law_total : Stmt := top 22
abbrev t_law : Stmt := top 23
def d_CUT : D := .tup [(.str "cut")]
/-! what the defs mean -/
def b_fraction (g : Nat → SemC) (n : Nat) : SemS :=
(sSeq (sSet 2 (sL gcdP (consO (sVO 0) (consO (sVO 1) nilO))))
(sSeq (sIfS (sB (s2 ltP (sVO 1) (sO (sD (sC (.int 0))))))
(sSet 2 (s1 negP (sVO 2)))
sNx)
(sRet (sTup (consD (sD (s2 divP (sVO 0) (sVO 2))) (consD (sD (s2 divP (sVO 1) (sVO 2))) nilD))))))
def b_sum_of (g : Nat → SemC) (n : Nat) : SemS :=
(sRet (sCall (g 0) [] (consD (sD (s2 addP (sO (sD (s2 mulIP (sO (sD (s2 ixP (sVO 0) (sO (sD (sC (.int 0))))))) (sO (sD (s2 ixP (sVO 1) (sO (sD (sC (.int 1)))))))))) (sO (sD (s2 mulIP (sO (sD (s2 ixP (sVO 1) (sO (sD (sC (.int 0))))))) (sO (sD (s2 ixP (sVO 0) (sO (sD (sC (.int 1)))))))))))) (consD (sD (s2 mulIP (sO (sD (s2 ixP (sVO 0) (sO (sD (sC (.int 1))))))) (sO (sD (s2 ixP (sVO 1) (sO (sD (sC (.int 1))))))))) nilD))))
def b_product_of (g : Nat → SemC) (n : Nat) : SemS :=
(sRet (sCall (g 0) [] (consD (sD (s2 mulIP (sO (sD (s2 ixP (sVO 0) (sO (sD (sC (.int 0))))))) (sO (sD (s2 ixP (sVO 1) (sO (sD (sC (.int 0))))))))) (consD (sD (s2 mulIP (sO (sD (s2 ixP (sVO 0) (sO (sD (sC (.int 1))))))) (sO (sD (s2 ixP (sVO 1) (sO (sD (sC (.int 1))))))))) nilD))))
def b_share_ended_f0 (g : Nat → SemC) (n : Nat) : SemS :=
(sIfS (sB (s2 neP (sVO 2) (sO (sD (sC d_CUT)))))
(sSet 1 (sCall (g 1) [] (consD (sD (sV 1)) (consD (sD (sV 3)) nilD))))
sNx)
def b_share_ended (g : Nat → SemC) (n : Nat) : SemS :=
(sSeq (sSet 1 (sTup (consD (sD (sC (.int 0))) (consD (sD (sC (.int 1))) nilD))))
(sSeq (sFor (sItS (sD (sV 0))) (gT 2 (gsCons (gN 2) (gsCons (gN 3) gsNil))) (b_share_ended_f0 g n))
(sRetV 1)))
def b_mean_count_f0 (g : Nat → SemC) (n : Nat) : SemS :=
(sIfS (sB (s2 neP (sVO 2) (sO (sD (sC d_CUT)))))
(sSet 1 (sCall (g 1) [] (consD (sD (sV 1)) (consD (sD (sCall (g 2) [] (consD (sD (sV 3)) (consD (sD (sTup (consD (sD (s2 ixP (sVO 2) (sO (sD (sC (.int 1)))))) (consD (sD (sC (.int 1))) nilD)))) nilD)))) nilD))))
sNx)
def b_mean_count (g : Nat → SemC) (n : Nat) : SemS :=
(sSeq (sSet 1 (sTup (consD (sD (sC (.int 0))) (consD (sD (sC (.int 1))) nilD))))
(sSeq (sFor (sItS (sD (sV 0))) (gT 2 (gsCons (gN 2) (gsCons (gN 3) gsNil))) (b_mean_count_f0 g n))
(sRetV 1)))
def b_mean_result_f0 (g : Nat → SemC) (n : Nat) : SemS :=
(sIfS (sB (s2 neP (sVO 3) (sO (sD (sC d_CUT)))))
(sSet 2 (sCall (g 1) [] (consD (sD (sV 2)) (consD (sD (sCall (g 2) [] (consD (sD (sV 4)) (consD (sD (sTup (consD (sD (s2 ixP (sO (sD (s2 ixP (sVO 3) (sO (sD (sC (.int 2))))))) (sVO 1))) (consD (sD (sC (.int 1))) nilD)))) nilD)))) nilD))))
sNx)
def b_mean_result (g : Nat → SemC) (n : Nat) : SemS :=
(sSeq (sSet 2 (sTup (consD (sD (sC (.int 0))) (consD (sD (sC (.int 1))) nilD))))
(sSeq (sFor (sItS (sD (sV 0))) (gT 2 (gsCons (gN 3) (gsCons (gN 4) gsNil))) (b_mean_result_f0 g n))
(sRetV 2)))
def b_share_of_f0 (g : Nat → SemC) (n : Nat) : SemS :=
(sIfS (sAnd (sB (s2 neP (sVO 3) (sO (sD (sC d_CUT))))) (sB (s2 eqP (sO (sD (s2 ixP (sVO 3) (sO (sD (sC (.int 2))))))) (sVO 1))))
(sSet 2 (sCall (g 1) [] (consD (sD (sV 2)) (consD (sD (sV 4)) nilD))))
sNx)
def b_share_of (g : Nat → SemC) (n : Nat) : SemS :=
(sSeq (sSet 2 (sTup (consD (sD (sC (.int 0))) (consD (sD (sC (.int 1))) nilD))))
(sSeq (sFor (sItS (sD (sV 0))) (gT 2 (gsCons (gN 3) (gsCons (gN 4) gsNil))) (b_share_of_f0 g n))
(sRetV 2)))
def b_ended_mean (g : Nat → SemC) (n : Nat) : SemS :=
(sSeq (sSet 1 (sCall (g 3) [] (consD (sD (sV 0)) nilD)))
(sSeq (sIfS (sB (s2 eqP (sO (sD (s2 ixP (sVO 1) (sO (sD (sC (.int 0))))))) (sO (sD (sC (.int 0))))))
(sRet (sTup nilD))
sNx)
(sSeq (sSet 2 (sCall (g 4) [] (consD (sD (sV 0)) nilD)))
(sRet (sCall (g 0) [] (consD (sD (s2 mulIP (sO (sD (s2 ixP (sVO 2) (sO (sD (sC (.int 0))))))) (sO (sD (s2 ixP (sVO 1) (sO (sD (sC (.int 1))))))))) (consD (sD (s2 mulIP (sO (sD (s2 ixP (sVO 2) (sO (sD (sC (.int 1))))))) (sO (sD (s2 ixP (sVO 1) (sO (sD (sC (.int 0))))))))) nilD)))))))
def b__law_start (g : Nat → SemC) (n : Nat) : SemS :=
(sRet (sLst (consD (sD (sL lstP (consO (sVO 0) nilO))) (consD (sD (sC (.int 0))) (consD (sD (sC (.int 0))) (consD (sD (sC (.int 0))) nilD))))))
def b__law_draw (g : Nat → SemC) (n : Nat) : SemS :=
(sSeq (sSetIx (sVO 0) (sO (sD (sC (.int 3)))) (sD (s2 addP (sO (sD (s2 ixP (sVO 0) (sO (sD (sC (.int 3))))))) (sO (sD (sC (.int 1)))))))
(sSeq (sIfS (sB (s2 gtP (sO (sD (s2 ixP (sVO 0) (sO (sD (sC (.int 2))))))) (sO (sD (sC (.int 0))))))
(sSeq (sSet 4 (s2 modP (sO (sD (sL intP (consO (sO (sD (s2 ixP (sVO 0) (sO (sD (sC (.int 2))))))) nilO)))) (sVO 1)))
(sSeq (sSetIx (sVO 0) (sO (sD (sC (.int 2)))) (sD (s2 divP (sO (sD (s2 ixP (sVO 0) (sO (sD (sC (.int 2))))))) (sVO 1))))
(sRetV 4)))
sNx)
(sSeq (sSet 2 (sC (.int 0)))
(sSeq (sIfS (sB (s2 gtP (sO (sD (sL lenP (consO (sO (sD (s2 ixP (sVO 0) (sO (sD (sC (.int 0))))))) nilO)))) (sO (sD (sC (.int 0))))))
(sSet 2 (sL absP (consO (sO (sD (s2 ixP (sO (sD (s2 ixP (sVO 0) (sO (sD (sC (.int 0))))))) (sO (sD (s2 modP (sO (sD (sL intP (consO (sO (sD (s2 ixP (sVO 0) (sO (sD (sC (.int 1))))))) nilO)))) (sO (sD (sL lenP (consO (sO (sD (s2 ixP (sVO 0) (sO (sD (sC (.int 0))))))) nilO)))))))))) nilO)))
sNx)
(sSeq (sSetIx (sVO 0) (sO (sD (sC (.int 1)))) (sD (s2 addP (sO (sD (s2 ixP (sVO 0) (sO (sD (sC (.int 1))))))) (sO (sD (sC (.int 1)))))))
(sSeq (sIfS (sB (s2 geP (sVO 2) (sO (sD (s2 powP (sO (sD (sC (.int 10)))) (sO (sD (sC (.int 18)))))))))
(sSeq (sSetIx (sVO 0) (sO (sD (sC (.int 2)))) (sD (s2 divP (sVO 2) (sVO 1))))
(sRet (s2 modP (sO (sD (sL intP (consO (sVO 2) nilO)))) (sVO 1))))
sNx)
(sSeq (sSet 3 (s2 modP (sO (sD (sL intP (consO (sO (sD (s2 addP (sO (sD (s2 mulIP (sO (sD (s2 addP (sVO 2) (sO (sD (sC (.int 1))))))) (sO (sD (sC (.int 48271))))))) (sO (sD (s2 mulIP (sO (sD (s2 ixP (sVO 0) (sO (sD (sC (.int 3))))))) (sO (sD (sC (.int 69621)))))))))) nilO)))) (sO (sD (sC (.int 2147483647))))))
(sSeq (sSet 3 (s2 modP (sO (sD (sL intP (consO (sO (sD (s2 addP (sO (sD (s2 addP (sO (sD (s2 mulIP (sVO 3) (sO (sD (sC (.int 16807))))))) (sO (sD (s2 divP (sVO 2) (sO (sD (sC (.int 97)))))))))) (sO (sD (s2 ixP (sVO 0) (sO (sD (sC (.int 3)))))))))) nilO)))) (sO (sD (sC (.int 2147483629))))))
(sRet (s2 modP (sO (sD (s2 divP (sVO 3) (sO (sD (sC (.int 11))))))) (sVO 1)))))))))))
def b__law_is_int (g : Nat → SemC) (n : Nat) : SemS :=
(sRet (sIf (sB (sIsi "int" (sVO 0))) (sVal (sNot (sB (sIsi "bool" (sVO 0))))) (sC (.bl false))))
def b__law_same_e0 (g : Nat → SemC) (n : Nat) : SemO D :=
(sD (sCall (g 11) [] (consD (sD (s2 ixP (sVO 0) (sVO 2))) (consD (sD (s2 ixP (sVO 1) (sVO 2))) nilD))))
def b__law_same (g : Nat → SemC) (n : Nat) : SemS :=
(sSeq (sIfS (sB (sIsi "tuple" (sVO 1)))
(sSeq (sIfS (sOr (sNot (sB (sIsi "tuple" (sVO 0)))) (sB (s2 neP (sO (sD (sL lenP (consO (sVO 0) nilO)))) (sO (sD (sL lenP (consO (sVO 1) nilO)))))))
(sRet (sC (.bl false)))
sNx)
(sRet (sL allP (consO (sO (sD (sLc (sIt1 (consD (sD (sL lenP (consO (sVO 1) nilO))) nilD)) (gN 2) tTrue (b__law_same_e0 g n) [2]))) nilO))))
sNx)
(sSeq (sIfS (sB (sIsi "str" (sVO 1)))
(sRet (sIf (sB (sIsi "str" (sVO 0))) (s2 eqP (sVO 0) (sVO 1)) (sC (.bl false))))
sNx)
(sRet (sIf (sB (sCall (g 10) [] (consD (sD (sV 0)) nilD))) (s2 eqP (sVO 0) (sVO 1)) (sC (.bl false))))))
def b__law_fraction_f0 (g : Nat → SemC) (n : Nat) : SemS :=
(sSeq (sIfS (sB (s2 eqP (sVO 3) (sO (sD (sC (.int 0))))))
sBrk
sNx)
(sSeq (sSet 5 (s2 subP (sVO 2) (sO (sD (s2 mulIP (sO (sD (s2 divP (sVO 2) (sVO 3)))) (sVO 3))))))
(sSeq (sSet 2 (sV 3))
(sSet 3 (sV 5)))))
def b__law_fraction (g : Nat → SemC) (n : Nat) : SemS :=
(sSeq (sSet 2 (sL absP (consO (sVO 0) nilO)))
(sSeq (sSet 3 (sV 1))
(sSeq (sFor (sIt1 (consD (sD (sC (.int 9999))) nilD)) (gN 4) (b__law_fraction_f0 g n))
(sRet (sTup (consD (sD (s2 divP (sVO 0) (sVO 2))) (consD (sD (s2 divP (sVO 1) (sVO 2))) nilD)))))))
def b__law_added (g : Nat → SemC) (n : Nat) : SemS :=
(sRet (sCall (g 12) [] (consD (sD (s2 addP (sO (sD (s2 mulIP (sO (sD (s2 ixP (sVO 0) (sO (sD (sC (.int 0))))))) (sO (sD (s2 ixP (sVO 1) (sO (sD (sC (.int 1)))))))))) (sO (sD (s2 mulIP (sO (sD (s2 ixP (sVO 1) (sO (sD (sC (.int 0))))))) (sO (sD (s2 ixP (sVO 0) (sO (sD (sC (.int 1)))))))))))) (consD (sD (s2 mulIP (sO (sD (s2 ixP (sVO 0) (sO (sD (sC (.int 1))))))) (sO (sD (s2 ixP (sVO 1) (sO (sD (sC (.int 1))))))))) nilD))))
def b__law_number (g : Nat → SemC) (n : Nat) : SemS :=
(sSeq (sSet 1 (sCall (g 9) [] (consD (sD (sV 0)) (consD (sD (sC (.int 4))) nilD))))
(sSeq (sIfS (sB (s2 eqP (sVO 1) (sO (sD (sC (.int 0))))))
(sRet (s2 subP (sO (sD (s2 mulIP (sO (sD (sCall (g 9) [] (consD (sD (sV 0)) (consD (sD (s2 powP (sO (sD (sC (.int 10)))) (sO (sD (sC (.int 9)))))) nilD))))) (sO (sD (s2 powP (sO (sD (sC (.int 10)))) (sO (sD (sC (.int 21)))))))))) (sO (sD (s2 powP (sO (sD (sC (.int 10)))) (sO (sD (sC (.int 29)))))))))
sNx)
(sRet (s2 subP (sO (sD (sCall (g 9) [] (consD (sD (sV 0)) (consD (sD (s2 ixP (sO (sD (sLst (consD (sD (sC (.int 3))) (consD (sD (sC (.int 19))) (consD (sD (sC (.int 2001))) nilD)))))) (sO (sD (s2 subP (sVO 1) (sO (sD (sC (.int 1))))))))) nilD))))) (sO (sD (s2 ixP (sO (sD (sLst (consD (sD (sC (.int 1))) (consD (sD (sC (.int 9))) (consD (sD (sC (.int 1000))) nilD)))))) (sO (sD (s2 subP (sVO 1) (sO (sD (sC (.int 1))))))))))))))
def b__law_end_e0 (g : Nat → SemC) (n : Nat) : SemO D :=
(sD (s2 subP (sO (sD (sCall (g 9) [] (consD (sD (sV 0)) (consD (sD (sC (.int 5))) nilD))))) (sO (sD (sC (.int 2))))))
def b__law_end_f1 (g : Nat → SemC) (n : Nat) : SemS :=
(sDrop (sMeth appK (sVO 4) (sD (sL tupP (consO (sO (sD (sLc (sIt1 (consD (sD (sCall (g 9) [] (consD (sD (sV 0)) (consD (sD (sC (.int 3))) nilD)))) nilD)) (gN 6) tTrue (b__law_end_e0 g n) [6]))) nilO)))))
def b__law_end_e2 (g : Nat → SemC) (n : Nat) : SemO D :=
(sD (sCall (g 14) [] (consD (sD (sV 0)) nilD)))
def b__law_end (g : Nat → SemC) (n : Nat) : SemS :=
(sSeq (sSet 3 (sL tupP (consO (sO (sD (sLc (sIt1 (consD (sD (sV 1)) nilD)) (gN 5) tTrue (b__law_end_e2 g n) [5]))) nilO)))
(sSeq (sSet 4 (sLst nilD))
(sSeq (sFor (sIt1 (consD (sD (sV 2)) nilD)) (gN 5) (b__law_end_f1 g n))
(sRet (sTup (consD (sD (sC (.str "done"))) (consD (sD (sCall (g 9) [] (consD (sD (sV 0)) (consD (sD (s2 ixP (sO (sD (sLst (consD (sD (sC (.int 4))) (consD (sD (sC (.int 1000))) nilD))))) (sO (sD (sCall (g 9) [] (consD (sD (sV 0)) (consD (sD (sC (.int 2))) nilD))))))) nilD)))) (consD (sD (sV 3)) (consD (sD (sL tupP (consO (sVO 4) nilO))) nilD)))))))))
def b__law_rows_e0 (g : Nat → SemC) (n : Nat) : SemO D :=
(sD (sTup (consD (sD (s2 ixP (sVO 2) (sVO 4))) (consD (sD (sCall (g 12) [] (consD (sD (s2 ixP (sVO 5) (sVO 4))) (consD (sD (sV 6)) nilD)))) nilD))))
def b__law_rows_e1 (g : Nat → SemC) (n : Nat) : SemO D :=
(sD (s2 addP (sO (sD (sC (.int 1)))) (sO (sD (sCall (g 9) [] (consD (sD (sV 0)) (consD (sD (s2 ixP (sO (sD (sLst (consD (sD (sC (.int 2))) (consD (sD (sC (.int 30))) (consD (sD (s2 powP (sO (sD (sC (.int 10)))) (sO (sD (sC (.int 20)))))) nilD)))))) (sO (sD (sCall (g 9) [] (consD (sD (sV 0)) (consD (sD (sC (.int 3))) nilD))))))) nilD)))))))
def b__law_rows_f2 (g : Nat → SemC) (n : Nat) : SemS :=
(sSeq (sSet 7 (sCall (g 15) [] (consD (sD (sV 0)) (consD (sD (sV 1)) (consD (sD (sV 3)) nilD)))))
(sSeq (sIfS (sAnd (sB (s2 neP (sVO 2) (sO (sD (sLst nilD))))) (sB (s2 eqP (sO (sD (sCall (g 9) [] (consD (sD (sV 0)) (consD (sD (sC (.int 3))) nilD))))) (sO (sD (sC (.int 0)))))))
(sSet 7 (sTup (consD (sD (sC (.str "done"))) (consD (sD (s2 ixP (sVO 7) (sO (sD (sC (.int 1)))))) (consD (sD (s2 ixP (sO (sD (s2 ixP (sVO 2) (sO (sD (sC (.int 0))))))) (sO (sD (sC (.int 2)))))) (consD (sD (s2 ixP (sVO 7) (sO (sD (sC (.int 3)))))) nilD))))))
sNx)
(sIfS (sB (s2 ninLP (sVO 7) (sVO 2)))
(sDrop (sMeth appK (sVO 2) (sD (sV 7))))
sNx)))
def b__law_rows (g : Nat → SemC) (n : Nat) : SemS :=
(sSeq (sSet 2 (sLst nilD))
(sSeq (sSet 3 (sCall (g 9) [] (consD (sD (sV 0)) (consD (sD (sC (.int 3))) nilD))))
(sSeq (sFor (sIt1 (consD (sD (sCall (g 9) [] (consD (sD (sV 0)) (consD (sD (sC (.int 9))) nilD)))) nilD)) (gN 4) (b__law_rows_f2 g n))
(sSeq (sIfS (sOr (sB (s2 eqP (sVO 2) (sO (sD (sLst nilD))))) (sB (s2 eqP (sO (sD (sCall (g 9) [] (consD (sD (sV 0)) (consD (sD (sC (.int 2))) nilD))))) (sO (sD (sC (.int 0)))))))
(sDrop (sMeth appK (sVO 2) (sD (sTup (consD (sD (sC (.str "cut"))) nilD)))))
sNx)
(sSeq (sSet 2 (sL sortP (consO (sVO 2) nilO)))
(sSeq (sSet 5 (sLc (sItS (sD (sV 2))) (gN 7) tTrue (b__law_rows_e1 g n) [7]))
(sSeq (sSet 6 (sL sumP (consO (sVO 5) nilO)))
(sRet (sL tupP (consO (sO (sD (sLc (sIt1 (consD (sD (sL lenP (consO (sVO 2) nilO))) nilD)) (gN 4) tTrue (b__law_rows_e0 g n) [4]))) nilO))))))))))
def b__law_total_f0 (g : Nat → SemC) (n : Nat) : SemS :=
(sSet 2 (sCall (g 13) [] (consD (sD (sV 2)) (consD (sD (sCall (g 12) [] (consD (sD (s2 mulIP (sO (sD (s2 ixP (sO (sD (s2 ixP (sO (sD (s2 ixP (sVO 0) (sVO 3)))) (sO (sD (sC (.int 1))))))) (sO (sD (sC (.int 0))))))) (sO (sD (s2 ixP (sVO 1) (sVO 3)))))) (consD (sD (s2 ixP (sO (sD (s2 ixP (sO (sD (s2 ixP (sVO 0) (sVO 3)))) (sO (sD (sC (.int 1))))))) (sO (sD (sC (.int 1)))))) nilD)))) nilD))))
def b__law_total (g : Nat → SemC) (n : Nat) : SemS :=
(sSeq (sSet 2 (sTup (consD (sD (sC (.int 0))) (consD (sD (sC (.int 1))) nilD))))
(sSeq (sFor (sIt1 (consD (sD (sL lenP (consO (sVO 0) nilO))) nilD)) (gN 3) (b__law_total_f0 g n))
(sRetV 2)))
def b_law_e0 (g : Nat → SemC) (n : Nat) : SemO D :=
(sD (s2 ixP (sO (sD (s2 ixP (sVO 11) (sO (sD (sC (.int 0))))))) (sO (sD (sC (.int 2))))))
def b_law_e1 (g : Nat → SemC) (n : Nat) : SemO D :=
(sD (sL intP (consO (sO (sD (s2 eqP (sO (sD (s2 ixP (sO (sD (s2 ixP (sVO 11) (sO (sD (sC (.int 0))))))) (sO (sD (sC (.int 2))))))) (sVO 9)))) nilO)))
def b_law_f2 (g : Nat → SemC) (n : Nat) : SemS :=
(sSeq (sSet 10 (sCall (g 17) [] (consD (sD (sV 4)) (consD (sD (sLc (sItS (sD (sV 4))) (gN 11) tTrue (b_law_e1 g n) [11])) nilD))))
(sIfS (sNot (sB (sCall (g 11) [] (consD (sD (sCall (g 6) [] (consD (sD (sV 3)) (consD (sD (sV 9)) nilD)))) (consD (sD (sV 10)) nilD)))))
(sRet (sC (.bl false)))
sNx))
def b_law_e3 (g : Nat → SemC) (n : Nat) : SemO D :=
(sD (sCall (g 14) [] (consD (sD (sV 1)) nilD)))
def b_law_e4 (g : Nat → SemC) (n : Nat) : SemO D :=
(sD (s2 ixP (sO (sD (s2 ixP (sO (sD (s2 ixP (sVO 11) (sO (sD (sC (.int 0))))))) (sO (sD (sC (.int 2))))))) (sVO 7)))
def b_law_f5 (g : Nat → SemC) (n : Nat) : SemS :=
(sIfS (sNot (sB (sCall (g 11) [] (consD (sD (sCall (g 5) [] (consD (sD (sV 3)) (consD (sD (sV 7)) nilD)))) (consD (sD (sCall (g 17) [] (consD (sD (sV 4)) (consD (sD (sLc (sItS (sD (sV 4))) (gN 11) tTrue (b_law_e4 g n) [11])) nilD)))) nilD)))))
(sRet (sC (.bl false)))
sNx)
def b_law_e6 (g : Nat → SemC) (n : Nat) : SemO D :=
(sD (s2 ixP (sO (sD (s2 ixP (sVO 11) (sO (sD (sC (.int 0))))))) (sO (sD (sC (.int 1))))))
def b_law_e7 (g : Nat → SemC) (n : Nat) : SemO D :=
(sD (sC (.int 1)))
def b_law_t8 (g : Nat → SemC) (n : Nat) : SemO Bool :=
(sB (s2 neP (sO (sD (s2 ixP (sVO 11) (sO (sD (sC (.int 0))))))) (sO (sD (sTup (consD (sD (sC (.str "cut"))) nilD))))))
def b_law_e9 (g : Nat → SemC) (n : Nat) : SemO D :=
(sD (sV 11))
def b_law (g : Nat → SemC) (n : Nat) : SemS :=
(sSeq (sSetL 1 (sCall (g 8) [] (consD (sD (sV 0)) nilD)))
(sSeq (sSet 2 (sCall (g 9) [] (consD (sD (sV 1)) (consD (sD (sC (.int 4))) nilD))))
(sSeq (sSet 3 (sCall (g 16) [] (consD (sD (sV 1)) (consD (sD (sV 2)) nilD))))
(sSeq (sSet 4 (sLc (sItS (sD (sV 3))) (gN 11) (b_law_t8 g n) (b_law_e9 g n) [11]))
(sSeq (sSet 5 (sCall (g 17) [] (consD (sD (sV 4)) (consD (sD (sLc (sItS (sD (sV 4))) (gN 11) tTrue (b_law_e7 g n) [11])) nilD))))
(sSeq (sSet 6 (sCall (g 17) [] (consD (sD (sV 4)) (consD (sD (sLc (sItS (sD (sV 4))) (gN 11) tTrue (b_law_e6 g n) [11])) nilD))))
(sSeq (sIfS (sOr (sNot (sB (sCall (g 11) [] (consD (sD (sCall (g 3) [] (consD (sD (sV 3)) nilD))) (consD (sD (sV 5)) nilD))))) (sNot (sB (sCall (g 11) [] (consD (sD (sCall (g 4) [] (consD (sD (sV 3)) nilD))) (consD (sD (sV 6)) nilD))))))
(sRet (sC (.bl false)))
sNx)
(sSeq (sFor (sIt1 (consD (sD (sV 2)) nilD)) (gN 7) (b_law_f5 g n))
(sSeq (sSet 8 (sLst (consD (sD (sL tupP (consO (sO (sD (sLc (sIt1 (consD (sD (sV 2)) nilD)) (gN 12) tTrue (b_law_e3 g n) [12]))) nilO))) (consD (sD (sL tupP (consO (sO (sD (s2 repP (sO (sD (sLst (consD (sD (sC (.int 0))) nilD)))) (sVO 2)))) nilO))) (consD (sD (sL tupP (consO (sO (sD (s2 repP (sO (sD (sLst (consD (sD (sC (.int 0))) nilD)))) (sO (sD (s2 addP (sVO 2) (sO (sD (sC (.int 1)))))))))) nilO))) nilD)))))
(sSeq (sFor (sItS (sD (s2 addP (sO (sD (sLc (sItS (sD (sV 4))) (gN 11) tTrue (b_law_e0 g n) [11]))) (sVO 8)))) (gN 9) (b_law_f2 g n))
(sSeq (sSet 10 (sTup nilD))
(sSeq (sIfS (sB (s2 neP (sVO 4) (sO (sD (sLst nilD)))))
(sSet 10 (sCall (g 12) [] (consD (sD (s2 mulIP (sO (sD (s2 ixP (sVO 6) (sO (sD (sC (.int 0))))))) (sO (sD (s2 ixP (sVO 5) (sO (sD (sC (.int 1))))))))) (consD (sD (s2 mulIP (sO (sD (s2 ixP (sVO 6) (sO (sD (sC (.int 1))))))) (sO (sD (s2 ixP (sVO 5) (sO (sD (sC (.int 0))))))))) nilD))))
sNx)
(sRet (sCall (g 11) [] (consD (sD (sCall (g 7) [] (consD (sD (sV 3)) nilD))) (consD (sD (sV 10)) nilD))))))))))))))))
def tabL (n : Nat) (g : Nat → SemC) : List SemC := [runB 3 2 (b_fraction g n),
  runB 2 2 (b_sum_of g n),
  runB 2 2 (b_product_of g n),
  runB 4 1 (b_share_ended g n),
  runB 4 1 (b_mean_count g n),
  runB 5 2 (b_mean_result g n),
  runB 5 2 (b_share_of g n),
  runB 3 1 (b_ended_mean g n),
  runB 1 1 (b__law_start g n),
  runB 5 2 (b__law_draw g n),
  runB 1 1 (b__law_is_int g n),
  runB 3 2 (b__law_same g n),
  runB 6 2 (b__law_fraction g n),
  runB 2 2 (b__law_added g n),
  runB 2 1 (b__law_number g n),
  runB 7 3 (b__law_end g n),
  runB 8 2 (b__law_rows g n),
  runB 4 2 (b__law_total g n),
  runB 13 1 (b_law g n)]
def noC : SemC := fun _ _ => .no
def cf (n : Nat) : Nat → Nat → SemC
  | 0 => fun _ => noC
  | k + 1 => fun j => (tabL n (cf n k)).getD j noC
theorem cf_fraction (n k : Nat) : cf n (k + 1) 0 = runB 3 2 (b_fraction (cf n k) n) := rfl
theorem cf_sum_of (n k : Nat) : cf n (k + 1) 1 = runB 2 2 (b_sum_of (cf n k) n) := rfl
theorem cf_product_of (n k : Nat) : cf n (k + 1) 2 = runB 2 2 (b_product_of (cf n k) n) := rfl
theorem cf_share_ended (n k : Nat) : cf n (k + 1) 3 = runB 4 1 (b_share_ended (cf n k) n) := rfl
theorem cf_mean_count (n k : Nat) : cf n (k + 1) 4 = runB 4 1 (b_mean_count (cf n k) n) := rfl
theorem cf_mean_result (n k : Nat) : cf n (k + 1) 5 = runB 5 2 (b_mean_result (cf n k) n) := rfl
theorem cf_share_of (n k : Nat) : cf n (k + 1) 6 = runB 5 2 (b_share_of (cf n k) n) := rfl
theorem cf_ended_mean (n k : Nat) : cf n (k + 1) 7 = runB 3 1 (b_ended_mean (cf n k) n) := rfl
theorem cf__law_start (n k : Nat) : cf n (k + 1) 8 = runB 1 1 (b__law_start (cf n k) n) := rfl
theorem cf__law_draw (n k : Nat) : cf n (k + 1) 9 = runB 5 2 (b__law_draw (cf n k) n) := rfl
theorem cf__law_is_int (n k : Nat) : cf n (k + 1) 10 = runB 1 1 (b__law_is_int (cf n k) n) := rfl
theorem cf__law_same (n k : Nat) : cf n (k + 1) 11 = runB 3 2 (b__law_same (cf n k) n) := rfl
theorem cf__law_fraction (n k : Nat) : cf n (k + 1) 12 = runB 6 2 (b__law_fraction (cf n k) n) := rfl
theorem cf__law_added (n k : Nat) : cf n (k + 1) 13 = runB 2 2 (b__law_added (cf n k) n) := rfl
theorem cf__law_number (n k : Nat) : cf n (k + 1) 14 = runB 2 1 (b__law_number (cf n k) n) := rfl
theorem cf__law_end (n k : Nat) : cf n (k + 1) 15 = runB 7 3 (b__law_end (cf n k) n) := rfl
theorem cf__law_rows (n k : Nat) : cf n (k + 1) 16 = runB 8 2 (b__law_rows (cf n k) n) := rfl
theorem cf__law_total (n k : Nat) : cf n (k + 1) 17 = runB 4 2 (b__law_total (cf n k) n) := rfl
theorem cf_law (n k : Nat) : cf n (k + 1) 18 = runB 13 1 (b_law (cf n k) n) := rfl
def fnl : List (Str × Stmt × List Str) := [("fraction", t_fraction, ["p", "q"]),
  ("sum_of", t_sum_of, ["f", "g"]),
  ("product_of", t_product_of, ["f", "g"]),
  ("share_ended", t_share_ended, ["rows"]),
  ("mean_count", t_mean_count, ["rows"]),
  ("mean_result", t_mean_result, ["rows", "place"]),
  ("share_of", t_share_of, ["rows", "results"]),
  ("ended_mean", t_ended_mean, ["rows"]),
  ("_law_start", t__law_start, ["script"]),
  ("_law_draw", t__law_draw, ["state", "most"]),
  ("_law_is_int", t__law_is_int, ["x"]),
  ("_law_same", t__law_same, ["x", "y"]),
  ("_law_fraction", t__law_fraction, ["p", "q"]),
  ("_law_added", t__law_added, ["f", "g"]),
  ("_law_number", t__law_number, ["state"]),
  ("_law_end", t__law_end, ["state", "many", "arrays"]),
  ("_law_rows", t__law_rows, ["state", "many"]),
  ("_law_total", t__law_total, ["rows", "factors"]),
  ("law", t_law, ["script"])]
def frl : List Str := ["abs", "all", "bool", "int", "isinstance", "len", "list", "range", "sorted", "str", "sum", "tuple"]
structure FnI (K : PySem.W.Frag) (mg : Str → Option Value) (x : Str) (st : Stmt) (ps : List Str) (fd : FuncData) : Prop where
  F : FunD K x x (defArgs st) (defBody st) (defScope st) [] [] (He.ga K x) fd
  mg : mg x = some (.ref (He.ga K x))
  b : Binds K fd ps []
structure Tb (K : PySem.W.Frag) (mg : Str → Option Value) (fd : Nat → FuncData) : Prop where
  fn : ∀ (j : Nat) {x : Str} {st : Stmt} {ps : List Str}, fnl[j]? = some (x, st, ps) → FnI K mg x st ps (fd j)
  fr : ∀ x : Str, frl.contains x = true → mg x = none
  c_CUT : ∀ {X : Cx} {c : Cv} {pos : Pos}, X.K = K → X.mg = mg → Gl X "CUT" → JE X c (.Name "CUT" pos) (sC d_CUT)
  i_gcd : mg "gcd" = some (.builtin "math.gcd")
section
variable {P : Program} {w : World} {K : PySem.W.Frag} {mg : Str → Option Value} {base : Heap} {fd : Nat → FuncData} {ct : Nat → Addr} {n k : Nat}
abbrev Ok (P : Program) (w : World) (K : PySem.W.Frag) (mg : Str → Option Value) (base : Heap) (fd : Nat → FuncData) (ct : Nat → Addr) (n k : Nat) : Prop :=
  ∀ (j : Nat) {x : Str} {st : Stmt} {ps : List Str}, fnl[j]? = some (x, st, ps) → FnOk P w K mg base CX0 k (He.ga K x) (fd j) ps (spOf ⟨K, ct⟩ (cf n k j))
theorem sc_fraction : FnScope ["p", "q", "factor"] ["p", "q"] (defScope t_fraction) := ⟨rfl, rfl, rfl, by decide +kernel, rfl, by decide +kernel, by decide +kernel⟩
theorem ok_fraction (T : Tb K mg fd) (IH : Ok P w K mg base fd ct n k) : FnOk P w K mg base CX0 (k + 1) (He.ga K "fraction") (fd 0) ["p", "q"] (spOf ⟨K, ct⟩ (runB 3 2 (b_fraction (cf n k) n))) := by
  refine Fw.fn_ok (N := ["p", "q", "factor"]) sc_fraction (fun len hb => (T.fn 0 rfl).F.ok sc_fraction len hb) (by decide) fun cdv A outer s' H E B hr => ?_
  have hx : ∀ σ, PassesAt CX0 (cxOf CX0 P w K mg base ["p", "q", "factor"] "fraction" (defScope t_fraction) (He.ga K "fraction") cdv A outer s' H E) σ (fun cls d H => E cls d H) := fun σ => passN
  exact
(js_cons (js_set 2 sc_fraction.nd rfl (by first | exact Or.inl rfl | exact Or.inr rfl) (je_BF cr_gcd p_gcd (by rfl) T.i_gcd (jbs_cons (jb_var 0 (pv 0)) (jbs_cons (jb_var 1 (pv 1)) jbs_nil))))
(js_cons (js_if (jt_cmp op_lt p_lt (jb_var 1 (pv 1)) (jb je_int) (nomark _))
(js_one (js_set 2 sc_fraction.nd rfl (by first | exact Or.inl rfl | exact Or.inr rfl) (je_un un_neg p_neg (jb_var 2 (pv 2)))))
js_nil)
(js_one (js_ret (je_tup (jds_cons (jd (je_bin op_fdivW p_div (jb_var 0 (pv 0)) (jb_var 2 (pv 2)))) (jds_cons (jd (je_bin op_fdivW p_div (jb_var 1 (pv 1)) (jb_var 2 (pv 2)))) jds_nil)))))))
theorem sc_sum_of : FnScope ["f", "g"] ["f", "g"] (defScope t_sum_of) := ⟨rfl, rfl, rfl, by decide +kernel, rfl, by decide +kernel, by decide +kernel⟩
theorem ok_sum_of (T : Tb K mg fd) (IH : Ok P w K mg base fd ct n k) : FnOk P w K mg base CX0 (k + 1) (He.ga K "sum_of") (fd 1) ["f", "g"] (spOf ⟨K, ct⟩ (runB 2 2 (b_sum_of (cf n k) n))) := by
  refine Fw.fn_ok (N := ["f", "g"]) sc_sum_of (fun len hb => (T.fn 1 rfl).F.ok sc_sum_of len hb) (by decide) fun cdv A outer s' H E B hr => ?_
  have hx : ∀ σ, PassesAt CX0 (cxOf CX0 P w K mg base ["f", "g"] "sum_of" (defScope t_sum_of) (He.ga K "sum_of") cdv A outer s' H E) σ (fun cls d H => E cls d H) := fun σ => passN
  exact
(js_one (js_ret (je_call (IH 0 rfl) hr (by rfl) (T.fn 0 rfl).mg (T.fn 0 rfl).F.kp (T.fn 0 rfl).b .nil (fun _ _ => .nil) hx (jds_cons (jd (je_bin op_addX p_add (jb (je_bin op_mulX p_mul (jb (je_ix ix_seq p_ix (jb_var 0 (pv 0)) (jb je_int) (fun _ _ => rfl))) (jb (je_ix ix_seq p_ix (jb_var 1 (pv 1)) (jb je_int) (fun _ _ => rfl))))) (jb (je_bin op_mulX p_mul (jb (je_ix ix_seq p_ix (jb_var 1 (pv 1)) (jb je_int) (fun _ _ => rfl))) (jb (je_ix ix_seq p_ix (jb_var 0 (pv 0)) (jb je_int) (fun _ _ => rfl))))))) (jds_cons (jd (je_bin op_mulX p_mul (jb (je_ix ix_seq p_ix (jb_var 0 (pv 0)) (jb je_int) (fun _ _ => rfl))) (jb (je_ix ix_seq p_ix (jb_var 1 (pv 1)) (jb je_int) (fun _ _ => rfl))))) jds_nil)))))
theorem sc_product_of : FnScope ["f", "g"] ["f", "g"] (defScope t_product_of) := ⟨rfl, rfl, rfl, by decide +kernel, rfl, by decide +kernel, by decide +kernel⟩
theorem ok_product_of (T : Tb K mg fd) (IH : Ok P w K mg base fd ct n k) : FnOk P w K mg base CX0 (k + 1) (He.ga K "product_of") (fd 2) ["f", "g"] (spOf ⟨K, ct⟩ (runB 2 2 (b_product_of (cf n k) n))) := by
  refine Fw.fn_ok (N := ["f", "g"]) sc_product_of (fun len hb => (T.fn 2 rfl).F.ok sc_product_of len hb) (by decide) fun cdv A outer s' H E B hr => ?_
  have hx : ∀ σ, PassesAt CX0 (cxOf CX0 P w K mg base ["f", "g"] "product_of" (defScope t_product_of) (He.ga K "product_of") cdv A outer s' H E) σ (fun cls d H => E cls d H) := fun σ => passN
  exact
(js_one (js_ret (je_call (IH 0 rfl) hr (by rfl) (T.fn 0 rfl).mg (T.fn 0 rfl).F.kp (T.fn 0 rfl).b .nil (fun _ _ => .nil) hx (jds_cons (jd (je_bin op_mulX p_mul (jb (je_ix ix_seq p_ix (jb_var 0 (pv 0)) (jb je_int) (fun _ _ => rfl))) (jb (je_ix ix_seq p_ix (jb_var 1 (pv 1)) (jb je_int) (fun _ _ => rfl))))) (jds_cons (jd (je_bin op_mulX p_mul (jb (je_ix ix_seq p_ix (jb_var 0 (pv 0)) (jb je_int) (fun _ _ => rfl))) (jb (je_ix ix_seq p_ix (jb_var 1 (pv 1)) (jb je_int) (fun _ _ => rfl))))) jds_nil)))))
theorem sc_share_ended : FnScope ["rows", "total", "end", "share"] ["rows"] (defScope t_share_ended) := ⟨rfl, rfl, rfl, by decide +kernel, rfl, by decide +kernel, by decide +kernel⟩
theorem ok_share_ended (T : Tb K mg fd) (IH : Ok P w K mg base fd ct n k) : FnOk P w K mg base CX0 (k + 1) (He.ga K "share_ended") (fd 3) ["rows"] (spOf ⟨K, ct⟩ (runB 4 1 (b_share_ended (cf n k) n))) := by
  refine Fw.fn_ok (N := ["rows", "total", "end", "share"]) sc_share_ended (fun len hb => (T.fn 3 rfl).F.ok sc_share_ended len hb) (by decide) fun cdv A outer s' H E B hr => ?_
  have hx : ∀ σ, PassesAt CX0 (cxOf CX0 P w K mg base ["rows", "total", "end", "share"] "share_ended" (defScope t_share_ended) (He.ga K "share_ended") cdv A outer s' H E) σ (fun cls d H => E cls d H) := fun σ => passN
  exact
(js_cons (js_set 1 sc_share_ended.nd rfl (by first | exact Or.inl rfl | exact Or.inr rfl) (je_tup (jds_cons (jd je_int) (jds_cons (jd je_int) jds_nil))))
(js_cons (js_for (passes_of rfl) rfl (ji_seq (jd (je_var 0 (pv 0)))) (jg_tup rfl (jgs_cons (jg_name 2 sc_share_ended.nd rfl (by first | exact Or.inl rfl | exact Or.inr rfl)) (jgs_cons (jg_name 3 sc_share_ended.nd rfl (by first | exact Or.inl rfl | exact Or.inr rfl)) jgs_nil)))
(js_one (js_if (jt_cmp (op_neD hr.units) p_ne (jb_var 2 (pv 2)) (jb (T.c_CUT rfl rfl (by rfl))) (nomark _))
(js_one (js_set 1 sc_share_ended.nd rfl (by first | exact Or.inl rfl | exact Or.inr rfl) (je_call (IH 1 rfl) hr (by rfl) (T.fn 1 rfl).mg (T.fn 1 rfl).F.kp (T.fn 1 rfl).b .nil (fun _ _ => .nil) hx (jds_cons (jd (je_var 1 (pv 1))) (jds_cons (jd (je_var 3 (pv 3))) jds_nil)))))
js_nil)))
(js_one (js_retV 1 (pv 1)))))
theorem sc_mean_count : FnScope ["rows", "total", "end", "share"] ["rows"] (defScope t_mean_count) := ⟨rfl, rfl, rfl, by decide +kernel, rfl, by decide +kernel, by decide +kernel⟩
theorem ok_mean_count (T : Tb K mg fd) (IH : Ok P w K mg base fd ct n k) : FnOk P w K mg base CX0 (k + 1) (He.ga K "mean_count") (fd 4) ["rows"] (spOf ⟨K, ct⟩ (runB 4 1 (b_mean_count (cf n k) n))) := by
  refine Fw.fn_ok (N := ["rows", "total", "end", "share"]) sc_mean_count (fun len hb => (T.fn 4 rfl).F.ok sc_mean_count len hb) (by decide) fun cdv A outer s' H E B hr => ?_
  have hx : ∀ σ, PassesAt CX0 (cxOf CX0 P w K mg base ["rows", "total", "end", "share"] "mean_count" (defScope t_mean_count) (He.ga K "mean_count") cdv A outer s' H E) σ (fun cls d H => E cls d H) := fun σ => passN
  exact
(js_cons (js_set 1 sc_mean_count.nd rfl (by first | exact Or.inl rfl | exact Or.inr rfl) (je_tup (jds_cons (jd je_int) (jds_cons (jd je_int) jds_nil))))
(js_cons (js_for (passes_of rfl) rfl (ji_seq (jd (je_var 0 (pv 0)))) (jg_tup rfl (jgs_cons (jg_name 2 sc_mean_count.nd rfl (by first | exact Or.inl rfl | exact Or.inr rfl)) (jgs_cons (jg_name 3 sc_mean_count.nd rfl (by first | exact Or.inl rfl | exact Or.inr rfl)) jgs_nil)))
(js_one (js_if (jt_cmp (op_neD hr.units) p_ne (jb_var 2 (pv 2)) (jb (T.c_CUT rfl rfl (by rfl))) (nomark _))
(js_one (js_set 1 sc_mean_count.nd rfl (by first | exact Or.inl rfl | exact Or.inr rfl) (je_call (IH 1 rfl) hr (by rfl) (T.fn 1 rfl).mg (T.fn 1 rfl).F.kp (T.fn 1 rfl).b .nil (fun _ _ => .nil) hx (jds_cons (jd (je_var 1 (pv 1))) (jds_cons (jd (je_call (IH 2 rfl) hr (by rfl) (T.fn 2 rfl).mg (T.fn 2 rfl).F.kp (T.fn 2 rfl).b .nil (fun _ _ => .nil) hx (jds_cons (jd (je_var 3 (pv 3))) (jds_cons (jd (je_tup (jds_cons (jd (je_ix ix_seq p_ix (jb_var 2 (pv 2)) (jb je_int) (fun _ _ => rfl))) (jds_cons (jd je_int) jds_nil)))) jds_nil)))) jds_nil)))))
js_nil)))
(js_one (js_retV 1 (pv 1)))))
theorem sc_mean_result : FnScope ["rows", "place", "total", "end", "share"] ["rows", "place"] (defScope t_mean_result) := ⟨rfl, rfl, rfl, by decide +kernel, rfl, by decide +kernel, by decide +kernel⟩
theorem ok_mean_result (T : Tb K mg fd) (IH : Ok P w K mg base fd ct n k) : FnOk P w K mg base CX0 (k + 1) (He.ga K "mean_result") (fd 5) ["rows", "place"] (spOf ⟨K, ct⟩ (runB 5 2 (b_mean_result (cf n k) n))) := by
  refine Fw.fn_ok (N := ["rows", "place", "total", "end", "share"]) sc_mean_result (fun len hb => (T.fn 5 rfl).F.ok sc_mean_result len hb) (by decide) fun cdv A outer s' H E B hr => ?_
  have hx : ∀ σ, PassesAt CX0 (cxOf CX0 P w K mg base ["rows", "place", "total", "end", "share"] "mean_result" (defScope t_mean_result) (He.ga K "mean_result") cdv A outer s' H E) σ (fun cls d H => E cls d H) := fun σ => passN
  exact
(js_cons (js_set 2 sc_mean_result.nd rfl (by first | exact Or.inl rfl | exact Or.inr rfl) (je_tup (jds_cons (jd je_int) (jds_cons (jd je_int) jds_nil))))
(js_cons (js_for (passes_of rfl) rfl (ji_seq (jd (je_var 0 (pv 0)))) (jg_tup rfl (jgs_cons (jg_name 3 sc_mean_result.nd rfl (by first | exact Or.inl rfl | exact Or.inr rfl)) (jgs_cons (jg_name 4 sc_mean_result.nd rfl (by first | exact Or.inl rfl | exact Or.inr rfl)) jgs_nil)))
(js_one (js_if (jt_cmp (op_neD hr.units) p_ne (jb_var 3 (pv 3)) (jb (T.c_CUT rfl rfl (by rfl))) (nomark _))
(js_one (js_set 2 sc_mean_result.nd rfl (by first | exact Or.inl rfl | exact Or.inr rfl) (je_call (IH 1 rfl) hr (by rfl) (T.fn 1 rfl).mg (T.fn 1 rfl).F.kp (T.fn 1 rfl).b .nil (fun _ _ => .nil) hx (jds_cons (jd (je_var 2 (pv 2))) (jds_cons (jd (je_call (IH 2 rfl) hr (by rfl) (T.fn 2 rfl).mg (T.fn 2 rfl).F.kp (T.fn 2 rfl).b .nil (fun _ _ => .nil) hx (jds_cons (jd (je_var 4 (pv 4))) (jds_cons (jd (je_tup (jds_cons (jd (je_ix ix_seq p_ix (jb (je_ix ix_seq p_ix (jb_var 3 (pv 3)) (jb je_int) (fun _ _ => rfl))) (jb_var 1 (pv 1)) (fun _ _ => rfl))) (jds_cons (jd je_int) jds_nil)))) jds_nil)))) jds_nil)))))
js_nil)))
(js_one (js_retV 2 (pv 2)))))
theorem sc_share_of : FnScope ["rows", "results", "total", "end", "share"] ["rows", "results"] (defScope t_share_of) := ⟨rfl, rfl, rfl, by decide +kernel, rfl, by decide +kernel, by decide +kernel⟩
theorem ok_share_of (T : Tb K mg fd) (IH : Ok P w K mg base fd ct n k) : FnOk P w K mg base CX0 (k + 1) (He.ga K "share_of") (fd 6) ["rows", "results"] (spOf ⟨K, ct⟩ (runB 5 2 (b_share_of (cf n k) n))) := by
  refine Fw.fn_ok (N := ["rows", "results", "total", "end", "share"]) sc_share_of (fun len hb => (T.fn 6 rfl).F.ok sc_share_of len hb) (by decide) fun cdv A outer s' H E B hr => ?_
  have hx : ∀ σ, PassesAt CX0 (cxOf CX0 P w K mg base ["rows", "results", "total", "end", "share"] "share_of" (defScope t_share_of) (He.ga K "share_of") cdv A outer s' H E) σ (fun cls d H => E cls d H) := fun σ => passN
  exact
(js_cons (js_set 2 sc_share_of.nd rfl (by first | exact Or.inl rfl | exact Or.inr rfl) (je_tup (jds_cons (jd je_int) (jds_cons (jd je_int) jds_nil))))
(js_cons (js_for (passes_of rfl) rfl (ji_seq (jd (je_var 0 (pv 0)))) (jg_tup rfl (jgs_cons (jg_name 3 sc_share_of.nd rfl (by first | exact Or.inl rfl | exact Or.inr rfl)) (jgs_cons (jg_name 4 sc_share_of.nd rfl (by first | exact Or.inl rfl | exact Or.inr rfl)) jgs_nil)))
(js_one (js_if (jt_w (jw_and (jt_cmp (op_neD hr.units) p_ne (jb_var 3 (pv 3)) (jb (T.c_CUT rfl rfl (by rfl))) (nomark _)) (jw_and1 (jt_cmp (op_eqD hr.units) p_eq (jb (je_ix ix_seq p_ix (jb_var 3 (pv 3)) (jb je_int) (fun _ _ => rfl))) (jb_var 1 (pv 1)) (nomark _)))))
(js_one (js_set 2 sc_share_of.nd rfl (by first | exact Or.inl rfl | exact Or.inr rfl) (je_call (IH 1 rfl) hr (by rfl) (T.fn 1 rfl).mg (T.fn 1 rfl).F.kp (T.fn 1 rfl).b .nil (fun _ _ => .nil) hx (jds_cons (jd (je_var 2 (pv 2))) (jds_cons (jd (je_var 4 (pv 4))) jds_nil)))))
js_nil)))
(js_one (js_retV 2 (pv 2)))))
theorem sc_ended_mean : FnScope ["rows", "share", "total"] ["rows"] (defScope t_ended_mean) := ⟨rfl, rfl, rfl, by decide +kernel, rfl, by decide +kernel, by decide +kernel⟩
theorem ok_ended_mean (T : Tb K mg fd) (IH : Ok P w K mg base fd ct n k) : FnOk P w K mg base CX0 (k + 1) (He.ga K "ended_mean") (fd 7) ["rows"] (spOf ⟨K, ct⟩ (runB 3 1 (b_ended_mean (cf n k) n))) := by
  refine Fw.fn_ok (N := ["rows", "share", "total"]) sc_ended_mean (fun len hb => (T.fn 7 rfl).F.ok sc_ended_mean len hb) (by decide) fun cdv A outer s' H E B hr => ?_
  have hx : ∀ σ, PassesAt CX0 (cxOf CX0 P w K mg base ["rows", "share", "total"] "ended_mean" (defScope t_ended_mean) (He.ga K "ended_mean") cdv A outer s' H E) σ (fun cls d H => E cls d H) := fun σ => passN
  exact
(js_cons (js_set 1 sc_ended_mean.nd rfl (by first | exact Or.inl rfl | exact Or.inr rfl) (je_call (IH 3 rfl) hr (by rfl) (T.fn 3 rfl).mg (T.fn 3 rfl).F.kp (T.fn 3 rfl).b .nil (fun _ _ => .nil) hx (jds_cons (jd (je_var 0 (pv 0))) jds_nil)))
(js_cons (js_if (jt_cmp (op_eqD hr.units) p_eq (jb (je_ix ix_seq p_ix (jb_var 1 (pv 1)) (jb je_int) (fun _ _ => rfl))) (jb je_int) (nomark _))
(js_one (js_ret (je_tup jds_nil)))
js_nil)
(js_cons (js_set 2 sc_ended_mean.nd rfl (by first | exact Or.inl rfl | exact Or.inr rfl) (je_call (IH 4 rfl) hr (by rfl) (T.fn 4 rfl).mg (T.fn 4 rfl).F.kp (T.fn 4 rfl).b .nil (fun _ _ => .nil) hx (jds_cons (jd (je_var 0 (pv 0))) jds_nil)))
(js_one (js_ret (je_call (IH 0 rfl) hr (by rfl) (T.fn 0 rfl).mg (T.fn 0 rfl).F.kp (T.fn 0 rfl).b .nil (fun _ _ => .nil) hx (jds_cons (jd (je_bin op_mulX p_mul (jb (je_ix ix_seq p_ix (jb_var 2 (pv 2)) (jb je_int) (fun _ _ => rfl))) (jb (je_ix ix_seq p_ix (jb_var 1 (pv 1)) (jb je_int) (fun _ _ => rfl))))) (jds_cons (jd (je_bin op_mulX p_mul (jb (je_ix ix_seq p_ix (jb_var 2 (pv 2)) (jb je_int) (fun _ _ => rfl))) (jb (je_ix ix_seq p_ix (jb_var 1 (pv 1)) (jb je_int) (fun _ _ => rfl))))) jds_nil))))))))
theorem sc__law_start : FnScope ["script"] ["script"] (defScope t__law_start) := ⟨rfl, rfl, rfl, by decide +kernel, rfl, by decide +kernel, by decide +kernel⟩
theorem ok__law_start (T : Tb K mg fd) (IH : Ok P w K mg base fd ct n k) : FnOk P w K mg base CX0 (k + 1) (He.ga K "_law_start") (fd 8) ["script"] (spOf ⟨K, ct⟩ (runB 1 1 (b__law_start (cf n k) n))) := by
  refine Fw.fn_ok (N := ["script"]) sc__law_start (fun len hb => (T.fn 8 rfl).F.ok sc__law_start len hb) (by decide) fun cdv A outer s' H E B hr => ?_
  have hx : ∀ σ, PassesAt CX0 (cxOf CX0 P w K mg base ["script"] "_law_start" (defScope t__law_start) (He.ga K "_law_start") cdv A outer s' H E) σ (fun cls d H => E cls d H) := fun σ => passN
  exact
(js_one (js_ret (je_lst (jds_cons (jd (je_T call_list_of p_lst (by rfl) (T.fr "list" rfl) boot_list (jbs_cons (jb_var 0 (pv 0)) jbs_nil))) (jds_cons (jd je_int) (jds_cons (jd je_int) (jds_cons (jd je_int) jds_nil)))))))
theorem sc__law_draw : FnScope ["state", "most", "cell", "mixed", "found"] ["state", "most"] (defScope t__law_draw) := ⟨rfl, rfl, rfl, by decide +kernel, rfl, by decide +kernel, by decide +kernel⟩
theorem ok__law_draw (T : Tb K mg fd) (IH : Ok P w K mg base fd ct n k) : FnOk P w K mg base CX0 (k + 1) (He.ga K "_law_draw") (fd 9) ["state", "most"] (spOf ⟨K, ct⟩ (runB 5 2 (b__law_draw (cf n k) n))) := by
  refine Fw.fn_ok (N := ["state", "most", "cell", "mixed", "found"]) sc__law_draw (fun len hb => (T.fn 9 rfl).F.ok sc__law_draw len hb) (by decide) fun cdv A outer s' H E B hr => ?_
  have hx : ∀ σ, PassesAt CX0 (cxOf CX0 P w K mg base ["state", "most", "cell", "mixed", "found"] "_law_draw" (defScope t__law_draw) (He.ga K "_law_draw") cdv A outer s' H E) σ (fun cls d H => E cls d H) := fun σ => passN
  exact
(js_cons (js_setIx (jd (je_bin op_addX p_add (jb (je_ix ix_seq p_ix (jb_var 0 (pv 0)) (jb je_int) (fun _ _ => rfl))) (jb je_int))) (jb_var 0 (pv 0)) (jb je_int))
(js_cons (js_if (jt_cmp op_gt p_gt (jb (je_ix ix_seq p_ix (jb_var 0 (pv 0)) (jb je_int) (fun _ _ => rfl))) (jb je_int) (nomark _))
(js_cons (js_set 4 sc__law_draw.nd rfl (by first | exact Or.inl rfl | exact Or.inr rfl) (je_bin op_mod p_mod (jb (je_T call_int1 p_int (by rfl) (T.fr "int" rfl) boot_int (jbs_cons (jb (je_ix ix_seq p_ix (jb_var 0 (pv 0)) (jb je_int) (fun _ _ => rfl))) jbs_nil))) (jb_var 1 (pv 1))))
(js_cons (js_setIx (jd (je_bin op_fdivW p_div (jb (je_ix ix_seq p_ix (jb_var 0 (pv 0)) (jb je_int) (fun _ _ => rfl))) (jb_var 1 (pv 1)))) (jb_var 0 (pv 0)) (jb je_int))
(js_one (js_retV 4 (pv 4)))))
js_nil)
(js_cons (js_set 2 sc__law_draw.nd rfl (by first | exact Or.inl rfl | exact Or.inr rfl) je_int)
(js_cons (js_if (jt_cmp op_gt p_gt (jb (je_B call_len p_len (by rfl) (T.fr "len" rfl) boot_len (jbs_cons (jb (je_ix ix_seq p_ix (jb_var 0 (pv 0)) (jb je_int) (fun _ _ => rfl))) jbs_nil))) (jb je_int) (nomark _))
(js_one (js_set 2 sc__law_draw.nd rfl (by first | exact Or.inl rfl | exact Or.inr rfl) (je_B call_abs p_abs (by rfl) (T.fr "abs" rfl) boot_abs (jbs_cons (jb (je_ix ix_seq p_ix (jb (je_ix ix_seq p_ix (jb_var 0 (pv 0)) (jb je_int) (fun _ _ => rfl))) (jb (je_bin op_mod p_mod (jb (je_T call_int1 p_int (by rfl) (T.fr "int" rfl) boot_int (jbs_cons (jb (je_ix ix_seq p_ix (jb_var 0 (pv 0)) (jb je_int) (fun _ _ => rfl))) jbs_nil))) (jb (je_B call_len p_len (by rfl) (T.fr "len" rfl) boot_len (jbs_cons (jb (je_ix ix_seq p_ix (jb_var 0 (pv 0)) (jb je_int) (fun _ _ => rfl))) jbs_nil))))) (fun _ _ => rfl))) jbs_nil))))
js_nil)
(js_cons (js_setIx (jd (je_bin op_addX p_add (jb (je_ix ix_seq p_ix (jb_var 0 (pv 0)) (jb je_int) (fun _ _ => rfl))) (jb je_int))) (jb_var 0 (pv 0)) (jb je_int))
(js_cons (js_if (jt_cmp op_ge p_ge (jb_var 2 (pv 2)) (jb (je_bin op_pow p_pow (jb je_int) (jb je_int))) (nomark _))
(js_cons (js_setIx (jd (je_bin op_fdivW p_div (jb_var 2 (pv 2)) (jb_var 1 (pv 1)))) (jb_var 0 (pv 0)) (jb je_int))
(js_one (js_ret (je_bin op_mod p_mod (jb (je_T call_int1 p_int (by rfl) (T.fr "int" rfl) boot_int (jbs_cons (jb_var 2 (pv 2)) jbs_nil))) (jb_var 1 (pv 1))))))
js_nil)
(js_cons (js_set 3 sc__law_draw.nd rfl (by first | exact Or.inl rfl | exact Or.inr rfl) (je_bin op_mod p_mod (jb (je_T call_int1 p_int (by rfl) (T.fr "int" rfl) boot_int (jbs_cons (jb (je_bin op_addX p_add (jb (je_bin op_mulX p_mul (jb (je_bin op_addX p_add (jb_var 2 (pv 2)) (jb je_int))) (jb je_int))) (jb (je_bin op_mulX p_mul (jb (je_ix ix_seq p_ix (jb_var 0 (pv 0)) (jb je_int) (fun _ _ => rfl))) (jb je_int))))) jbs_nil))) (jb je_int)))
(js_cons (js_set 3 sc__law_draw.nd rfl (by first | exact Or.inl rfl | exact Or.inr rfl) (je_bin op_mod p_mod (jb (je_T call_int1 p_int (by rfl) (T.fr "int" rfl) boot_int (jbs_cons (jb (je_bin op_addX p_add (jb (je_bin op_addX p_add (jb (je_bin op_mulX p_mul (jb_var 3 (pv 3)) (jb je_int))) (jb (je_bin op_fdivW p_div (jb_var 2 (pv 2)) (jb je_int))))) (jb (je_ix ix_seq p_ix (jb_var 0 (pv 0)) (jb je_int) (fun _ _ => rfl))))) jbs_nil))) (jb je_int)))
(js_one (js_ret (je_bin op_mod p_mod (jb (je_bin op_fdivW p_div (jb_var 3 (pv 3)) (jb je_int))) (jb_var 1 (pv 1)))))))))))))
theorem sc__law_is_int : FnScope ["x"] ["x"] (defScope t__law_is_int) := ⟨rfl, rfl, rfl, by decide +kernel, rfl, by decide +kernel, by decide +kernel⟩
theorem ok__law_is_int (T : Tb K mg fd) (IH : Ok P w K mg base fd ct n k) : FnOk P w K mg base CX0 (k + 1) (He.ga K "_law_is_int") (fd 10) ["x"] (spOf ⟨K, ct⟩ (runB 1 1 (b__law_is_int (cf n k) n))) := by
  refine Fw.fn_ok (N := ["x"]) sc__law_is_int (fun len hb => (T.fn 10 rfl).F.ok sc__law_is_int len hb) (by decide) fun cdv A outer s' H E B hr => ?_
  have hx : ∀ σ, PassesAt CX0 (cxOf CX0 P w K mg base ["x"] "_law_is_int" (defScope t__law_is_int) (He.ga K "_law_is_int") cdv A outer s' H E) σ (fun cls d H => E cls d H) := fun σ => passN
  exact
(js_one (js_ret (je_and (je_isi (by rfl) (T.fr "isinstance" rfl) boot_isinstance (jb_var 0 (pv 0)) (pe_bltn (v := .ty "int") (by rfl) (T.fr "int" rfl) boot_int rfl)) (je_one (je_not (je_isi (by rfl) (T.fr "isinstance" rfl) boot_isinstance (jb_var 0 (pv 0)) (pe_bltn (v := .ty "bool") (by rfl) (T.fr "bool" rfl) boot_bool rfl)))))))
theorem sc__law_same : FnScope ["x", "y", "k"] ["x", "y"] (defScope t__law_same) := ⟨rfl, rfl, rfl, by decide +kernel, rfl, by decide +kernel, by decide +kernel⟩
theorem ok__law_same (T : Tb K mg fd) (IH : Ok P w K mg base fd ct n k) : FnOk P w K mg base CX0 (k + 1) (He.ga K "_law_same") (fd 11) ["x", "y"] (spOf ⟨K, ct⟩ (runB 3 2 (b__law_same (cf n k) n))) := by
  refine Fw.fn_ok (N := ["x", "y", "k"]) sc__law_same (fun len hb => (T.fn 11 rfl).F.ok sc__law_same len hb) (by decide) fun cdv A outer s' H E B hr => ?_
  have hx : ∀ σ, PassesAt CX0 (cxOf CX0 P w K mg base ["x", "y", "k"] "_law_same" (defScope t__law_same) (He.ga K "_law_same") cdv A outer s' H E) σ (fun cls d H => E cls d H) := fun σ => passN
  exact
(js_cons (js_if (jt_val (je_isi (by rfl) (T.fr "isinstance" rfl) boot_isinstance (jb_var 1 (pv 1)) (pe_bltn (v := .ty "tuple") (by rfl) (T.fr "tuple" rfl) boot_tuple rfl)))
(js_cons (js_if (jt_w (jw_or (jt_not (jt_val (je_isi (by rfl) (T.fr "isinstance" rfl) boot_isinstance (jb_var 0 (pv 0)) (pe_bltn (v := .ty "tuple") (by rfl) (T.fr "tuple" rfl) boot_tuple rfl)))) (jw_or1 (jt_cmp (op_neD hr.units) p_ne (jb (je_B call_len p_len (by rfl) (T.fr "len" rfl) boot_len (jbs_cons (jb_var 0 (pv 0)) jbs_nil))) (jb (je_B call_len p_len (by rfl) (T.fr "len" rfl) boot_len (jbs_cons (jb_var 1 (pv 1)) jbs_nil))) (nomark _)))))
(js_one (js_ret je_bl))
js_nil)
(js_one (js_ret (je_B (cr_all rfl) p_all (by rfl) (T.fr "all" rfl) boot_all (jbs_cons (jb (je_lc rfl sc__law_same.nd (ji_range1 (by rfl) (T.fr "range" rfl) (jds_cons (jd (je_B call_len p_len (by rfl) (T.fr "len" rfl) boot_len (jbs_cons (jb_var 1 (pv 1)) jbs_nil))) jds_nil)) (blkOk_by (own := [("k", 2)]) (by rfl)) (fun _ _ _ _ _ _ => (jg_name 2 sc__law_same.nd rfl (by first | exact Or.inl rfl | exact Or.inr rfl))) (fun _ _ _ _ _ _ => jts_nil) (fun _ _ _ _ _ _ => (jd (je_call (IH 11 rfl) hr (by rfl) (T.fn 11 rfl).mg (T.fn 11 rfl).F.kp (T.fn 11 rfl).b .nil (fun _ _ => .nil) passN' (jds_cons (jd (je_ix ix_seq p_ix (jb_var 0 (pv 0)) (jb_var 2 (pv 2)) (fun _ _ => rfl))) (jds_cons (jd (je_ix ix_seq p_ix (jb_var 1 (pv 1)) (jb_var 2 (pv 2)) (fun _ _ => rfl))) jds_nil))))))) jbs_nil)))))
js_nil)
(js_cons (js_if (jt_val (je_isi (by rfl) (T.fr "isinstance" rfl) boot_isinstance (jb_var 1 (pv 1)) (pe_bltn (v := .ty "str") (by rfl) (T.fr "str" rfl) boot_str rfl)))
(js_one (js_ret (je_and (je_isi (by rfl) (T.fr "isinstance" rfl) boot_isinstance (jb_var 0 (pv 0)) (pe_bltn (v := .ty "str") (by rfl) (T.fr "str" rfl) boot_str rfl)) (je_one (je_cmp (op_eqD hr.units) p_eq (jb_var 0 (pv 0)) (jb_var 1 (pv 1)) (nomark _))))))
js_nil)
(js_one (js_ret (je_and (je_call (IH 10 rfl) hr (by rfl) (T.fn 10 rfl).mg (T.fn 10 rfl).F.kp (T.fn 10 rfl).b .nil (fun _ _ => .nil) hx (jds_cons (jd (je_var 0 (pv 0))) jds_nil)) (je_one (je_cmp (op_eqD hr.units) p_eq (jb_var 0 (pv 0)) (jb_var 1 (pv 1)) (nomark _))))))))
theorem sc__law_fraction : FnScope ["p", "q", "one", "other", "turn", "rest"] ["p", "q"] (defScope t__law_fraction) := ⟨rfl, rfl, rfl, by decide +kernel, rfl, by decide +kernel, by decide +kernel⟩
theorem ok__law_fraction (T : Tb K mg fd) (IH : Ok P w K mg base fd ct n k) : FnOk P w K mg base CX0 (k + 1) (He.ga K "_law_fraction") (fd 12) ["p", "q"] (spOf ⟨K, ct⟩ (runB 6 2 (b__law_fraction (cf n k) n))) := by
  refine Fw.fn_ok (N := ["p", "q", "one", "other", "turn", "rest"]) sc__law_fraction (fun len hb => (T.fn 12 rfl).F.ok sc__law_fraction len hb) (by decide) fun cdv A outer s' H E B hr => ?_
  have hx : ∀ σ, PassesAt CX0 (cxOf CX0 P w K mg base ["p", "q", "one", "other", "turn", "rest"] "_law_fraction" (defScope t__law_fraction) (He.ga K "_law_fraction") cdv A outer s' H E) σ (fun cls d H => E cls d H) := fun σ => passN
  exact
(js_cons (js_set 2 sc__law_fraction.nd rfl (by first | exact Or.inl rfl | exact Or.inr rfl) (je_B call_abs p_abs (by rfl) (T.fr "abs" rfl) boot_abs (jbs_cons (jb_var 0 (pv 0)) jbs_nil)))
(js_cons (js_set 3 sc__law_fraction.nd rfl (by first | exact Or.inl rfl | exact Or.inr rfl) (je_var 1 (pv 1)))
(js_cons (js_for (passes_of rfl) rfl (ji_range1 (by rfl) (T.fr "range" rfl) (jds_cons (jd je_int) jds_nil)) (jg_name 4 sc__law_fraction.nd rfl (by first | exact Or.inl rfl | exact Or.inr rfl))
(js_cons (js_if (jt_cmp (op_eqD hr.units) p_eq (jb_var 3 (pv 3)) (jb je_int) (nomark _))
(js_one js_brk)
js_nil)
(js_cons (js_set 5 sc__law_fraction.nd rfl (by first | exact Or.inl rfl | exact Or.inr rfl) (je_bin op_sub p_sub (jb_var 2 (pv 2)) (jb (je_bin op_mulX p_mul (jb (je_bin op_fdivW p_div (jb_var 2 (pv 2)) (jb_var 3 (pv 3)))) (jb_var 3 (pv 3))))))
(js_cons (js_set 2 sc__law_fraction.nd rfl (by first | exact Or.inl rfl | exact Or.inr rfl) (je_var 3 (pv 3)))
(js_one (js_set 3 sc__law_fraction.nd rfl (by first | exact Or.inl rfl | exact Or.inr rfl) (je_var 5 (pv 5))))))))
(js_one (js_ret (je_tup (jds_cons (jd (je_bin op_fdivW p_div (jb_var 0 (pv 0)) (jb_var 2 (pv 2)))) (jds_cons (jd (je_bin op_fdivW p_div (jb_var 1 (pv 1)) (jb_var 2 (pv 2)))) jds_nil))))))))
theorem sc__law_added : FnScope ["f", "g"] ["f", "g"] (defScope t__law_added) := ⟨rfl, rfl, rfl, by decide +kernel, rfl, by decide +kernel, by decide +kernel⟩
theorem ok__law_added (T : Tb K mg fd) (IH : Ok P w K mg base fd ct n k) : FnOk P w K mg base CX0 (k + 1) (He.ga K "_law_added") (fd 13) ["f", "g"] (spOf ⟨K, ct⟩ (runB 2 2 (b__law_added (cf n k) n))) := by
  refine Fw.fn_ok (N := ["f", "g"]) sc__law_added (fun len hb => (T.fn 13 rfl).F.ok sc__law_added len hb) (by decide) fun cdv A outer s' H E B hr => ?_
  have hx : ∀ σ, PassesAt CX0 (cxOf CX0 P w K mg base ["f", "g"] "_law_added" (defScope t__law_added) (He.ga K "_law_added") cdv A outer s' H E) σ (fun cls d H => E cls d H) := fun σ => passN
  exact
(js_one (js_ret (je_call (IH 12 rfl) hr (by rfl) (T.fn 12 rfl).mg (T.fn 12 rfl).F.kp (T.fn 12 rfl).b .nil (fun _ _ => .nil) hx (jds_cons (jd (je_bin op_addX p_add (jb (je_bin op_mulX p_mul (jb (je_ix ix_seq p_ix (jb_var 0 (pv 0)) (jb je_int) (fun _ _ => rfl))) (jb (je_ix ix_seq p_ix (jb_var 1 (pv 1)) (jb je_int) (fun _ _ => rfl))))) (jb (je_bin op_mulX p_mul (jb (je_ix ix_seq p_ix (jb_var 1 (pv 1)) (jb je_int) (fun _ _ => rfl))) (jb (je_ix ix_seq p_ix (jb_var 0 (pv 0)) (jb je_int) (fun _ _ => rfl))))))) (jds_cons (jd (je_bin op_mulX p_mul (jb (je_ix ix_seq p_ix (jb_var 0 (pv 0)) (jb je_int) (fun _ _ => rfl))) (jb (je_ix ix_seq p_ix (jb_var 1 (pv 1)) (jb je_int) (fun _ _ => rfl))))) jds_nil)))))
theorem sc__law_number : FnScope ["state", "pick"] ["state"] (defScope t__law_number) := ⟨rfl, rfl, rfl, by decide +kernel, rfl, by decide +kernel, by decide +kernel⟩
theorem ok__law_number (T : Tb K mg fd) (IH : Ok P w K mg base fd ct n k) : FnOk P w K mg base CX0 (k + 1) (He.ga K "_law_number") (fd 14) ["state"] (spOf ⟨K, ct⟩ (runB 2 1 (b__law_number (cf n k) n))) := by
  refine Fw.fn_ok (N := ["state", "pick"]) sc__law_number (fun len hb => (T.fn 14 rfl).F.ok sc__law_number len hb) (by decide) fun cdv A outer s' H E B hr => ?_
  have hx : ∀ σ, PassesAt CX0 (cxOf CX0 P w K mg base ["state", "pick"] "_law_number" (defScope t__law_number) (He.ga K "_law_number") cdv A outer s' H E) σ (fun cls d H => E cls d H) := fun σ => passN
  exact
(js_cons (js_set 1 sc__law_number.nd rfl (by first | exact Or.inl rfl | exact Or.inr rfl) (je_call (IH 9 rfl) hr (by rfl) (T.fn 9 rfl).mg (T.fn 9 rfl).F.kp (T.fn 9 rfl).b .nil (fun _ _ => .nil) hx (jds_cons (jd (je_var 0 (pv 0))) (jds_cons (jd je_int) jds_nil))))
(js_cons (js_if (jt_cmp (op_eqD hr.units) p_eq (jb_var 1 (pv 1)) (jb je_int) (nomark _))
(js_one (js_ret (je_bin op_sub p_sub (jb (je_bin op_mulX p_mul (jb (je_call (IH 9 rfl) hr (by rfl) (T.fn 9 rfl).mg (T.fn 9 rfl).F.kp (T.fn 9 rfl).b .nil (fun _ _ => .nil) hx (jds_cons (jd (je_var 0 (pv 0))) (jds_cons (jd (je_bin op_pow p_pow (jb je_int) (jb je_int))) jds_nil)))) (jb (je_bin op_pow p_pow (jb je_int) (jb je_int))))) (jb (je_bin op_pow p_pow (jb je_int) (jb je_int))))))
js_nil)
(js_one (js_ret (je_bin op_sub p_sub (jb (je_call (IH 9 rfl) hr (by rfl) (T.fn 9 rfl).mg (T.fn 9 rfl).F.kp (T.fn 9 rfl).b .nil (fun _ _ => .nil) hx (jds_cons (jd (je_var 0 (pv 0))) (jds_cons (jd (je_ix ix_seq p_ix (jb (je_lst (jds_cons (jd je_int) (jds_cons (jd je_int) (jds_cons (jd je_int) jds_nil))))) (jb (je_bin op_sub p_sub (jb_var 1 (pv 1)) (jb je_int))) (fun _ _ => rfl))) jds_nil)))) (jb (je_ix ix_seq p_ix (jb (je_lst (jds_cons (jd je_int) (jds_cons (jd je_int) (jds_cons (jd je_int) jds_nil))))) (jb (je_bin op_sub p_sub (jb_var 1 (pv 1)) (jb je_int))) (fun _ _ => rfl))))))))
theorem sc__law_end : FnScope ["state", "many", "arrays", "results", "rows", "k", "j"] ["state", "many", "arrays"] (defScope t__law_end) := ⟨rfl, rfl, rfl, by decide +kernel, rfl, by decide +kernel, by decide +kernel⟩
theorem ok__law_end (T : Tb K mg fd) (IH : Ok P w K mg base fd ct n k) : FnOk P w K mg base CX0 (k + 1) (He.ga K "_law_end") (fd 15) ["state", "many", "arrays"] (spOf ⟨K, ct⟩ (runB 7 3 (b__law_end (cf n k) n))) := by
  refine Fw.fn_ok (N := ["state", "many", "arrays", "results", "rows", "k", "j"]) sc__law_end (fun len hb => (T.fn 15 rfl).F.ok sc__law_end len hb) (by decide) fun cdv A outer s' H E B hr => ?_
  have hx : ∀ σ, PassesAt CX0 (cxOf CX0 P w K mg base ["state", "many", "arrays", "results", "rows", "k", "j"] "_law_end" (defScope t__law_end) (He.ga K "_law_end") cdv A outer s' H E) σ (fun cls d H => E cls d H) := fun σ => passN
  exact
(js_cons (js_set 3 sc__law_end.nd rfl (by first | exact Or.inl rfl | exact Or.inr rfl) (je_T call_tuple_of p_tup (by rfl) (T.fr "tuple" rfl) boot_tuple (jbs_cons (jb (je_lc rfl sc__law_end.nd (ji_range1 (by rfl) (T.fr "range" rfl) (jds_cons (jd (je_var 1 (pv 1))) jds_nil)) (blkOk_by (own := [("k", 5)]) (by rfl)) (fun _ _ _ _ _ _ => (jg_name 5 sc__law_end.nd rfl (by first | exact Or.inl rfl | exact Or.inr rfl))) (fun _ _ _ _ _ _ => jts_nil) (fun _ _ _ _ _ _ => (jd (je_call (IH 14 rfl) hr (by rfl) (T.fn 14 rfl).mg (T.fn 14 rfl).F.kp (T.fn 14 rfl).b .nil (fun _ _ => .nil) passN' (jds_cons (jd (je_var 0 (pv 0))) jds_nil)))))) jbs_nil)))
(js_cons (js_set 4 sc__law_end.nd rfl (by first | exact Or.inl rfl | exact Or.inr rfl) (je_lst jds_nil))
(js_cons (js_for (passes_of rfl) rfl (ji_range1 (by rfl) (T.fr "range" rfl) (jds_cons (jd (je_var 2 (pv 2))) jds_nil)) (jg_name 5 sc__law_end.nd rfl (by first | exact Or.inl rfl | exact Or.inr rfl))
(js_one (js_drop (je_meth PySem.F.slot_list_append PySem.F.type_list_append mt_append k_app (jb_var 4 (pv 4)) (jd (je_T call_tuple_of p_tup (by rfl) (T.fr "tuple" rfl) boot_tuple (jbs_cons (jb (je_lc rfl sc__law_end.nd (ji_range1 (by rfl) (T.fr "range" rfl) (jds_cons (jd (je_call (IH 9 rfl) hr (by rfl) (T.fn 9 rfl).mg (T.fn 9 rfl).F.kp (T.fn 9 rfl).b .nil (fun _ _ => .nil) hx (jds_cons (jd (je_var 0 (pv 0))) (jds_cons (jd je_int) jds_nil)))) jds_nil)) (blkOk_by (own := [("j", 6)]) (by rfl)) (fun _ _ _ _ _ _ => (jg_name 6 sc__law_end.nd rfl (by first | exact Or.inl rfl | exact Or.inr rfl))) (fun _ _ _ _ _ _ => jts_nil) (fun _ _ _ _ _ _ => (jd (je_bin op_sub p_sub (jb (je_call (IH 9 rfl) hr (by rfl) (T.fn 9 rfl).mg (T.fn 9 rfl).F.kp (T.fn 9 rfl).b .nil (fun _ _ => .nil) passN' (jds_cons (jd (je_var 0 (pv 0))) (jds_cons (jd je_int) jds_nil)))) (jb je_int)))))) jbs_nil)))))))
(js_one (js_ret (je_tup (jds_cons (jd je_str) (jds_cons (jd (je_call (IH 9 rfl) hr (by rfl) (T.fn 9 rfl).mg (T.fn 9 rfl).F.kp (T.fn 9 rfl).b .nil (fun _ _ => .nil) hx (jds_cons (jd (je_var 0 (pv 0))) (jds_cons (jd (je_ix ix_seq p_ix (jb (je_lst (jds_cons (jd je_int) (jds_cons (jd je_int) jds_nil)))) (jb (je_call (IH 9 rfl) hr (by rfl) (T.fn 9 rfl).mg (T.fn 9 rfl).F.kp (T.fn 9 rfl).b .nil (fun _ _ => .nil) hx (jds_cons (jd (je_var 0 (pv 0))) (jds_cons (jd je_int) jds_nil)))) (fun _ _ => rfl))) jds_nil)))) (jds_cons (jd (je_var 3 (pv 3))) (jds_cons (jd (je_T call_tuple_of p_tup (by rfl) (T.fr "tuple" rfl) boot_tuple (jbs_cons (jb_var 4 (pv 4)) jbs_nil))) jds_nil))))))))))
theorem sc__law_rows : FnScope ["state", "many", "ends", "arrays", "k", "weights", "whole", "end"] ["state", "many"] (defScope t__law_rows) := ⟨rfl, rfl, rfl, by decide +kernel, rfl, by decide +kernel, by decide +kernel⟩
theorem ok__law_rows (T : Tb K mg fd) (IH : Ok P w K mg base fd ct n k) : FnOk P w K mg base CX0 (k + 1) (He.ga K "_law_rows") (fd 16) ["state", "many"] (spOf ⟨K, ct⟩ (runB 8 2 (b__law_rows (cf n k) n))) := by
  refine Fw.fn_ok (N := ["state", "many", "ends", "arrays", "k", "weights", "whole", "end"]) sc__law_rows (fun len hb => (T.fn 16 rfl).F.ok sc__law_rows len hb) (by decide) fun cdv A outer s' H E B hr => ?_
  have hx : ∀ σ, PassesAt CX0 (cxOf CX0 P w K mg base ["state", "many", "ends", "arrays", "k", "weights", "whole", "end"] "_law_rows" (defScope t__law_rows) (He.ga K "_law_rows") cdv A outer s' H E) σ (fun cls d H => E cls d H) := fun σ => passN
  exact
(js_cons (js_set 2 sc__law_rows.nd rfl (by first | exact Or.inl rfl | exact Or.inr rfl) (je_lst jds_nil))
(js_cons (js_set 3 sc__law_rows.nd rfl (by first | exact Or.inl rfl | exact Or.inr rfl) (je_call (IH 9 rfl) hr (by rfl) (T.fn 9 rfl).mg (T.fn 9 rfl).F.kp (T.fn 9 rfl).b .nil (fun _ _ => .nil) hx (jds_cons (jd (je_var 0 (pv 0))) (jds_cons (jd je_int) jds_nil))))
(js_cons (js_for (passes_of rfl) rfl (ji_range1 (by rfl) (T.fr "range" rfl) (jds_cons (jd (je_call (IH 9 rfl) hr (by rfl) (T.fn 9 rfl).mg (T.fn 9 rfl).F.kp (T.fn 9 rfl).b .nil (fun _ _ => .nil) hx (jds_cons (jd (je_var 0 (pv 0))) (jds_cons (jd je_int) jds_nil)))) jds_nil)) (jg_name 4 sc__law_rows.nd rfl (by first | exact Or.inl rfl | exact Or.inr rfl))
(js_cons (js_set 7 sc__law_rows.nd rfl (by first | exact Or.inl rfl | exact Or.inr rfl) (je_call (IH 15 rfl) hr (by rfl) (T.fn 15 rfl).mg (T.fn 15 rfl).F.kp (T.fn 15 rfl).b .nil (fun _ _ => .nil) hx (jds_cons (jd (je_var 0 (pv 0))) (jds_cons (jd (je_var 1 (pv 1))) (jds_cons (jd (je_var 3 (pv 3))) jds_nil)))))
(js_cons (js_if (jt_w (jw_and (jt_cmp (op_neD hr.units) p_ne (jb_var 2 (pv 2)) (jb (je_lst jds_nil)) (nomark _)) (jw_and1 (jt_cmp (op_eqD hr.units) p_eq (jb (je_call (IH 9 rfl) hr (by rfl) (T.fn 9 rfl).mg (T.fn 9 rfl).F.kp (T.fn 9 rfl).b .nil (fun _ _ => .nil) hx (jds_cons (jd (je_var 0 (pv 0))) (jds_cons (jd je_int) jds_nil)))) (jb je_int) (nomark _)))))
(js_one (js_set 7 sc__law_rows.nd rfl (by first | exact Or.inl rfl | exact Or.inr rfl) (je_tup (jds_cons (jd je_str) (jds_cons (jd (je_ix ix_seq p_ix (jb_var 7 (pv 7)) (jb je_int) (fun _ _ => rfl))) (jds_cons (jd (je_ix ix_seq p_ix (jb (je_ix ix_seq p_ix (jb_var 2 (pv 2)) (jb je_int) (fun _ _ => rfl))) (jb je_int) (fun _ _ => rfl))) (jds_cons (jd (je_ix ix_seq p_ix (jb_var 7 (pv 7)) (jb je_int) (fun _ _ => rfl))) jds_nil)))))))
js_nil)
(js_one (js_if (jt_cmp (op_notInD (u65 hr)) p_ninL (jb_var 7 (pv 7)) (jb_var 2 (pv 2)) rfl)
(js_one (js_drop (je_meth PySem.F.slot_list_append PySem.F.type_list_append mt_append k_app (jb_var 2 (pv 2)) (jd (je_var 7 (pv 7))))))
js_nil)))))
(js_cons (js_if (jt_w (jw_or (jt_cmp (op_eqD hr.units) p_eq (jb_var 2 (pv 2)) (jb (je_lst jds_nil)) (nomark _)) (jw_or1 (jt_cmp (op_eqD hr.units) p_eq (jb (je_call (IH 9 rfl) hr (by rfl) (T.fn 9 rfl).mg (T.fn 9 rfl).F.kp (T.fn 9 rfl).b .nil (fun _ _ => .nil) hx (jds_cons (jd (je_var 0 (pv 0))) (jds_cons (jd je_int) jds_nil)))) (jb je_int) (nomark _)))))
(js_one (js_drop (je_meth PySem.F.slot_list_append PySem.F.type_list_append mt_append k_app (jb_var 2 (pv 2)) (jd (je_tup (jds_cons (jd je_str) jds_nil))))))
js_nil)
(js_cons (js_set 2 sc__law_rows.nd rfl (by first | exact Or.inl rfl | exact Or.inr rfl) (je_B (cr_sortX (u70 hr)) p_sort (by rfl) (T.fr "sorted" rfl) boot_sorted (jbs_cons (jb_var 2 (pv 2)) jbs_nil)))
(js_cons (by first | exact (js_setLc 5 rfl sc__law_rows.nd rfl rfl (sw_true rfl rfl rfl (by decide +kernel)) (ji_seq (jd (je_var 2 (pv 2)))) (blkOk_by (own := [("end", 7)]) (by rfl)) (fun _ _ _ _ _ _ => (jg_name 7 sc__law_rows.nd rfl (by first | exact Or.inl rfl | exact Or.inr rfl))) (fun _ _ _ _ _ _ => jts_nil) (fun _ _ _ _ _ _ => (jd (je_bin op_addX p_add (jb je_int) (jb (je_call (IH 9 rfl) hr (by rfl) (T.fn 9 rfl).mg (T.fn 9 rfl).F.kp (T.fn 9 rfl).b .nil (fun _ _ => .nil) passN' (jds_cons (jd (je_var 0 (pv 0))) (jds_cons (jd (je_ix ix_seq p_ix (jb (je_lst (jds_cons (jd je_int) (jds_cons (jd je_int) (jds_cons (jd (je_bin op_pow p_pow (jb je_int) (jb je_int))) jds_nil))))) (jb (je_call (IH 9 rfl) hr (by rfl) (T.fn 9 rfl).mg (T.fn 9 rfl).F.kp (T.fn 9 rfl).b .nil (fun _ _ => .nil) passN' (jds_cons (jd (je_var 0 (pv 0))) (jds_cons (jd je_int) jds_nil)))) (fun _ _ => rfl))) jds_nil)))))))) | exact (js_set 5 sc__law_rows.nd rfl (by first | exact Or.inl rfl | exact Or.inr rfl) (je_lc rfl sc__law_rows.nd (ji_seq (jd (je_var 2 (pv 2)))) (blkOk_by (own := [("end", 7)]) (by rfl)) (fun _ _ _ _ _ _ => (jg_name 7 sc__law_rows.nd rfl (by first | exact Or.inl rfl | exact Or.inr rfl))) (fun _ _ _ _ _ _ => jts_nil) (fun _ _ _ _ _ _ => (jd (je_bin op_addX p_add (jb je_int) (jb (je_call (IH 9 rfl) hr (by rfl) (T.fn 9 rfl).mg (T.fn 9 rfl).F.kp (T.fn 9 rfl).b .nil (fun _ _ => .nil) passN' (jds_cons (jd (je_var 0 (pv 0))) (jds_cons (jd (je_ix ix_seq p_ix (jb (je_lst (jds_cons (jd je_int) (jds_cons (jd je_int) (jds_cons (jd (je_bin op_pow p_pow (jb je_int) (jb je_int))) jds_nil))))) (jb (je_call (IH 9 rfl) hr (by rfl) (T.fn 9 rfl).mg (T.fn 9 rfl).F.kp (T.fn 9 rfl).b .nil (fun _ _ => .nil) passN' (jds_cons (jd (je_var 0 (pv 0))) (jds_cons (jd je_int) jds_nil)))) (fun _ _ => rfl))) jds_nil))))))))))
(js_cons (js_set 6 sc__law_rows.nd rfl (by first | exact Or.inl rfl | exact Or.inr rfl) (je_B (cr_sum rfl) p_sum (by rfl) (T.fr "sum" rfl) boot_sum (jbs_cons (jb_var 5 (pv 5)) jbs_nil)))
(js_one (js_ret (je_T call_tuple_of p_tup (by rfl) (T.fr "tuple" rfl) boot_tuple (jbs_cons (jb (je_lc rfl sc__law_rows.nd (ji_range1 (by rfl) (T.fr "range" rfl) (jds_cons (jd (je_B call_len p_len (by rfl) (T.fr "len" rfl) boot_len (jbs_cons (jb_var 2 (pv 2)) jbs_nil))) jds_nil)) (blkOk_by (own := [("k", 4)]) (by rfl)) (fun _ _ _ _ _ _ => (jg_name 4 sc__law_rows.nd rfl (by first | exact Or.inl rfl | exact Or.inr rfl))) (fun _ _ _ _ _ _ => jts_nil) (fun _ _ _ _ _ _ => (jd (je_tup (jds_cons (jd (je_ix ix_seq p_ix (jb_var 2 (pv 2)) (jb_var 4 (pv 4)) (fun _ _ => rfl))) (jds_cons (jd (je_call (IH 12 rfl) hr (by rfl) (T.fn 12 rfl).mg (T.fn 12 rfl).F.kp (T.fn 12 rfl).b .nil (fun _ _ => .nil) passN' (jds_cons (jd (je_ix ix_seq p_ix (jb_var 5 (pv 5)) (jb_var 4 (pv 4)) (fun _ _ => rfl))) (jds_cons (jd (je_var 6 (pv 6))) jds_nil)))) jds_nil))))))) jbs_nil)))))))))))
theorem sc__law_total : FnScope ["rows", "factors", "total", "k"] ["rows", "factors"] (defScope t__law_total) := ⟨rfl, rfl, rfl, by decide +kernel, rfl, by decide +kernel, by decide +kernel⟩
theorem ok__law_total (T : Tb K mg fd) (IH : Ok P w K mg base fd ct n k) : FnOk P w K mg base CX0 (k + 1) (He.ga K "_law_total") (fd 17) ["rows", "factors"] (spOf ⟨K, ct⟩ (runB 4 2 (b__law_total (cf n k) n))) := by
  refine Fw.fn_ok (N := ["rows", "factors", "total", "k"]) sc__law_total (fun len hb => (T.fn 17 rfl).F.ok sc__law_total len hb) (by decide) fun cdv A outer s' H E B hr => ?_
  have hx : ∀ σ, PassesAt CX0 (cxOf CX0 P w K mg base ["rows", "factors", "total", "k"] "_law_total" (defScope t__law_total) (He.ga K "_law_total") cdv A outer s' H E) σ (fun cls d H => E cls d H) := fun σ => passN
  exact
(js_cons (js_set 2 sc__law_total.nd rfl (by first | exact Or.inl rfl | exact Or.inr rfl) (je_tup (jds_cons (jd je_int) (jds_cons (jd je_int) jds_nil))))
(js_cons (js_for (passes_of rfl) rfl (ji_range1 (by rfl) (T.fr "range" rfl) (jds_cons (jd (je_B call_len p_len (by rfl) (T.fr "len" rfl) boot_len (jbs_cons (jb_var 0 (pv 0)) jbs_nil))) jds_nil)) (jg_name 3 sc__law_total.nd rfl (by first | exact Or.inl rfl | exact Or.inr rfl))
(js_one (js_set 2 sc__law_total.nd rfl (by first | exact Or.inl rfl | exact Or.inr rfl) (je_call (IH 13 rfl) hr (by rfl) (T.fn 13 rfl).mg (T.fn 13 rfl).F.kp (T.fn 13 rfl).b .nil (fun _ _ => .nil) hx (jds_cons (jd (je_var 2 (pv 2))) (jds_cons (jd (je_call (IH 12 rfl) hr (by rfl) (T.fn 12 rfl).mg (T.fn 12 rfl).F.kp (T.fn 12 rfl).b .nil (fun _ _ => .nil) hx (jds_cons (jd (je_bin op_mulX p_mul (jb (je_ix ix_seq p_ix (jb (je_ix ix_seq p_ix (jb (je_ix ix_seq p_ix (jb_var 0 (pv 0)) (jb_var 3 (pv 3)) (fun _ _ => rfl))) (jb je_int) (fun _ _ => rfl))) (jb je_int) (fun _ _ => rfl))) (jb (je_ix ix_seq p_ix (jb_var 1 (pv 1)) (jb_var 3 (pv 3)) (fun _ _ => rfl))))) (jds_cons (jd (je_ix ix_seq p_ix (jb (je_ix ix_seq p_ix (jb (je_ix ix_seq p_ix (jb_var 0 (pv 0)) (jb_var 3 (pv 3)) (fun _ _ => rfl))) (jb je_int) (fun _ _ => rfl))) (jb je_int) (fun _ _ => rfl))) jds_nil)))) jds_nil))))))
(js_one (js_retV 2 (pv 2)))))
theorem sc_law : FnScope ["script", "state", "many", "rows", "done", "ended", "count", "place", "others", "results", "due", "row", "k"] ["script"] (defScope t_law) := ⟨rfl, rfl, rfl, by decide +kernel, rfl, by decide +kernel, by decide +kernel⟩
theorem ok_law (T : Tb K mg fd) (IH : Ok P w K mg base fd ct n k) : FnOk P w K mg base CX0 (k + 1) (He.ga K "law") (fd 18) ["script"] (spOf ⟨K, ct⟩ (runB 13 1 (b_law (cf n k) n))) := by
  refine Fw.fn_ok (N := ["script", "state", "many", "rows", "done", "ended", "count", "place", "others", "results", "due", "row", "k"]) sc_law (fun len hb => (T.fn 18 rfl).F.ok sc_law len hb) (by decide) fun cdv A outer s' H E B hr => ?_
  have hx : ∀ σ, PassesAt CX0 (cxOf CX0 P w K mg base ["script", "state", "many", "rows", "done", "ended", "count", "place", "others", "results", "due", "row", "k"] "law" (defScope t_law) (He.ga K "law") cdv A outer s' H E) σ (fun cls d H => E cls d H) := fun σ => passN
  exact
(js_cons (js_setL 1 sc_law.nd rfl (by first | exact Or.inl rfl | exact Or.inr rfl) (je_call (IH 8 rfl) hr (by rfl) (T.fn 8 rfl).mg (T.fn 8 rfl).F.kp (T.fn 8 rfl).b .nil (fun _ _ => .nil) hx (jds_cons (jd (je_var 0 (pv 0))) jds_nil)))
(js_cons (js_set 2 sc_law.nd rfl (by first | exact Or.inl rfl | exact Or.inr rfl) (je_call (IH 9 rfl) hr (by rfl) (T.fn 9 rfl).mg (T.fn 9 rfl).F.kp (T.fn 9 rfl).b .nil (fun _ _ => .nil) hx (jds_cons (jd (je_var 1 (pv 1))) (jds_cons (jd je_int) jds_nil))))
(js_cons (js_set 3 sc_law.nd rfl (by first | exact Or.inl rfl | exact Or.inr rfl) (je_call (IH 16 rfl) hr (by rfl) (T.fn 16 rfl).mg (T.fn 16 rfl).F.kp (T.fn 16 rfl).b .nil (fun _ _ => .nil) hx (jds_cons (jd (je_var 1 (pv 1))) (jds_cons (jd (je_var 2 (pv 2))) jds_nil))))
(js_cons (by first | exact (js_setLc 4 rfl sc_law.nd rfl rfl (sw_true rfl rfl rfl (by decide +kernel)) (ji_seq (jd (je_var 3 (pv 3)))) (blkOk_by (own := [("row", 11)]) (by rfl)) (fun _ _ _ _ _ _ => (jg_name 11 sc_law.nd rfl (by first | exact Or.inl rfl | exact Or.inr rfl))) (fun _ _ _ _ _ _ => (jts_one (jt_cmp (op_neD hr.units) p_ne (jb (je_ix ix_seq p_ix (jb_var 11 (pv 11)) (jb je_int) (fun _ _ => rfl))) (jb (je_tup (jds_cons (jd je_str) jds_nil))) (nomark _)))) (fun _ _ _ _ _ _ => (jd (je_var 11 (pv 11))))) | exact (js_set 4 sc_law.nd rfl (by first | exact Or.inl rfl | exact Or.inr rfl) (je_lc rfl sc_law.nd (ji_seq (jd (je_var 3 (pv 3)))) (blkOk_by (own := [("row", 11)]) (by rfl)) (fun _ _ _ _ _ _ => (jg_name 11 sc_law.nd rfl (by first | exact Or.inl rfl | exact Or.inr rfl))) (fun _ _ _ _ _ _ => (jts_one (jt_cmp (op_neD hr.units) p_ne (jb (je_ix ix_seq p_ix (jb_var 11 (pv 11)) (jb je_int) (fun _ _ => rfl))) (jb (je_tup (jds_cons (jd je_str) jds_nil))) (nomark _)))) (fun _ _ _ _ _ _ => (jd (je_var 11 (pv 11)))))))
(js_cons (js_set 5 sc_law.nd rfl (by first | exact Or.inl rfl | exact Or.inr rfl) (je_call (IH 17 rfl) hr (by rfl) (T.fn 17 rfl).mg (T.fn 17 rfl).F.kp (T.fn 17 rfl).b .nil (fun _ _ => .nil) hx (jds_cons (jd (je_var 4 (pv 4))) (jds_cons (jd (je_lc rfl sc_law.nd (ji_seq (jd (je_var 4 (pv 4)))) (blkOk_by (own := [("row", 11)]) (by rfl)) (fun _ _ _ _ _ _ => (jg_name 11 sc_law.nd rfl (by first | exact Or.inl rfl | exact Or.inr rfl))) (fun _ _ _ _ _ _ => jts_nil) (fun _ _ _ _ _ _ => (jd je_int)))) jds_nil))))
(js_cons (js_set 6 sc_law.nd rfl (by first | exact Or.inl rfl | exact Or.inr rfl) (je_call (IH 17 rfl) hr (by rfl) (T.fn 17 rfl).mg (T.fn 17 rfl).F.kp (T.fn 17 rfl).b .nil (fun _ _ => .nil) hx (jds_cons (jd (je_var 4 (pv 4))) (jds_cons (jd (je_lc rfl sc_law.nd (ji_seq (jd (je_var 4 (pv 4)))) (blkOk_by (own := [("row", 11)]) (by rfl)) (fun _ _ _ _ _ _ => (jg_name 11 sc_law.nd rfl (by first | exact Or.inl rfl | exact Or.inr rfl))) (fun _ _ _ _ _ _ => jts_nil) (fun _ _ _ _ _ _ => (jd (je_ix ix_seq p_ix (jb (je_ix ix_seq p_ix (jb_var 11 (pv 11)) (jb je_int) (fun _ _ => rfl))) (jb je_int) (fun _ _ => rfl)))))) jds_nil))))
(js_cons (js_if (jt_w (jw_or (jt_not (jt_val (je_call (IH 11 rfl) hr (by rfl) (T.fn 11 rfl).mg (T.fn 11 rfl).F.kp (T.fn 11 rfl).b .nil (fun _ _ => .nil) hx (jds_cons (jd (je_call (IH 3 rfl) hr (by rfl) (T.fn 3 rfl).mg (T.fn 3 rfl).F.kp (T.fn 3 rfl).b .nil (fun _ _ => .nil) hx (jds_cons (jd (je_var 3 (pv 3))) jds_nil))) (jds_cons (jd (je_var 5 (pv 5))) jds_nil))))) (jw_or1 (jt_not (jt_val (je_call (IH 11 rfl) hr (by rfl) (T.fn 11 rfl).mg (T.fn 11 rfl).F.kp (T.fn 11 rfl).b .nil (fun _ _ => .nil) hx (jds_cons (jd (je_call (IH 4 rfl) hr (by rfl) (T.fn 4 rfl).mg (T.fn 4 rfl).F.kp (T.fn 4 rfl).b .nil (fun _ _ => .nil) hx (jds_cons (jd (je_var 3 (pv 3))) jds_nil))) (jds_cons (jd (je_var 6 (pv 6))) jds_nil))))))))
(js_one (js_ret je_bl))
js_nil)
(js_cons (js_for (passes_of rfl) rfl (ji_range1 (by rfl) (T.fr "range" rfl) (jds_cons (jd (je_var 2 (pv 2))) jds_nil)) (jg_name 7 sc_law.nd rfl (by first | exact Or.inl rfl | exact Or.inr rfl))
(js_one (js_if (jt_not (jt_val (je_call (IH 11 rfl) hr (by rfl) (T.fn 11 rfl).mg (T.fn 11 rfl).F.kp (T.fn 11 rfl).b .nil (fun _ _ => .nil) hx (jds_cons (jd (je_call (IH 5 rfl) hr (by rfl) (T.fn 5 rfl).mg (T.fn 5 rfl).F.kp (T.fn 5 rfl).b .nil (fun _ _ => .nil) hx (jds_cons (jd (je_var 3 (pv 3))) (jds_cons (jd (je_var 7 (pv 7))) jds_nil)))) (jds_cons (jd (je_call (IH 17 rfl) hr (by rfl) (T.fn 17 rfl).mg (T.fn 17 rfl).F.kp (T.fn 17 rfl).b .nil (fun _ _ => .nil) hx (jds_cons (jd (je_var 4 (pv 4))) (jds_cons (jd (je_lc rfl sc_law.nd (ji_seq (jd (je_var 4 (pv 4)))) (blkOk_by (own := [("row", 11)]) (by rfl)) (fun _ _ _ _ _ _ => (jg_name 11 sc_law.nd rfl (by first | exact Or.inl rfl | exact Or.inr rfl))) (fun _ _ _ _ _ _ => jts_nil) (fun _ _ _ _ _ _ => (jd (je_ix ix_seq p_ix (jb (je_ix ix_seq p_ix (jb (je_ix ix_seq p_ix (jb_var 11 (pv 11)) (jb je_int) (fun _ _ => rfl))) (jb je_int) (fun _ _ => rfl))) (jb_var 7 (pv 7)) (fun _ _ => rfl)))))) jds_nil)))) jds_nil)))))
(js_one (js_ret je_bl))
js_nil)))
(js_cons (js_set 8 sc_law.nd rfl (by first | exact Or.inl rfl | exact Or.inr rfl) (je_lst (jds_cons (jd (je_T call_tuple_of p_tup (by rfl) (T.fr "tuple" rfl) boot_tuple (jbs_cons (jb (je_lc rfl sc_law.nd (ji_range1 (by rfl) (T.fr "range" rfl) (jds_cons (jd (je_var 2 (pv 2))) jds_nil)) (blkOk_by (own := [("k", 12)]) (by rfl)) (fun _ _ _ _ _ _ => (jg_name 12 sc_law.nd rfl (by first | exact Or.inl rfl | exact Or.inr rfl))) (fun _ _ _ _ _ _ => jts_nil) (fun _ _ _ _ _ _ => (jd (je_call (IH 14 rfl) hr (by rfl) (T.fn 14 rfl).mg (T.fn 14 rfl).F.kp (T.fn 14 rfl).b .nil (fun _ _ => .nil) passN' (jds_cons (jd (je_var 1 (pv 1))) jds_nil)))))) jbs_nil))) (jds_cons (jd (je_T call_tuple_of p_tup (by rfl) (T.fr "tuple" rfl) boot_tuple (jbs_cons (jb (je_bin op_rep p_rep (jb (je_lst (jds_cons (jd je_int) jds_nil))) (jb_var 2 (pv 2)))) jbs_nil))) (jds_cons (jd (je_T call_tuple_of p_tup (by rfl) (T.fr "tuple" rfl) boot_tuple (jbs_cons (jb (je_bin op_rep p_rep (jb (je_lst (jds_cons (jd je_int) jds_nil))) (jb (je_bin op_addX p_add (jb_var 2 (pv 2)) (jb je_int))))) jbs_nil))) jds_nil)))))
(js_cons (js_for (passes_of rfl) rfl (ji_seq (jd (je_bin op_addX p_add (jb (je_lc rfl sc_law.nd (ji_seq (jd (je_var 4 (pv 4)))) (blkOk_by (own := [("row", 11)]) (by rfl)) (fun _ _ _ _ _ _ => (jg_name 11 sc_law.nd rfl (by first | exact Or.inl rfl | exact Or.inr rfl))) (fun _ _ _ _ _ _ => jts_nil) (fun _ _ _ _ _ _ => (jd (je_ix ix_seq p_ix (jb (je_ix ix_seq p_ix (jb_var 11 (pv 11)) (jb je_int) (fun _ _ => rfl))) (jb je_int) (fun _ _ => rfl)))))) (jb_var 8 (pv 8))))) (jg_name 9 sc_law.nd rfl (by first | exact Or.inl rfl | exact Or.inr rfl))
(js_cons (js_set 10 sc_law.nd rfl (by first | exact Or.inl rfl | exact Or.inr rfl) (je_call (IH 17 rfl) hr (by rfl) (T.fn 17 rfl).mg (T.fn 17 rfl).F.kp (T.fn 17 rfl).b .nil (fun _ _ => .nil) hx (jds_cons (jd (je_var 4 (pv 4))) (jds_cons (jd (je_lc rfl sc_law.nd (ji_seq (jd (je_var 4 (pv 4)))) (blkOk_by (own := [("row", 11)]) (by rfl)) (fun _ _ _ _ _ _ => (jg_name 11 sc_law.nd rfl (by first | exact Or.inl rfl | exact Or.inr rfl))) (fun _ _ _ _ _ _ => jts_nil) (fun _ _ _ _ _ _ => (jd (je_T call_int1 p_int (by rfl) (T.fr "int" rfl) boot_int (jbs_cons (jb (je_cmp (op_eqD hr.units) p_eq (jb (je_ix ix_seq p_ix (jb (je_ix ix_seq p_ix (jb_var 11 (pv 11)) (jb je_int) (fun _ _ => rfl))) (jb je_int) (fun _ _ => rfl))) (jb_var 9 (pv 9)) (nomark _))) jbs_nil)))))) jds_nil))))
(js_one (js_if (jt_not (jt_val (je_call (IH 11 rfl) hr (by rfl) (T.fn 11 rfl).mg (T.fn 11 rfl).F.kp (T.fn 11 rfl).b .nil (fun _ _ => .nil) hx (jds_cons (jd (je_call (IH 6 rfl) hr (by rfl) (T.fn 6 rfl).mg (T.fn 6 rfl).F.kp (T.fn 6 rfl).b .nil (fun _ _ => .nil) hx (jds_cons (jd (je_var 3 (pv 3))) (jds_cons (jd (je_var 9 (pv 9))) jds_nil)))) (jds_cons (jd (je_var 10 (pv 10))) jds_nil)))))
(js_one (js_ret je_bl))
js_nil))))
(js_cons (js_set 10 sc_law.nd rfl (by first | exact Or.inl rfl | exact Or.inr rfl) (je_tup jds_nil))
(js_cons (js_if (jt_cmp (op_neD hr.units) p_ne (jb_var 4 (pv 4)) (jb (je_lst jds_nil)) (nomark _))
(js_one (js_set 10 sc_law.nd rfl (by first | exact Or.inl rfl | exact Or.inr rfl) (je_call (IH 12 rfl) hr (by rfl) (T.fn 12 rfl).mg (T.fn 12 rfl).F.kp (T.fn 12 rfl).b .nil (fun _ _ => .nil) hx (jds_cons (jd (je_bin op_mulX p_mul (jb (je_ix ix_seq p_ix (jb_var 6 (pv 6)) (jb je_int) (fun _ _ => rfl))) (jb (je_ix ix_seq p_ix (jb_var 5 (pv 5)) (jb je_int) (fun _ _ => rfl))))) (jds_cons (jd (je_bin op_mulX p_mul (jb (je_ix ix_seq p_ix (jb_var 6 (pv 6)) (jb je_int) (fun _ _ => rfl))) (jb (je_ix ix_seq p_ix (jb_var 5 (pv 5)) (jb je_int) (fun _ _ => rfl))))) jds_nil)))))
js_nil)
(js_one (js_ret (je_call (IH 11 rfl) hr (by rfl) (T.fn 11 rfl).mg (T.fn 11 rfl).F.kp (T.fn 11 rfl).b .nil (fun _ _ => .nil) hx (jds_cons (jd (je_call (IH 7 rfl) hr (by rfl) (T.fn 7 rfl).mg (T.fn 7 rfl).F.kp (T.fn 7 rfl).b .nil (fun _ _ => .nil) hx (jds_cons (jd (je_var 3 (pv 3))) jds_nil))) (jds_cons (jd (je_var 10 (pv 10))) jds_nil)))))))))))))))))
theorem all_ok (T : Tb K mg fd) : ∀ k : Nat, Ok P w K mg base fd ct n k
  | 0 => fun j x st ps h => no_ok
  | k + 1 => fun j x st ps h => by
    have IH := all_ok T k
    match j, h with
    | 0, h => cases h; exact ok_fraction T IH
    | 1, h => cases h; exact ok_sum_of T IH
    | 2, h => cases h; exact ok_product_of T IH
    | 3, h => cases h; exact ok_share_ended T IH
    | 4, h => cases h; exact ok_mean_count T IH
    | 5, h => cases h; exact ok_mean_result T IH
    | 6, h => cases h; exact ok_share_of T IH
    | 7, h => cases h; exact ok_ended_mean T IH
    | 8, h => cases h; exact ok__law_start T IH
    | 9, h => cases h; exact ok__law_draw T IH
    | 10, h => cases h; exact ok__law_is_int T IH
    | 11, h => cases h; exact ok__law_same T IH
    | 12, h => cases h; exact ok__law_fraction T IH
    | 13, h => cases h; exact ok__law_added T IH
    | 14, h => cases h; exact ok__law_number T IH
    | 15, h => cases h; exact ok__law_end T IH
    | 16, h => cases h; exact ok__law_rows T IH
    | 17, h => cases h; exact ok__law_total T IH
    | 18, h => cases h; exact ok_law T IH
    | j + 19, h => exact nomatch h
end
/-! the head -/
def dfn : List He.DefD := [⟨("fraction", none), "fraction", "fraction", defArgs t_fraction, defBody t_fraction, defScope t_fraction, [], []⟩,
  ⟨("sum_of", none), "sum_of", "sum_of", defArgs t_sum_of, defBody t_sum_of, defScope t_sum_of, [], []⟩,
  ⟨("product_of", none), "product_of", "product_of", defArgs t_product_of, defBody t_product_of, defScope t_product_of, [], []⟩,
  ⟨("share_ended", none), "share_ended", "share_ended", defArgs t_share_ended, defBody t_share_ended, defScope t_share_ended, [], []⟩,
  ⟨("mean_count", none), "mean_count", "mean_count", defArgs t_mean_count, defBody t_mean_count, defScope t_mean_count, [], []⟩,
  ⟨("mean_result", none), "mean_result", "mean_result", defArgs t_mean_result, defBody t_mean_result, defScope t_mean_result, [], []⟩,
  ⟨("share_of", none), "share_of", "share_of", defArgs t_share_of, defBody t_share_of, defScope t_share_of, [], []⟩,
  ⟨("ended_mean", none), "ended_mean", "ended_mean", defArgs t_ended_mean, defBody t_ended_mean, defScope t_ended_mean, [], []⟩,
  ⟨("_law_start", none), "_law_start", "_law_start", defArgs t__law_start, defBody t__law_start, defScope t__law_start, [], []⟩,
  ⟨("_law_draw", none), "_law_draw", "_law_draw", defArgs t__law_draw, defBody t__law_draw, defScope t__law_draw, [], []⟩,
  ⟨("_law_is_int", none), "_law_is_int", "_law_is_int", defArgs t__law_is_int, defBody t__law_is_int, defScope t__law_is_int, [], []⟩,
  ⟨("_law_same", none), "_law_same", "_law_same", defArgs t__law_same, defBody t__law_same, defScope t__law_same, [], []⟩,
  ⟨("_law_fraction", none), "_law_fraction", "_law_fraction", defArgs t__law_fraction, defBody t__law_fraction, defScope t__law_fraction, [], []⟩,
  ⟨("_law_added", none), "_law_added", "_law_added", defArgs t__law_added, defBody t__law_added, defScope t__law_added, [], []⟩,
  ⟨("_law_number", none), "_law_number", "_law_number", defArgs t__law_number, defBody t__law_number, defScope t__law_number, [], []⟩,
  ⟨("_law_end", none), "_law_end", "_law_end", defArgs t__law_end, defBody t__law_end, defScope t__law_end, [], []⟩,
  ⟨("_law_rows", none), "_law_rows", "_law_rows", defArgs t__law_rows, defBody t__law_rows, defScope t__law_rows, [], []⟩,
  ⟨("_law_total", none), "_law_total", "_law_total", defArgs t__law_total, defBody t__law_total, defScope t__law_total, [], []⟩,
  ⟨("law", none), "law", "law", defArgs t_law, defBody t_law, defScope t_law, [], []⟩]
def fal : List He.Fa := [.glo "fraction", .glo "sum_of", .glo "product_of", .glo "share_ended", .glo "mean_count", .glo "mean_result", .glo "share_of", .glo "ended_mean", .glo "_law_start", .glo "_law_draw", .glo "_law_is_int", .glo "_law_same", .glo "_law_fraction", .glo "_law_added", .glo "_law_number", .glo "_law_end", .glo "_law_rows", .glo "_law_total", .glo "law", .free "abs", .free "all", .free "bool", .free "int", .free "isinstance", .free "len", .free "list", .free "range", .free "sorted", .free "str", .free "sum", .free "tuple"]
def ex (K : PySem.W.Frag) : Bool := (He.Fa.glo "CUT").ok K && He.tupB K "CUT" [.str "cut"] && (He.eqO (PySem.W.nsIn K mainGlobals "gcd") (some (some (.builtin "math.gcd"))))
theorem tb_mk {K : PySem.W.Frag} {h : Heap} {mg : Str → Option Value} (X : K.In h) (G : h.Ns mainGlobals mg) (c : He.SaysD fal dfn K) (m : ex K = true) : ∃ fd, Tb K mg fd := by
  have F : ∀ j : Nat, ∃ fd : FuncData, ∀ (x : Str) (st : Stmt) (ps : List Str), fnl[j]? = some (x, st, ps) → FnI K mg x st ps fd := fun j => by
    match j with
    | 0 => obtain ⟨fd, F⟩ := c.def_ 0 rfl; exact ⟨fd, fun x st ps h => by cases h; exact ⟨F, He.glo_ok X G (c.fact 0 rfl), F.bindsN fun _ _ _ _ _ _ us hl => match us, hl with | [_, _], _ => rfl⟩⟩
    | 1 => obtain ⟨fd, F⟩ := c.def_ 1 rfl; exact ⟨fd, fun x st ps h => by cases h; exact ⟨F, He.glo_ok X G (c.fact 1 rfl), F.bindsN fun _ _ _ _ _ _ us hl => match us, hl with | [_, _], _ => rfl⟩⟩
    | 2 => obtain ⟨fd, F⟩ := c.def_ 2 rfl; exact ⟨fd, fun x st ps h => by cases h; exact ⟨F, He.glo_ok X G (c.fact 2 rfl), F.bindsN fun _ _ _ _ _ _ us hl => match us, hl with | [_, _], _ => rfl⟩⟩
    | 3 => obtain ⟨fd, F⟩ := c.def_ 3 rfl; exact ⟨fd, fun x st ps h => by cases h; exact ⟨F, He.glo_ok X G (c.fact 3 rfl), F.bindsN fun _ _ _ _ _ _ us hl => match us, hl with | [_], _ => rfl⟩⟩
    | 4 => obtain ⟨fd, F⟩ := c.def_ 4 rfl; exact ⟨fd, fun x st ps h => by cases h; exact ⟨F, He.glo_ok X G (c.fact 4 rfl), F.bindsN fun _ _ _ _ _ _ us hl => match us, hl with | [_], _ => rfl⟩⟩
    | 5 => obtain ⟨fd, F⟩ := c.def_ 5 rfl; exact ⟨fd, fun x st ps h => by cases h; exact ⟨F, He.glo_ok X G (c.fact 5 rfl), F.bindsN fun _ _ _ _ _ _ us hl => match us, hl with | [_, _], _ => rfl⟩⟩
    | 6 => obtain ⟨fd, F⟩ := c.def_ 6 rfl; exact ⟨fd, fun x st ps h => by cases h; exact ⟨F, He.glo_ok X G (c.fact 6 rfl), F.bindsN fun _ _ _ _ _ _ us hl => match us, hl with | [_, _], _ => rfl⟩⟩
    | 7 => obtain ⟨fd, F⟩ := c.def_ 7 rfl; exact ⟨fd, fun x st ps h => by cases h; exact ⟨F, He.glo_ok X G (c.fact 7 rfl), F.bindsN fun _ _ _ _ _ _ us hl => match us, hl with | [_], _ => rfl⟩⟩
    | 8 => obtain ⟨fd, F⟩ := c.def_ 8 rfl; exact ⟨fd, fun x st ps h => by cases h; exact ⟨F, He.glo_ok X G (c.fact 8 rfl), F.bindsN fun _ _ _ _ _ _ us hl => match us, hl with | [_], _ => rfl⟩⟩
    | 9 => obtain ⟨fd, F⟩ := c.def_ 9 rfl; exact ⟨fd, fun x st ps h => by cases h; exact ⟨F, He.glo_ok X G (c.fact 9 rfl), F.bindsN fun _ _ _ _ _ _ us hl => match us, hl with | [_, _], _ => rfl⟩⟩
    | 10 => obtain ⟨fd, F⟩ := c.def_ 10 rfl; exact ⟨fd, fun x st ps h => by cases h; exact ⟨F, He.glo_ok X G (c.fact 10 rfl), F.bindsN fun _ _ _ _ _ _ us hl => match us, hl with | [_], _ => rfl⟩⟩
    | 11 => obtain ⟨fd, F⟩ := c.def_ 11 rfl; exact ⟨fd, fun x st ps h => by cases h; exact ⟨F, He.glo_ok X G (c.fact 11 rfl), F.bindsN fun _ _ _ _ _ _ us hl => match us, hl with | [_, _], _ => rfl⟩⟩
    | 12 => obtain ⟨fd, F⟩ := c.def_ 12 rfl; exact ⟨fd, fun x st ps h => by cases h; exact ⟨F, He.glo_ok X G (c.fact 12 rfl), F.bindsN fun _ _ _ _ _ _ us hl => match us, hl with | [_, _], _ => rfl⟩⟩
    | 13 => obtain ⟨fd, F⟩ := c.def_ 13 rfl; exact ⟨fd, fun x st ps h => by cases h; exact ⟨F, He.glo_ok X G (c.fact 13 rfl), F.bindsN fun _ _ _ _ _ _ us hl => match us, hl with | [_, _], _ => rfl⟩⟩
    | 14 => obtain ⟨fd, F⟩ := c.def_ 14 rfl; exact ⟨fd, fun x st ps h => by cases h; exact ⟨F, He.glo_ok X G (c.fact 14 rfl), F.bindsN fun _ _ _ _ _ _ us hl => match us, hl with | [_], _ => rfl⟩⟩
    | 15 => obtain ⟨fd, F⟩ := c.def_ 15 rfl; exact ⟨fd, fun x st ps h => by cases h; exact ⟨F, He.glo_ok X G (c.fact 15 rfl), F.bindsN fun _ _ _ _ _ _ us hl => match us, hl with | [_, _, _], _ => rfl⟩⟩
    | 16 => obtain ⟨fd, F⟩ := c.def_ 16 rfl; exact ⟨fd, fun x st ps h => by cases h; exact ⟨F, He.glo_ok X G (c.fact 16 rfl), F.bindsN fun _ _ _ _ _ _ us hl => match us, hl with | [_, _], _ => rfl⟩⟩
    | 17 => obtain ⟨fd, F⟩ := c.def_ 17 rfl; exact ⟨fd, fun x st ps h => by cases h; exact ⟨F, He.glo_ok X G (c.fact 17 rfl), F.bindsN fun _ _ _ _ _ _ us hl => match us, hl with | [_, _], _ => rfl⟩⟩
    | 18 => obtain ⟨fd, F⟩ := c.def_ 18 rfl; exact ⟨fd, fun x st ps h => by cases h; exact ⟨F, He.glo_ok X G (c.fact 18 rfl), F.bindsN fun _ _ _ _ _ _ us hl => match us, hl with | [_], _ => rfl⟩⟩
    | j + 19 => obtain ⟨fd, F⟩ := c.def_ 0 rfl; exact ⟨fd, fun x st ps h => nomatch h⟩
  obtain ⟨fd, hF⟩ := Classical.axiomOfChoice F
  obtain ⟨m0, m⟩ := He.ba m
  have m1 := m
  refine ⟨fd, fun j x st ps h => hF j x st ps h, fun x hx => ?_, ?_, ?_⟩
  · have hx : x ∈ frl := List.contains_iff_mem.mp hx
    unfold frl at hx
    simp only [List.mem_cons, List.not_mem_nil, or_false] at hx
    rcases hx with rfl | rfl | rfl | rfl | rfl | rfl | rfl | rfl | rfl | rfl | rfl | rfl
    · exact He.free_ok X G (c.fact 19 rfl)
    · exact He.free_ok X G (c.fact 20 rfl)
    · exact He.free_ok X G (c.fact 21 rfl)
    · exact He.free_ok X G (c.fact 22 rfl)
    · exact He.free_ok X G (c.fact 23 rfl)
    · exact He.free_ok X G (c.fact 24 rfl)
    · exact He.free_ok X G (c.fact 25 rfl)
    · exact He.free_ok X G (c.fact 26 rfl)
    · exact He.free_ok X G (c.fact 27 rfl)
    · exact He.free_ok X G (c.fact 28 rfl)
    · exact He.free_ok X G (c.fact 29 rfl)
    · exact He.free_ok X G (c.fact 30 rfl)
  · obtain ⟨z1, z2⟩ := He.ba m0
    intro X' c' pos hK hmg hg
    subst hK hmg
    exact je_c (pe_glob (v := .ref (He.ga X'.K "CUT")) hg (He.glo_ok X G z1) rfl) fun G' μ => dr_tup (He.tupB_ok z2 G') (.cons (.str _) DRs.nil)
  · exact PySem.W.mg_of X G (He.eqO_ok m1)
def nm0 : List PySem.Str := ["fraction", "sum_of", "product_of", "CUT", "share_ended", "mean_count", "mean_result", "share_of", "ended_mean", "_law_start", "_law_draw", "_law_is_int", "_law_same", "_law_fraction", "_law_added", "_law_number", "_law_end", "_law_rows", "_law_total"]
def loose : List PySem.Str := nm0
abbrev R : PySem.W.OpenRow := PySem.W.OpenLaw.row PySem.Challenge.rw_meanwithin_k13_sums_of_shares
abbrev hk : PySem.W.Hook := He.hookX 4 fal dfn [] [] ex
def ob (s : PySem.W.SharedT) : He.AlX := He.obsX 4 fal dfn [] [] ex (HandSHeadRun.getT s)
theorem ob_eq (s : PySem.W.SharedT) : ob s = hk.obs s.abs := He.obsX_eq (HandSHeadRun.getT_eq s)
theorem run (w : World) : HandSHeadRun.RunEqI R (PySem.W.view R.prog [0, 23]) hk ob 4000 loose w := by
  unfold HandSHeadRun.RunEqI; kernel_rfl
def lawC : SemC := cf 100000 40 18
end K13

namespace K13
open PySem PySem.Spec PyProof.Rows L2 Fw
local macro_rules | `(tactic| walk_at "ev") => `(tactic| simp -implicitDefEqProofs only [e_bind, e_bindX, e_bindN, e_toS, e_toSX, e_seq, e_seqR, e_seqB, e_seqC, e_seqX, e_iteBind, e_iteBindN, e_iteToS, e_iteSeq, e_some, e_none, e_kThaw, e_sD, e_kOp, e_sO, e_sC, e_thawD, e_thawL, e_thawK, e_sV, e_rdV, e_rdVL, e_rdVK, e_sVO, e_rdVO, e_rdVOo, e_sRetV, e_rdRV, e_rdRVo, e_viewI, e_viewS, e_viewB, e_viewN, e_viewT, e_viewL, e_viewK, e_viewC, e_viewR, e_obDL, e_obDK, e_viewV, e_slViewL, e_slViewK, e_slViewVL, e_views0, e_views1, e_kP1, e_k1, e_s1, e_kP2, e_k2c, e_k2b, e_k2a, e_s2, e_kPL, e_kL, e_sL, e_kCs, e_kC, e_nilD, e_consD, e_nilO, e_consO, e_kTup, e_sTup, e_kLst, e_sLst, e_fits, e_fitsT, e_kB, e_sB, e_bOf, e_bOf', e_kAnd, e_sAnd, e_kOr, e_sOr, e_kNot, e_sNot, e_kVal, e_sVal, e_kIf, e_sIf, e_kCall, e_call, e_cOut, e_cOutX, e_isiQ, e_sIsi, e_sNx, e_sBrk, e_sCt, e_sSeq, e_kRet, e_sRet, e_sRetN, e_kSet, e_sSet, e_slD, e_slF, e_slI, e_slB, e_thI, e_thB, e_kSetL, e_sSetL, e_setLR, e_kDrop, e_sDrop, e_kIfS, e_sIfS, e_kAsg, e_sAsg, e_asgR, e_gN, e_gT, e_gC, e_g0, e_sFor, e_kItS, e_sItS, e_seqL, e_seqT, e_kIt1, e_sIt1, e_it1, e_kIt2, e_sIt2, e_it2, e_for0, e_turnN, e_turnC, e_turnB, e_turnR, e_turnX, e_turnI, e_kWh, e_kLcE, e_kLc, e_sLc, e_clear0, e_clear1, e_tTrue, e_kIx4, e_kIx3, e_kIx2, e_kIx1, e_sSetIx, e_asgW, e_intOf, e_methR, e_kMe3, e_kMe2, e_kMe1, e_sMeth, e_kMz2, e_kMz1, e_sMeth0, e_lstOf, e_wrS, e_wrSl, e_wrSlR, e_wrD, e_wrAt, e_wrAL, e_wrAK, e_wrAI, e_setLK, e_appK, e_extK, e_addI, e_addS, e_addL, e_addT, e_sub, e_mul, e_div, e_mod, e_neg, e_pow, e_rep, e_lt, e_le, e_gt, e_ge, e_eq, e_ne, e_eqI, e_inL, e_ninL, e_ixL, e_ixT, e_at0, e_at1, e_at2, e_at3, e_ix0, e_ix1, e_ix2, e_ix3, e_lenL, e_lenT, e_abs, e_intI, e_intB, e_gcd, e_lstL, e_lstT, e_lstC, e_tupL, e_tupT, e_sum, e_all, e_any, e_boN, e_boR, e_boX, e_boI, dInt, dBl, List.length_cons, List.length_nil, List.map_cons, List.map_nil, List.cons_append, List.nil_append, List.append_nil, List.replicate_succ, List.replicate_zero, List.replicate, Nat.reduceAdd, Nat.reduceSub, List.getElem?_cons_zero, List.getElem?_cons_succ, List.set_cons_zero, List.set_cons_succ, Option.bind_some, Option.map_some, if_true, if_false, Bool.not_true, Bool.not_false, Bool.false_eq_true, ite_true, ite_false, decide_true, decide_false])
local macro_rules | `(tactic| walk_at "evs") => `(tactic| simp -implicitDefEqProofs only [e_bind, e_bindX, e_bindN, e_toS, e_toSX, e_seq, e_seqR, e_seqB, e_seqC, e_seqX, e_iteBind, e_iteBindN, e_iteToS, e_iteSeq, e_some, e_none, e_kThaw, e_sD, e_kOp, e_sO, e_sC, e_thawD, e_thawL, e_thawK, e_sV, e_rdV, e_rdVL, e_rdVK, e_sVO, e_rdVO, e_rdVOo, e_sRetV, e_rdRV, e_rdRVo, e_viewI, e_viewS, e_viewB, e_viewN, e_viewT, e_viewL, e_viewK, e_viewC, e_viewR, e_obDL, e_obDK, e_viewV, e_slViewL, e_slViewK, e_slViewVL, e_views0, e_views1, e_kP1, e_k1, e_s1, e_kP2, e_k2c, e_k2b, e_k2a, e_s2, e_kPL, e_kL, e_sL, e_kCs, e_kC, e_nilD, e_consD, e_nilO, e_consO, e_kTup, e_sTup, e_kLst, e_sLst, e_fits, e_fitsT, e_kB, e_sB, e_bOf, e_bOf', e_kAnd, e_sAnd, e_kOr, e_sOr, e_kNot, e_sNot, e_kVal, e_sVal, e_kIf, e_sIf, e_kCall, e_call, e_cOut, e_cOutX, e_isiQ, e_sIsi, e_sNx, e_sBrk, e_sCt, e_sSeq, e_kRet, e_sRet, e_sRetN, e_kSet, e_sSet, e_slD, e_slF, e_slI, e_slB, e_thI, e_thB, e_kSetL, e_sSetL, e_setLR, e_kDrop, e_sDrop, e_kIfS, e_sIfS, e_kAsg, e_sAsg, e_asgR, e_gN, e_gT, e_gC, e_g0, e_sFor, e_kItS, e_sItS, e_seqL, e_seqT, e_kIt1, e_sIt1, e_it1, e_kIt2, e_sIt2, e_it2, e_for0, e_turnN, e_turnC, e_turnB, e_turnR, e_turnX, e_turnI, e_kWh, e_kLcE, e_kLc, e_sLc, e_clear0, e_clear1, e_tTrue, e_kIx4, e_kIx3, e_kIx2, e_kIx1, e_sSetIx, e_asgW, e_intOf, e_methR, e_kMe3, e_kMe2, e_kMe1, e_sMeth, e_kMz2, e_kMz1, e_sMeth0, e_lstOf, e_wrS, e_wrSl, e_wrSlR, e_wrD, e_wrAt, e_wrAL, e_wrAK, e_wrAI, e_setLK, e_appK, e_extK, e_addI, e_addS, e_addL, e_addT, e_sub, e_mul, e_div, e_mod, e_neg, e_pow, e_rep, e_lt, e_le, e_gt, e_ge, e_eq, e_ne, e_eqI, e_inL, e_ninL, e_ixL, e_ixT, e_at0, e_at1, e_at2, e_at3, e_ix0, e_ix1, e_ix2, e_ix3, e_lenL, e_lenT, e_abs, e_intI, e_intB, e_gcd, e_lstL, e_lstT, e_lstC, e_tupL, e_tupT, e_sum, e_all, e_any, e_boN, e_boR, e_boX, e_boI, dInt, dBl, List.length_cons, List.length_nil, List.map_cons, List.map_nil, List.cons_append, List.nil_append, List.append_nil, List.replicate_succ, List.replicate_zero, List.replicate, Nat.reduceAdd, Nat.reduceSub, List.getElem?_cons_zero, List.getElem?_cons_succ, List.set_cons_zero, List.set_cons_succ, Option.bind_some, Option.map_some, if_true, if_false, Bool.not_true, Bool.not_false, Bool.false_eq_true, ite_true, ite_false, decide_true, decide_false, *])
/-! drawing -/
def StOk (S : Sto) : Prop := ∃ (ns : List Int) (p q c : Int), S = [.lst [.lst (ns.map D.int), .int p, .int q, .int c]]
theorem e_p18 : powP (.int 10) (.int 18) = some (.d (.int 1000000000000000000)) := by
  have h : (10 : Int) ^ (18 : Int).toNat = 1000000000000000000 := by decide
  rw [← h]; rfl
theorem e_m1 {i : Int} : mulIP (.int i) (.int 48271) = some (.d (.int (i * 48271))) := e_mulK (by decide)
theorem e_m2 {i : Int} : mulIP (.int i) (.int 69621) = some (.d (.int (i * 69621))) := e_mulK (by decide)
theorem e_m3 {i : Int} : mulIP (.int i) (.int 16807) = some (.d (.int (i * 16807))) := e_mulK (by decide)
theorem e_d1 {i : Int} : divP (.int i) (.int 97) = some (.d (.int (i / 97))) := e_divK (by decide)
theorem e_d2 {i : Int} : divP (.int i) (.int 11) = some (.d (.int (i / 11))) := e_divK (by decide)
theorem e_n1 {i : Int} : modP (.int i) (.int 2147483647) = some (.d (.int (i % 2147483647))) := e_modK (by decide)
theorem e_n2 {i : Int} : modP (.int i) (.int 2147483629) = some (.d (.int (i % 2147483629))) := e_modK (by decide)
theorem draw_ok (n k : Nat) (S : Sto) (m : Int) (hS : StOk S) (hm : 0 < m) (hd : divOk m = true) :
    ∃ (r : Int) (S' : Sto), cf n (k + 1) 9 [.ref 0, .int m] S = .ok (.d (.int r)) S' ∧ StOk S' ∧ 0 ≤ r ∧ r < m := by
  obtain ⟨ns, p, q, c, rfl⟩ := hS
  have h1 : ∀ i : Int, modP (.int i) (.int m) = some (.d (.int (i % m))) := fun i => e_modK hm
  have h2 : ∀ i : Int, divP (.int i) (.int m) = some (.d (.int (i / m))) := fun i => e_divK hd
  have fin : ∀ x : Int, 0 ≤ x % m ∧ x % m < m := fun x => ⟨Int.emod_nonneg x (by omega), Int.emod_lt_of_pos x hm⟩
  rw [cf__law_draw, runB_eq (by rfl)]
  unfold b__law_draw
  by_cases hq : 0 < q
  · have hq' : decide (0 < q) = true := decide_eq_true hq
    walk_at "evs"
    exact ⟨_, _, rfl, ⟨_, _, _, _, rfl⟩, fin _⟩
  · have hq' : decide (0 < q) = false := decide_eq_false hq
    cases ns with
    | nil =>
      have h3 : decide ((0 : Int) < ((0 : Nat) : Int)) = false := by decide
      have h4 : decide ((1000000000000000000 : Int) ≤ 0) = false := by decide
      simp only [List.map_nil]
      have := @e_p18; have := @e_m1; have := @e_m2; have := @e_m3; have := @e_d1; have := @e_d2; have := @e_n1; have := @e_n2
      walk_at "evs"
      exact ⟨_, _, rfl, ⟨[], _, _, _, rfl⟩, fin _⟩
    | cons z zs =>
      have hl : (0 : Int) < (((List.map D.int (z :: zs)).length : Nat) : Int) := by simp
      generalize e : List.map D.int (z :: zs) = L at hl ⊢
      have h3 : decide ((0 : Int) < (L.length : Int)) = true := decide_eq_true hl
      have h5 : ∀ i : Int, modP (.int i) (.int (L.length : Int)) = some (.d (.int (i % (L.length : Int)))) := fun i => e_modK hl
      obtain ⟨x, hx⟩ : ∃ x : Int, atI L (p % (L.length : Int)) = some (.int x) := by
        have l0 := Int.emod_nonneg p (by omega : (L.length : Int) ≠ 0)
        have l1 := Int.emod_lt_of_pos p hl
        have l2 : (p % (L.length : Int)).toNat < L.length := by omega
        have l3 : (p % (L.length : Int)).toNat < (z :: zs).length := by rw [← show L.length = (z :: zs).length by rw [← e, List.length_map]]; exact l2
        refine ⟨(z :: zs)[(p % (L.length : Int)).toNat], ?_⟩
        have q : atI L (((p % (L.length : Int)).toNat : Nat) : Int) = some L[(p % (L.length : Int)).toNat] := atI_nat (List.getElem?_eq_getElem l2)
        rw [show (((p % (L.length : Int)).toNat : Nat) : Int) = p % (L.length : Int) by omega] at q
        rw [q]
        have q2 : L[(p % (L.length : Int)).toNat]? = (List.map D.int (z :: zs))[(p % (L.length : Int)).toNat]? := by rw [e]
        rw [List.getElem?_eq_getElem l2, List.getElem?_map, List.getElem?_eq_getElem l3] at q2
        rw [Option.some.inj q2]
      generalize hy : (if x < 0 then -x else x) = y
      have := @e_p18; have := @e_m1; have := @e_m2; have := @e_m3; have := @e_d1; have := @e_d2; have := @e_n1; have := @e_n2
      by_cases hb : (1000000000000000000 : Int) ≤ y
      · have h4 : decide ((1000000000000000000 : Int) ≤ y) = true := decide_eq_true hb
        walk_at "evs"
        exact ⟨_, _, rfl, ⟨z :: zs, _, _, _, by rw [e]⟩, fin _⟩
      · have h4 : decide ((1000000000000000000 : Int) ≤ y) = false := decide_eq_false hb
        walk_at "evs"
        exact ⟨_, _, rfl, ⟨z :: zs, _, _, _, by rw [e]⟩, fin _⟩

/-! fractions -/
theorem frac_ok (n k : Nat) (p q : Int) (S : Sto) (hq : 0 < q) (hb : q.natAbs < 2 ^ 9000) : cf n (k + 1) 0 [.int p, .int q] S = .ok (.d (fr (nrm p q))) S := by
  have h1 : decide (q < 0) = false := decide_eq_false (by omega)
  have h2 := okLen2
  have h3 : ∀ i : Int, divP (.int i) (.int (gcdI p q)) = some (.d (.int (i / gcdI p q))) := fun i => e_divK (divOk_of (gcdI_pos hq) (Nat.lt_of_le_of_lt (gcdI_le hq) hb))
  rw [cf_fraction, runB_eq (by rfl)]
  unfold b_fraction
  walk_at "evs"
  rfl
theorem euclid_step (g : Nat → SemC) (n m : Nat) (lo : Int) (P Q : Option Sl) (a b : Int) (t r : Option Sl) (S : Sto) (ha : a.natAbs < 2 ^ 4900) (hb : 0 < b) (hb2 : b.natAbs < 2 ^ 4900) :
    forF (gN 4) (b__law_fraction_f0 g n) (rngD lo (m + 1)) [P, Q, some (.val (.int a)), some (.val (.int b)), t, r] S =
      forF (gN 4) (b__law_fraction_f0 g n) (rngD (lo + 1) m) [P, Q, some (.val (.int b)), some (.val (.int (a % b))), some (.val (.int lo)), some (.val (.int (a % b)))] S := by
  have h1 : decide (b = 0) = false := decide_eq_false (by omega)
  have h2 : divP (.int a) (.int b) = some (.d (.int (a / b))) := e_divK (divOk_of hb (Nat.lt_trans hb2 (Nat.pow_lt_pow_right (by decide) (by decide))))
  have h4 : (a / b).natAbs < 2 ^ 4900 := Nat.lt_of_le_of_lt (Int.natAbs_ediv_le_natAbs a b) ha
  have h3 : mulIP (.int (a / b)) (.int b) = some (.d (.int (a / b * b))) := by
    show fits (mulOk _ _) (dInt _) = _
    rw [e_fits (mulOk_of h4 hb2 (by decide) (by decide) (by decide))]; rfl
  have h5 : a - a / b * b = a % b := by rw [Int.emod_def, Int.mul_comm b]
  rw [rngD_succ, for1 (e_gN)]
  unfold b__law_fraction_f0
  walk_at "evs"
theorem euclid_stop (g : Nat → SemC) (n m : Nat) (lo : Int) (P Q : Option Sl) (a : Int) (t r : Option Sl) (S : Sto) :
    forF (gN 4) (b__law_fraction_f0 g n) (rngD lo (m + 1)) [P, Q, some (.val (.int a)), some (.val (.int 0)), t, r] S = .nx [P, Q, some (.val (.int a)), some (.val (.int 0)), some (.val (.int lo)), r] S := by
  have h1 : decide ((0 : Int) = 0) = true := by decide
  rw [rngD_succ, for1 (e_gN)]
  unfold b__law_fraction_f0
  walk_at "evs"
theorem euclid (g : Nat → SemC) (n : Nat) (P Q : Option Sl) (S : Sto) : ∀ (j m : Nat) (lo : Int) (a b : Nat) (t r : Option Sl), b < 2 ^ j → a < 2 ^ 4900 → b < 2 ^ 4900 → 2 * j + 1 ≤ m →
    ∃ t' r' b', forF (gN 4) (b__law_fraction_f0 g n) (rngD lo m) [P, Q, some (.val (.int (a : Int))), some (.val (.int (b : Int))), t, r] S = .nx [P, Q, some (.val (.int ((Nat.gcd a b : Nat) : Int))), b', t', r'] S := by
  intro j
  induction j with
  | zero =>
    intro m lo a b t r h1 h2 h3 h4
    have e : b = 0 := by omega
    subst e
    obtain ⟨m, rfl⟩ : ∃ m', m = m' + 1 := ⟨m - 1, by omega⟩
    exact ⟨_, _, _, by rw [show ((0 : Nat) : Int) = 0 from rfl, euclid_stop, Nat.gcd_zero_right]⟩
  | succ j ih =>
    intro m lo a b t r h1 h2 h3 h4
    obtain ⟨m, rfl⟩ : ∃ m', m = m' + 1 := ⟨m - 1, by omega⟩
    by_cases hb : b = 0
    · subst hb
      exact ⟨_, _, _, by rw [show ((0 : Nat) : Int) = 0 from rfl, euclid_stop, Nat.gcd_zero_right]⟩
    · rw [euclid_step g n m lo P Q a b t r S (by simpa using h2) (by omega) (by simpa using h3)]
      rw [show (a : Int) % (b : Int) = ((a % b : Nat) : Int) by omega]
      have hr : a % b < b := Nat.mod_lt _ (by omega)
      obtain ⟨m, rfl⟩ : ∃ m', m = m' + 1 := ⟨m - 1, by omega⟩
      have hg : Nat.gcd a b = Nat.gcd b (a % b) := by rw [Nat.gcd_comm a b, Nat.gcd_rec b a, Nat.gcd_comm]
      generalize hc : a % b = c at *
      by_cases hc0 : c = 0
      · subst hc0
        exact ⟨_, _, _, by rw [show ((0 : Nat) : Int) = 0 from rfl, euclid_stop, hg, Nat.gcd_zero_right]⟩
      · rw [euclid_step g n m (lo + 1) P Q b c _ _ S (by simpa using h3) (by omega) (by simp; omega)]
        rw [show (b : Int) % (c : Int) = ((b % c : Nat) : Int) by omega]
        have h5 : b % c < c := Nat.mod_lt _ (by omega)
        have h6 : b % c + c ≤ b := by
          have := Nat.div_add_mod b c
          have h7 : 0 < b / c := Nat.div_pos (by omega) (by omega)
          have h8 : c * 1 ≤ c * (b / c) := Nat.mul_le_mul_left c h7
          omega
        have h9 : b % c < 2 ^ j := by
          have : 2 ^ (j + 1) = 2 * 2 ^ j := by rw [Nat.pow_succ, Nat.mul_comm]
          omega
        obtain ⟨t', r', b', e⟩ := ih m (lo + 1 + 1) c (b % c) (some (.val (.int (lo + 1)))) (some (.val (.int ((b % c : Nat) : Int)))) h9 (by omega) (by omega) (by omega)
        refine ⟨t', r', b', ?_⟩
        rw [e, hg, Nat.gcd_comm b c, Nat.gcd_rec c b, Nat.gcd_comm]
theorem lfrac_ok (n k : Nat) (p q : Int) (S : Sto) (hq : 0 < q) (hp : p.natAbs < 2 ^ 4900) (hb : q.natAbs < 2 ^ 4900) : cf n (k + 1) 12 [.int p, .int q] S = .ok (.d (fr (nrm p q))) S := by
  have h2 := okLen2
  have h3 : ∀ i : Int, divP (.int i) (.int (gcdI p q)) = some (.d (.int (i / gcdI p q))) := fun i => e_divK (divOk_of (gcdI_pos hq) (Nat.lt_of_le_of_lt (gcdI_le hq) (Nat.lt_trans hb (Nat.pow_lt_pow_right (by decide) (by decide)))))
  have h4 : rng62 9999 = true := by decide
  have h5 : (9999 : Int).toNat = 9999 := rfl
  have h6 : (if p < 0 then -p else p) = (p.natAbs : Int) := by split <;> omega
  have h7 : q = (q.natAbs : Int) := by omega
  obtain ⟨t', r', b', e⟩ := euclid (cf n k) n (some (.val (.int p))) (some (.val (.int q))) S 4900 9999 0 p.natAbs q.natAbs none none hb hp hb (by omega)
  rw [← h7] at e
  clear h7 hq hp hb
  rw [cf__law_fraction, runB_eq (by rfl)]
  unfold b__law_fraction
  walk_at "evs"
  rfl

structure Dn where
  c : Int
  rs : List Int
  bs : List (List Int)
deriving DecidableEq
abbrev encI (l : List Int) : D := .tup (l.map D.int)
def encE : Option Dn → D
  | none => d_CUT
  | some e => .tup [.str "done", .int e.c, encI e.rs, .tup (e.bs.map encI)]
abbrev Row := Option Dn × (Int × Int)
def encR (r : Row) : D := .tup [encE r.1, fr r.2]
theorem okE (e : Option Dn) : okD 64 (encE e) = true := by
  cases e with
  | none => exact ok_tup fun d hd => by rw [List.mem_singleton.mp hd]; exact ok_str (by decide +kernel)
  | some e =>
    refine ok_tup fun d hd => ?_
    simp only [List.mem_cons, List.not_mem_nil, or_false] at hd
    rcases hd with rfl | rfl | rfl | rfl
    · exact ok_str (by decide +kernel)
    · exact ok_int
    · exact okD_le (k := 1) (ok_ints e.rs) (by decide)
    · refine okD_le (k := 2) (ok_tup fun d hd => ?_) (by decide)
      obtain ⟨b, _, rfl⟩ := List.mem_map.mp hd
      exact ok_ints b
theorem eqE (e f : Option Dn) : eqB (encE e) (encE f) = decide (e = f) := by
  cases e with
  | none =>
    cases f with
    | none => decide
    | some f =>
      simp only [encE, d_CUT, eqB, eqBs]
      rw [show ((("cut" : Str) == ("done" : Str)) = false) by decide]; rfl
  | some e =>
    cases f with
    | none =>
      simp only [encE, d_CUT, eqB, eqBs]
      rw [show ((("done" : Str) == ("cut" : Str)) = false) by decide]; rfl
    | some f =>
      simp only [encE]
      rw [eqB, eqBs, eqBs, eqBs, eqBs, eqBs, eqB_int, eqB_ints, eqB, eqB, eqBs_map eqB_ints, show ((("done" : Str) == ("done" : Str)) = true) by decide]
      obtain ⟨c, rs, bs⟩ := e
      obtain ⟨c', rs', bs'⟩ := f
      simp only [Option.some.injEq, Dn.mk.injEq]
      by_cases h1 : c = c' <;> by_cases h2 : rs = rs' <;> by_cases h3 : bs = bs' <;> simp [h1, h2, h3]
theorem eqD_E (e f : Option Dn) : eqD (encE e) (encE f) = some (decide (e = f)) := by rw [eqD_ok (okE e) (okE f), eqE]
theorem vE {σ : Fr} {S : Sto} {e : Option Dn} : view σ S (.d (encE e)) = some (encE e) := by cases e <;> rfl
theorem vC {σ : Fr} {S : Sto} : view σ S (.d d_CUT) = some d_CUT := rfl
theorem eqD_cut (e : Option Dn) : eqD (encE e) d_CUT = some (decide (e = none)) := eqD_E e none
/-! the fractions' defs -/
theorem sum_ok (n k : Nat) {a b : Nat} {x y : Int × Int} (hx : Bd a x) (hy : Bd b y) (h : a + b + 1 ≤ 9000) (S : Sto) : cf n (k + 2) 1 [fr x, fr y] S = .ok (.d (fr (addF x y))) S := by
  have h0 := frac_ok n k (x.1 * y.2 + y.1 * x.2) (x.2 * y.2) S (Int.mul_pos hx.pos hy.pos) (lt_pow (add_den hx hy) h)
  have m1 := e_mulB (lt_pow hx.num (by omega : a ≤ a + 1)) (lt_pow hy.den (by omega : b ≤ b + 1)) (by omega) (by omega) (by omega)
  have m2 := e_mulB (lt_pow hy.num (by omega : b ≤ b + 1)) (lt_pow hx.den (by omega : a ≤ a + 1)) (by omega) (by omega) (by omega)
  have m3 := e_mulB (lt_pow hx.den (by omega : a ≤ a + 1)) (lt_pow hy.den (by omega : b ≤ b + 1)) (by omega) (by omega) (by omega)
  obtain ⟨p, q⟩ := x
  obtain ⟨u, v⟩ := y
  clear hx hy h
  rw [cf_sum_of, runB_eq (by rfl)]
  unfold b_sum_of
  walk_at "evs"
  rfl
theorem prod_ok (n k : Nat) {a b : Nat} {x : Int × Int} {c : Int} (hx : Bd a x) (hc : c.natAbs < 2 ^ b) (h : a + b ≤ 9000) (S : Sto) : cf n (k + 2) 2 [fr x, .tup [.int c, .int 1]] S = .ok (.d (fr (mulI x c))) S := by
  have h0 := frac_ok n k (x.1 * c) x.2 S hx.pos (lt_pow hx.den (by omega))
  have m1 := e_mulB (lt_pow hx.num (by omega : a ≤ a + 1)) (lt_pow hc (by omega : b ≤ b + 1)) (by omega) (by omega) (by omega)
  have m2 : mulIP (.int x.2) (.int 1) = some (.d (.int x.2)) := by rw [e_mulK (by decide), Int.mul_one]
  obtain ⟨p, q⟩ := x
  clear hx hc h
  rw [cf_product_of, runB_eq (by rfl)]
  unfold b_product_of
  walk_at "evs"
  rfl
theorem added_ok (n k : Nat) {a b : Nat} {x y : Int × Int} (hx : Bd a x) (hy : Bd b y) (h : a + b + 1 ≤ 4900) (S : Sto) : cf n (k + 2) 13 [fr x, fr y] S = .ok (.d (fr (addF x y))) S := by
  have h0 := lfrac_ok n k (x.1 * y.2 + y.1 * x.2) (x.2 * y.2) S (Int.mul_pos hx.pos hy.pos) (lt_pow (add_num hx hy) h) (lt_pow (add_den hx hy) h)
  have m1 := e_mulB (lt_pow hx.num (by omega : a ≤ a + 1)) (lt_pow hy.den (by omega : b ≤ b + 1)) (by omega) (by omega) (by omega)
  have m2 := e_mulB (lt_pow hy.num (by omega : b ≤ b + 1)) (lt_pow hx.den (by omega : a ≤ a + 1)) (by omega) (by omega) (by omega)
  have m3 := e_mulB (lt_pow hx.den (by omega : a ≤ a + 1)) (lt_pow hy.den (by omega : b ≤ b + 1)) (by omega) (by omega) (by omega)
  obtain ⟨p, q⟩ := x
  obtain ⟨u, v⟩ := y
  clear hx hy h
  rw [cf__law_added, runB_eq (by rfl)]
  unfold b__law_added
  walk_at "evs"
  rfl
/-! totals over the rows -/
def hR (h : Dn → Int) (r : Row) : Int := match r.1 with
  | none => 0
  | some e => h e
def stp (h : Dn → Int) (t : Int × Int) (r : Row) : Int × Int := match r.1 with
  | none => t
  | some e => addF t (mulI r.2 (h e))
def tot (h : Dn → Int) (t : Int × Int) (rows : List Row) : Int × Int := rows.foldl (stp h) t
structure ROk (many : Nat) (r : Row) : Prop where
  sh : Bd 100 r.2
  pos : 0 < r.2.1
  c : ∀ e, r.1 = some e → e.c.natAbs < 2 ^ 100
  rs : ∀ e, r.1 = some e → e.rs.length = many ∧ ∀ z ∈ e.rs, z.natAbs < 2 ^ 100
def HOk (h : Dn → Int) (r : Row) : Prop := ∀ e, r.1 = some e → (h e).natAbs < 2 ^ 100
theorem stp_bd {h : Dn → Int} {t : Int × Int} {r : Row} {b : Nat} (ht : Bd b t) (hr : Bd 100 r.2) (hh : HOk h r) : Bd (b + 201) (stp h t r) := by
  unfold stp
  split
  · exact ht.mono (by omega)
  · rename_i e he
    exact (addF_bd ht (mulI_bd hr (hh e he))).mono (by omega)
theorem tot_bd {h : Dn → Int} {many : Nat} : ∀ (rows : List Row) (t : Int × Int) (b : Nat), Bd b t → (∀ r ∈ rows, ROk many r ∧ HOk h r) → Bd (b + 201 * rows.length) (tot h t rows)
  | [], t, b, ht, _ => ht
  | r :: rows, t, b, ht, hr => by
    have h1 := hr r List.mem_cons_self
    exact (tot_bd rows _ _ (stp_bd ht h1.1.sh h1.2) fun r' h' => hr r' (List.mem_cons_of_mem _ h')).mono (by rw [List.length_cons]; omega)
theorem row_loop {g : D → Fr → Option Fr} {body : SemS} {S : Sto} {many : Nat} (h : Dn → Int) (F : Int × Int → Option Sl → Option Sl → Fr)
    (step : ∀ (r : Row) (t : Int × Int) (b : Nat) (e s : Option Sl), ROk many r → HOk h r → Bd b t → b ≤ 4500 → ∃ σ1 e' s', g (encR r) (F t e s) = some σ1 ∧ body σ1 S = .nx (F (stp h t r) e' s') S) :
    ∀ (rows : List Row) (t : Int × Int) (b : Nat) (e s : Option Sl), (∀ r ∈ rows, ROk many r ∧ HOk h r) → Bd b t → b + 201 * rows.length ≤ 4500 →
      ∃ e' s', forF g body (rows.map encR) (F t e s) S = .nx (F (tot h t rows) e' s') S := by
  intro rows
  induction rows with
  | nil => intro t b e s _ _ _; exact ⟨e, s, rfl⟩
  | cons r rows ih =>
    intro t b e s hr ht hb
    rw [List.length_cons] at hb
    have h1 := hr r List.mem_cons_self
    obtain ⟨σ1, e1, s1, g1, b1⟩ := step r t b e s h1.1 h1.2 ht (by omega)
    obtain ⟨e2, s2, f2⟩ := ih (stp h t r) (b + 201) e1 s1 (fun r' h' => hr r' (List.mem_cons_of_mem _ h')) (stp_bd ht h1.1.sh h1.2) (by omega)
    exact ⟨e2, s2, by rw [List.map_cons, for1 g1, b1, e_turnN, f2]; rfl⟩
abbrev RS (rows : List Row) : D := .tup (rows.map encR)
theorem share_ended_ok (n k : Nat) {many : Nat} (rows : List Row) (S : Sto) (hr : ∀ r ∈ rows, ROk many r) (hl : rows.length ≤ 20) :
    cf n (k + 3) 3 [RS rows] S = .ok (.d (fr (tot (fun _ => 1) (0, 1) rows))) S := by
  have hs : ∀ (r : Row) (t : Int × Int) (b : Nat) (e s : Option Sl), ROk many r → HOk (fun _ => 1) r → Bd b t → b ≤ 4500 →
      ∃ σ1 e' s', gT 2 (gsCons (gN 2) (gsCons (gN 3) gsNil)) (encR r) [some (.val (RS rows)), some (.val (fr t)), e, s] = some σ1 ∧ b_share_ended_f0 (cf n (k + 2)) n σ1 S = .nx [some (.val (RS rows)), some (.val (fr (stp (fun _ => 1) t r))), e', s'] S := by
    intro r t b e s h1 h2 ht hb
    obtain ⟨d, x⟩ := r
    refine ⟨_, some (.val (encE d)), some (.val (fr x)), rfl, ?_⟩
    have q := sum_ok n k ht h1.sh (by omega) S
    have ec := eqD_cut d
    have hx := mulI_one h1.sh
    simp only at q hx
    clear h1 h2 ht hb hr hl
    unfold b_share_ended_f0 stp
    generalize RS rows = RR
    cases d with
    | none =>
      simp only [decide_true] at ec
      have v1 := @vE; have v2 := @vC
      walk_at "evs"
    | some d =>
      simp only [reduceCtorEq, decide_false] at ec
      have v1 := @vE; have v2 := @vC
      walk_at "evs"
  obtain ⟨e', s', f⟩ := row_loop (h := fun _ => 1) (F := fun t e s => [some (.val (RS rows)), some (.val (fr t)), e, s]) hs rows (0, 1) 1 none none (fun r h => ⟨hr r h, fun _ _ => (by decide : (1 : Int).natAbs < 2 ^ 100)⟩) bd01 (by omega)
  have h2 := okLen2
  clear hs hr hl
  rw [cf_share_ended, runB_eq (by rfl)]
  unfold b_share_ended
  change forF _ _ _ [_, some (.val (.tup [.int 0, .int 1])), _, _] _ = _ at f
  walk_at "evs"

theorem mean_count_ok (n k : Nat) {many : Nat} (rows : List Row) (S : Sto) (hr : ∀ r ∈ rows, ROk many r) (hl : rows.length ≤ 20) :
    cf n (k + 3) 4 [RS rows] S = .ok (.d (fr (tot (fun e => e.c) (0, 1) rows))) S := by
  have hs : ∀ (r : Row) (t : Int × Int) (b : Nat) (e s : Option Sl), ROk many r → HOk (fun e => e.c) r → Bd b t → b ≤ 4500 →
      ∃ σ1 e' s', gT 2 (gsCons (gN 2) (gsCons (gN 3) gsNil)) (encR r) [some (.val (RS rows)), some (.val (fr t)), e, s] = some σ1 ∧ b_mean_count_f0 (cf n (k + 2)) n σ1 S = .nx [some (.val (RS rows)), some (.val (fr (stp (fun e => e.c) t r))), e', s'] S := by
    intro r t b e s h1 h2 ht hb
    obtain ⟨d, x⟩ := r
    refine ⟨_, some (.val (encE d)), some (.val (fr x)), rfl, ?_⟩
    have ec := eqD_cut d
    have v2 := @vC
    have o2 := okLen2
    unfold b_mean_count_f0 stp
    cases d with
    | none =>
      simp only [decide_true] at ec
      have v1 := @vE
      clear h1 h2 ht hb hr hl
      generalize RS rows = RR
      walk_at "evs"
    | some d =>
      have q1 := mulI_bd h1.sh (h2 d rfl)
      have q := sum_ok n k ht q1 (by omega) S
      have p := prod_ok n k h1.sh (h2 d rfl) (by omega) S
      simp only [reduceCtorEq, decide_false] at ec
      obtain ⟨c, rs, bs⟩ := d
      simp only at p q
      clear h1 h2 ht hb hr hl q1
      generalize RS rows = RR
      simp only [encE] at ec ⊢
      walk_at "evs"
  obtain ⟨e', s', f⟩ := row_loop (h := fun e => e.c) (F := fun t e s => [some (.val (RS rows)), some (.val (fr t)), e, s]) hs rows (0, 1) 1 none none (fun r h => ⟨hr r h, (hr r h).c⟩) bd01 (by omega)
  have h2 := okLen2
  clear hs hr hl
  rw [cf_mean_count, runB_eq (by rfl)]
  unfold b_mean_count
  change forF _ _ _ [_, some (.val (.tup [.int 0, .int 1])), _, _] _ = _ at f
  walk_at "evs"
theorem mean_result_ok (n k : Nat) {many : Nat} (rows : List Row) (i : Nat) (hi : i < many) (S : Sto) (hr : ∀ r ∈ rows, ROk many r) (hl : rows.length ≤ 20) :
    cf n (k + 3) 5 [RS rows, .int i] S = .ok (.d (fr (tot (fun e => e.rs.getD i 0) (0, 1) rows))) S := by
  have hs : ∀ (r : Row) (t : Int × Int) (b : Nat) (e s : Option Sl), ROk many r → HOk (fun e => e.rs.getD i 0) r → Bd b t → b ≤ 4500 →
      ∃ σ1 e' s', gT 2 (gsCons (gN 3) (gsCons (gN 4) gsNil)) (encR r) [some (.val (RS rows)), some (.val (.int i)), some (.val (fr t)), e, s] = some σ1 ∧ b_mean_result_f0 (cf n (k + 2)) n σ1 S = .nx [some (.val (RS rows)), some (.val (.int i)), some (.val (fr (stp (fun e => e.rs.getD i 0) t r))), e', s'] S := by
    intro r t b e s h1 h2 ht hb
    obtain ⟨d, x⟩ := r
    refine ⟨_, some (.val (encE d)), some (.val (fr x)), rfl, ?_⟩
    have ec := eqD_cut d
    have v2 := @vC
    have o2 := okLen2
    unfold b_mean_result_f0 stp
    cases d with
    | none =>
      simp only [decide_true] at ec
      have v1 := @vE
      clear h1 h2 ht hb hr hl hi
      generalize RS rows = RR
      walk_at "evs"
    | some d =>
      have q1 := mulI_bd h1.sh (h2 d rfl)
      have q := sum_ok n k ht q1 (by omega) S
      have p := prod_ok n k h1.sh (h2 d rfl) (by omega) S
      simp only [reduceCtorEq, decide_false] at ec
      have hl2 := (h1.rs d rfl).1
      obtain ⟨c, rs, bs⟩ := d
      have a : atI (rs.map D.int) (i : Int) = some (.int (rs.getD i 0)) := by
        refine atI_nat ?_
        simp only at hl2
        rw [List.getElem?_map, List.getD_eq_getElem?_getD, List.getElem?_eq_getElem (by omega)]; rfl
      simp only at p q ⊢
      clear h1 h2 ht hb hr hl q1 hl2 hi
      generalize RS rows = RR
      generalize rs.getD i 0 = z at *
      simp only [encE] at ec ⊢
      walk_at "evs"
  obtain ⟨e', s', f⟩ := row_loop (h := fun e => e.rs.getD i 0) (F := fun t e s => [some (.val (RS rows)), some (.val (.int i)), some (.val (fr t)), e, s]) hs rows (0, 1) 1 none none (fun r h => ⟨hr r h, fun e he => by
    obtain ⟨l, z⟩ := (hr r h).rs e he
    show (e.rs.getD i 0).natAbs < _
    rw [List.getD_eq_getElem?_getD, List.getElem?_eq_getElem (by omega)]
    exact z _ (List.getElem_mem _)⟩) bd01 (by omega)
  have h2 := okLen2
  clear hs hr hl
  rw [cf_mean_result, runB_eq (by rfl)]
  unfold b_mean_result
  change forF _ _ _ [_, _, some (.val (.tup [.int 0, .int 1])), _, _] _ = _ at f
  generalize e0 : tot (fun e => e.rs.getD i 0) (0, 1) rows = T at *
  clear e0
  walk_at "evs"
abbrev hEq (rs : List Int) : Dn → Int := fun e => if e.rs = rs then 1 else 0
theorem stp_eq {rs : List Int} {t : Int × Int} {r : Row} {b : Nat} (ht : Bd b t) (hr : Bd 100 r.2) : stp (hEq rs) t r = match r.1 with
    | none => t
    | some e => if e.rs = rs then addF t r.2 else t := by
  unfold stp
  cases r.1 with
  | none => rfl
  | some e =>
    simp only [hEq]
    by_cases h : e.rs = rs
    · rw [if_pos h, if_pos h, mulI_one hr]
    · rw [if_neg h, if_neg h, mulI_zero hr, addF_zero ht]
theorem share_of_ok (n k : Nat) {many : Nat} (rows : List Row) (rs0 : List Int) (S : Sto) (hr : ∀ r ∈ rows, ROk many r) (hl : rows.length ≤ 20) :
    cf n (k + 3) 6 [RS rows, encI rs0] S = .ok (.d (fr (tot (hEq rs0) (0, 1) rows))) S := by
  have hs : ∀ (r : Row) (t : Int × Int) (b : Nat) (e s : Option Sl), ROk many r → HOk (hEq rs0) r → Bd b t → b ≤ 4500 →
      ∃ σ1 e' s', gT 2 (gsCons (gN 3) (gsCons (gN 4) gsNil)) (encR r) [some (.val (RS rows)), some (.val (encI rs0)), some (.val (fr t)), e, s] = some σ1 ∧ b_share_of_f0 (cf n (k + 2)) n σ1 S = .nx [some (.val (RS rows)), some (.val (encI rs0)), some (.val (fr (stp (hEq rs0) t r))), e', s'] S := by
    intro r t b e s h1 h2 ht hb
    obtain ⟨d, x⟩ := r
    refine ⟨_, some (.val (encE d)), some (.val (fr x)), rfl, ?_⟩
    have ec := eqD_cut d
    have v2 := @vC
    have o2 := okLen2
    rw [stp_eq ht h1.sh]
    unfold b_share_of_f0
    cases d with
    | none =>
      simp only [decide_true] at ec
      have v1 := @vE
      clear h1 h2 ht hb hr hl
      generalize RS rows = RR
      walk_at "evs"
    | some d =>
      have q := sum_ok n k ht h1.sh (by omega) S
      simp only [reduceCtorEq, decide_false] at ec
      obtain ⟨c, rs, bs⟩ := d
      have ee : eqD (encI rs) (encI rs0) = some (decide (rs = rs0)) := by
        rw [eqD_ok (okD_le (k := 1) (ok_ints _) (by decide)) (okD_le (k := 1) (ok_ints _) (by decide)), eqB_ints]
      simp only at q
      clear h1 h2 ht hb hr hl
      generalize RS rows = RR
      simp only [encE] at ec ⊢
      by_cases hh : rs = rs0
      · rw [decide_eq_true hh] at ee
        simp only [hh]
        subst hh
        walk_at "evs"
      · rw [decide_eq_false hh] at ee
        simp only [hh]
        clear hh
        walk_at "evs"
  obtain ⟨e', s', f⟩ := row_loop (h := hEq rs0) (F := fun t e s => [some (.val (RS rows)), some (.val (encI rs0)), some (.val (fr t)), e, s]) hs rows (0, 1) 1 none none (fun r h => ⟨hr r h, fun e he => by
    simp only [hEq]; split <;> decide⟩) bd01 (by omega)
  have h2 := okLen2
  clear hs hr hl
  rw [cf_share_of, runB_eq (by rfl)]
  unfold b_share_of
  change forF _ _ _ [_, _, some (.val (.tup [.int 0, .int 1])), _, _] _ = _ at f
  generalize e0 : tot (hEq rs0) (0, 1) rows = T at *
  clear e0
  walk_at "evs"

theorem atI_map {α : Type} {f : α → D} {L : List α} {i : Nat} (hi : i < L.length) : atI (L.map f) (i : Int) = some (f L[i]) :=
  atI_nat (by rw [List.getElem?_map, List.getElem?_eq_getElem hi]; rfl)
theorem total_step (n k : Nat) {many : Nat} (h : Dn → Int) (L : List Row) (S : Sto) (hr : ∀ r ∈ L, ROk many r ∧ HOk h r) (hs : ∀ r ∈ L, r.1.isSome) (i : Nat) (hi : i < L.length) (t : Int × Int) (b : Nat) (ht : Bd b t) (hb : b ≤ 4500) :
    b__law_total_f0 (cf n (k + 2)) n [some (.val (.lst (L.map encR))), some (.val (.lst (L.map fun r => .int (hR h r)))), some (.val (fr t)), some (.val (.int i))] S =
      .nx [some (.val (.lst (L.map encR))), some (.val (.lst (L.map fun r => .int (hR h r)))), some (.val (fr (stp h t L[i]))), some (.val (.int i))] S := by
  have a1 := atI_map (f := encR) hi
  have a2 := atI_map (f := fun r : Row => D.int (hR h r)) hi
  have hm := List.getElem_mem hi
  generalize L[i] = r at a1 a2 hm ⊢
  obtain ⟨h1, h2⟩ := hr r hm
  have hs1 := hs r hm
  obtain ⟨d, x⟩ := r
  cases d with
  | none => simp at hs1
  | some d =>
    have m := e_mulB (lt_pow h1.sh.num (by decide : 100 ≤ 101)) (lt_pow (h2 d rfl) (by decide : 100 ≤ 101)) (by decide) (by decide) (by decide)
    have f := lfrac_ok n (k + 1) (x.1 * h d) x.2 S h1.sh.pos (lt_pow (natAbs_mul_lt h1.sh.num (h2 d rfl)) (by decide)) (lt_pow h1.sh.den (by decide))
    have q1 := mulI_bd h1.sh (h2 d rfl)
    have q := added_ok n k ht q1 (by omega) S
    change atI _ _ = some (D.int (h d)) at a2
    simp only at m f q
    unfold b__law_total_f0 stp
    simp only
    clear h1 h2 ht hb hr hi hm hs1 hs q1
    have e1 : mulI x (h d) = nrm (x.1 * h d) x.2 := rfl
    rw [e1] at q ⊢
    clear e1
    generalize L.map encR = A at *
    generalize (L.map fun r => D.int (hR h r)) = B at *
    generalize h d = z at *
    simp only [encR] at a1
    walk_at "evs"
theorem total_loop (n k : Nat) {many : Nat} (h : Dn → Int) (L : List Row) (S : Sto) (hr : ∀ r ∈ L, ROk many r ∧ HOk h r) (hs : ∀ r ∈ L, r.1.isSome) :
    ∀ (m i : Nat) (t : Int × Int) (b : Nat) (o : Option Sl), i + m = L.length → Bd b t → b + 201 * m ≤ 4500 →
    ∃ o', forF (gN 3) (b__law_total_f0 (cf n (k + 2)) n) (rngD (i : Int) m) [some (.val (.lst (L.map encR))), some (.val (.lst (L.map fun r => .int (hR h r)))), some (.val (fr t)), o] S =
      .nx [some (.val (.lst (L.map encR))), some (.val (.lst (L.map fun r => .int (hR h r)))), some (.val (fr (tot h t (L.drop i)))), o'] S := by
  intro m
  induction m with
  | zero =>
    intro i t b o hi ht hb
    rw [List.drop_eq_nil_of_le (by omega)]
    exact ⟨o, rfl⟩
  | succ m ih =>
    intro i t b o hi ht hb
    have hl : i < L.length := by omega
    have h1 := hr _ (List.getElem_mem hl)
    obtain ⟨o', e⟩ := ih (i + 1) (stp h t L[i]) (b + 201) (some (.val (.int i))) (by omega) (stp_bd ht h1.1.sh h1.2) (by omega)
    refine ⟨o', ?_⟩
    have st := total_step n k h L S hr hs i hl t b ht (by omega)
    rw [rngD_succ, for1 e_gN]
    simp only [List.set_cons_zero, List.set_cons_succ]
    rw [st, e_turnN, show (i : Int) + 1 = ((i + 1 : Nat) : Int) by omega, e, List.drop_eq_getElem_cons hl]
    rfl
theorem total_ok (n k : Nat) {many : Nat} (h : Dn → Int) (L : List Row) (S : Sto) (hr : ∀ r ∈ L, ROk many r ∧ HOk h r) (hs : ∀ r ∈ L, r.1.isSome) (hl : L.length ≤ 20) :
    cf n (k + 3) 17 [.lst (L.map encR), .lst (L.map fun r => .int (hR h r))] S = .ok (.d (fr (tot h (0, 1) L))) S := by
  obtain ⟨o', f⟩ := total_loop n k h L S hr hs L.length 0 (0, 1) 1 none (by omega) bd01 (by omega)
  rw [List.drop_zero] at f
  have h2 := okLen2
  have h3 : rng62 ((L.map encR).length : Int) = true := by
    rw [List.length_map]; exact rng_ok (by omega) (by omega)
  have h4 : (((L.map encR).length : Int)).toNat = L.length := by rw [List.length_map]; omega
  have h5 : ((0 : Nat) : Int) = 0 := rfl
  rw [h5] at f
  clear hs hr hl h5
  rw [cf__law_total, runB_eq (by rfl)]
  unfold b__law_total
  change forF _ _ _ [_, _, some (.val (.tup [.int 0, .int 1])), _] _ = _ at f
  generalize (L.map fun r => D.int (hR h r)) = B at *
  generalize L.map encR = A at *
  walk_at "evs"
/-! same -/
theorem is_int_ok (n k : Nat) (a : Int) (S : Sto) : cf n (k + 1) 10 [.int a] S = .ok (.d (.bl true)) S := by
  have h1 : isiP "int" (.int a) = some true := by rfl
  have h2 : isiP "bool" (.int a) = some false := by rfl
  rw [cf__law_is_int, runB_eq (by rfl)]
  unfold b__law_is_int
  walk_at "evs"
theorem same_int (n k : Nat) (a : Int) (S : Sto) : cf n (k + 2) 11 [.int a, .int a] S = .ok (.d (.bl true)) S := by
  have h1 : isiP "tuple" (.int a) = some false := by rfl
  have h2 : isiP "str" (.int a) = some false := by rfl
  have h3 := is_int_ok n k a S
  have h4 : decide (a = a) = true := decide_eq_true rfl
  rw [cf__law_same, runB_eq (by rfl)]
  unfold b__law_same
  walk_at "evs"
theorem same_nil (n k : Nat) (S : Sto) : cf n (k + 1) 11 [.tup [], .tup []] S = .ok (.d (.bl true)) S := by
  have h1 : isiP "tuple" (.tup []) = some true := by rfl
  have h4 : decide (((0 : Nat) : Int) = ((0 : Nat) : Int)) = true := decide_eq_true rfl
  have h5 : rng62 ((0 : Nat) : Int) = true := by decide
  have h6 : rngD 0 (((0 : Nat) : Int)).toNat = [] := rfl
  have h7 : ∀ g t e is σ S, lcF g t e is [] σ S = .ok [] σ S := fun _ _ _ _ _ _ => rfl
  have h8 : okLen ([] : List D) = true := rfl
  have h9 : allP [.lst []] = some (dBl true) := rfl
  rw [cf__law_same, runB_eq (by rfl)]
  unfold b__law_same
  walk_at "evs"
theorem same_fr (n k : Nat) (x : Int × Int) (S : Sto) : cf n (k + 3) 11 [fr x, fr x] S = .ok (.d (.bl true)) S := by
  obtain ⟨p, q⟩ := x
  have h1 : isiP "tuple" (.tup [.int p, .int q]) = some true := by rfl
  have h4 : decide (((2 : Nat) : Int) = ((2 : Nat) : Int)) = true := decide_eq_true rfl
  have h5 : rng62 ((2 : Nat) : Int) = true := by decide
  have h6 : rngD 0 (((2 : Nat) : Int)).toNat = [0, 1].map D.int := rfl
  have hp := same_int n k p S
  have hq := same_int n k q S
  have hl : lcF (gN 2) tTrue (b__law_same_e0 (cf n (k + 2)) n) [2] ([0, 1].map D.int) [some (.val (.tup [.int p, .int q])), some (.val (.tup [.int p, .int q])), none] S = .ok ([0, 1].map fun _ : Int => D.bl true) [some (.val (.tup [.int p, .int q])), some (.val (.tup [.int p, .int q])), none] S := by
    refine lc_map (f := fun _ : Int => D.bl true) rfl [0, 1] fun a ha => ?_
    simp only [List.mem_cons, List.not_mem_nil, or_false] at ha
    unfold b__law_same_e0
    rcases ha with rfl | rfl
    · walk_at "evs"
    · walk_at "evs"
  have h8 : okLen [D.bl true, D.bl true] = true := rfl
  have h9 : allP [.lst [D.bl true, D.bl true]] = some (dBl true) := rfl
  rw [cf__law_same, runB_eq (by rfl)]
  unfold b__law_same
  simp only [List.map_cons, List.map_nil] at hl h6
  clear hp hq
  walk_at "evs"

theorem addF_pos {a b : Nat} {t s : Int × Int} (ht : Bd a t) (hs : Bd b s) (h0 : 0 ≤ t.1) (h1 : 0 < s.1) : 0 < (addF t s).1 := by
  have hq : 0 < t.2 * s.2 := Int.mul_pos ht.pos hs.pos
  have hp : 0 < t.1 * s.2 + s.1 * t.2 := by
    have := Int.mul_nonneg h0 (Int.le_of_lt hs.pos)
    have := Int.mul_pos h1 ht.pos
    omega
  exact Int.ediv_pos_of_pos_of_dvd hp (Int.le_of_lt (gcdI_pos hq)) (Int.gcd_dvd_left _ _)
theorem nrm_pos {p q : Int} (hp : 0 < p) (hq : 0 < q) : 0 < (nrm p q).1 :=
  Int.ediv_pos_of_pos_of_dvd hp (Int.le_of_lt (gcdI_pos hq)) (Int.gcd_dvd_left _ _)
theorem tot_pos {many : Nat} : ∀ (rows : List Row) (t : Int × Int) (b : Nat), Bd b t → 0 ≤ t.1 → (∀ r ∈ rows, ROk many r) →
    0 ≤ (tot (fun _ => 1) t rows).1 ∧ ((0 < t.1 ∨ ∃ r ∈ rows, r.1.isSome) → 0 < (tot (fun _ => 1) t rows).1) := by
  intro rows
  induction rows with
  | nil =>
    intro t b ht h0 _
    exact ⟨h0, fun h => h.elim id fun ⟨r, hr, _⟩ => absurd hr (by simp)⟩
  | cons r rows ih =>
    intro t b ht h0 hr
    have h1 := hr r List.mem_cons_self
    have hb : Bd (b + 201) (stp (fun _ => 1) t r) := stp_bd ht h1.sh fun _ _ => (by decide : (1 : Int).natAbs < 2 ^ 100)
    have hh : ∀ r' ∈ rows, ROk many r' := fun r' h' => hr r' (List.mem_cons_of_mem _ h')
    show 0 ≤ (tot (fun _ => 1) (stp (fun _ => 1) t r) rows).1 ∧ (_ → 0 < (tot (fun _ => 1) (stp (fun _ => 1) t r) rows).1)
    obtain ⟨d, x⟩ := r
    cases d with
    | none =>
      obtain ⟨i1, i2⟩ := ih t (b + 201) hb h0 hh
      refine ⟨i1, fun h => i2 ?_⟩
      rcases h with h | ⟨r, hr, hs⟩
      · exact .inl h
      · rcases List.mem_cons.mp hr with rfl | hr
        · simp at hs
        · exact .inr ⟨r, hr, hs⟩
    | some d =>
      have hp : 0 < (stp (fun _ => 1) t (some d, x)).1 := by
        show 0 < (addF t (mulI x 1)).1
        rw [mulI_one h1.sh]
        exact addF_pos ht h1.sh h0 h1.pos
      obtain ⟨i1, i2⟩ := ih _ (b + 201) hb (Int.le_of_lt hp) hh
      exact ⟨i1, fun _ => i2 (.inl hp)⟩
theorem tot_filter (h : Dn → Int) : ∀ (rows : List Row) (t : Int × Int), tot h t (rows.filter fun r => r.1.isSome) = tot h t rows
  | [], _ => rfl
  | r :: rows, t => by
    obtain ⟨d, x⟩ := r
    cases d with
    | none => rw [List.filter_cons_of_neg (by simp)]; exact tot_filter h rows t
    | some d => rw [List.filter_cons_of_pos (by rfl)]; exact tot_filter h rows _
abbrev one : Dn → Int := fun _ => 1
abbrev cnt : Dn → Int := fun e => e.c
def meanD (rows : List Row) : D := if (rows.filter fun r => r.1.isSome) = [] then .tup [] else
  fr (nrm ((tot cnt (0, 1) rows).1 * (tot one (0, 1) rows).2) ((tot cnt (0, 1) rows).2 * (tot one (0, 1) rows).1))
theorem ended_mean_ok (n k : Nat) {many : Nat} (rows : List Row) (S : Sto) (hr : ∀ r ∈ rows, ROk many r) (hl : rows.length ≤ 11) :
    cf n (k + 4) 7 [RS rows] S = .ok (.d (meanD rows)) S := by
  have s1 := share_ended_ok n k rows S hr (by omega)
  have s2 := mean_count_ok n k rows S hr (by omega)
  have b1 : Bd 2300 (tot one (0, 1) rows) := (tot_bd rows (0, 1) 1 bd01 fun r h => ⟨hr r h, fun _ _ => (by decide : (1 : Int).natAbs < 2 ^ 100)⟩).mono (by omega)
  have b2 : Bd 2300 (tot cnt (0, 1) rows) := (tot_bd rows (0, 1) 1 bd01 fun r h => ⟨hr r h, (hr r h).c⟩).mono (by omega)
  obtain ⟨p0, p1⟩ := tot_pos rows (0, 1) 1 bd01 (by decide) hr
  rw [cf_ended_mean, runB_eq (by rfl)]
  unfold b_ended_mean meanD
  have o2 := okLen2
  by_cases hd : (rows.filter fun r => r.1.isSome) = []
  · rw [if_pos hd]
    have e1 : tot one (0, 1) rows = (0, 1) := by rw [← tot_filter, hd]; rfl
    change cf n (k + 3) 3 [RS rows] S = .ok (.d (fr (tot one (0, 1) rows))) S at s1
    rw [e1] at s1
    have h0 : decide ((0 : Int) = 0) = true := rfl
    have h3 : okLen ([] : List D) = true := rfl
    clear hr hl p0 p1 b1 b2 s2 e1 hd
    generalize RS rows = RR at *
    walk_at "evs"
  · rw [if_neg hd]
    have p2 : 0 < (tot one (0, 1) rows).1 := p1 (.inr (by
      obtain ⟨r, hr'⟩ := List.exists_mem_of_ne_nil _ hd
      rw [List.mem_filter] at hr'
      exact ⟨r, hr'.1, hr'.2⟩))
    change cf n (k + 3) 3 [RS rows] S = .ok (.d (fr (tot one (0, 1) rows))) S at s1
    change cf n (k + 3) 4 [RS rows] S = .ok (.d (fr (tot cnt (0, 1) rows))) S at s2
    generalize tot one (0, 1) rows = T1 at *
    generalize tot cnt (0, 1) rows = T2 at *
    have m1 := e_mulB b2.num b1.den (by decide) (by decide) (by decide)
    have m2 := e_mulB b2.den b1.num (by decide) (by decide) (by decide)
    have f := frac_ok n (k + 2) (T2.1 * T1.2) (T2.2 * T1.1) S (Int.mul_pos b2.pos p2) (lt_pow (natAbs_mul_lt b2.den b1.num) (by decide))
    have h0 : decide (T1.1 = 0) = false := decide_eq_false (by omega)
    clear hr hl p0 p1 b1 b2 hd p2
    generalize RS rows = RR at *
    walk_at "evs"
/-! drawing numbers, ends -/
theorem p9 : powP (.int 10) (.int 9) = some (.d (.int 1000000000)) := by
  have h : (10 : Int) ^ (9 : Int).toNat = 1000000000 := by decide
  rw [← h]; rfl
theorem p20 : powP (.int 10) (.int 20) = some (.d (.int 100000000000000000000)) := by
  have h : (10 : Int) ^ (20 : Int).toNat = 100000000000000000000 := by decide
  rw [← h]; rfl
theorem p21 : powP (.int 10) (.int 21) = some (.d (.int 1000000000000000000000)) := by
  have h : (10 : Int) ^ (21 : Int).toNat = 1000000000000000000000 := by decide
  rw [← h]; rfl
theorem p29 : powP (.int 10) (.int 29) = some (.d (.int 100000000000000000000000000000)) := by
  have h : (10 : Int) ^ (29 : Int).toNat = 100000000000000000000000000000 := by decide
  rw [← h]; rfl
theorem pow100 : (2 : Nat) ^ 100 = 1267650600228229401496703205376 := by decide
theorem small_of {z : Int} (h1 : -1267650600228229401496703205376 < z) (h2 : z < 1267650600228229401496703205376) : z.natAbs < 2 ^ 100 := by rw [pow100]; omega
theorem number_ok (n k : Nat) (S : Sto) (hS : StOk S) :
    ∃ (z : Int) (S' : Sto), cf n (k + 2) 14 [.ref 0] S = .ok (.d (.int z)) S' ∧ StOk S' ∧ z.natAbs < 2 ^ 100 := by
  obtain ⟨r, S1, e1, hS1, l1, l2⟩ := draw_ok n k S 4 hS (by decide) (by decide)
  have o3 : ∀ a b c : D, okLen [a, b, c] = true := fun _ _ _ => rfl
  have hr : r = 0 ∨ r = 1 ∨ r = 2 ∨ r = 3 := by omega
  rw [cf__law_number, runB_eq (by rfl)]
  unfold b__law_number
  rcases hr with rfl | rfl | rfl | rfl
  · obtain ⟨z, S2, e2, hS2, l3, l4⟩ := draw_ok n k S1 1000000000 hS1 (by decide) (by decide)
    have q1 := p9; have q2 := p21; have q3 := p29
    have m : mulIP (.int z) (.int 1000000000000000000000) = some (.d (.int (z * 1000000000000000000000))) :=
      e_mulB (a := 100) (b := 100) (by rw [pow100]; omega) (by rw [pow100]; decide) (by decide) (by decide) (by decide)
    have d0 : decide ((0 : Int) = 0) = true := rfl
    have fin : (z * 1000000000000000000000 - 100000000000000000000000000000).natAbs < 2 ^ 100 := small_of (by omega) (by omega)
    clear l1 l2 l3 l4 hS hS1
    refine ⟨z * 1000000000000000000000 - 100000000000000000000000000000, S2, ?_, hS2, fin⟩
    clear fin hS2
    walk_at "evs"
  · obtain ⟨z, S2, e2, hS2, l3, l4⟩ := draw_ok n k S1 3 hS1 (by decide) (by decide)
    have d0 : decide ((1 : Int) = 0) = false := rfl
    have d1 : (1 : Int) - 1 = 0 := rfl
    have fin : (z - 1).natAbs < 2 ^ 100 := small_of (by omega) (by omega)
    clear l1 l2 l3 l4 hS hS1
    refine ⟨z - 1, S2, ?_, hS2, fin⟩
    clear fin hS2
    walk_at "evs"
  · obtain ⟨z, S2, e2, hS2, l3, l4⟩ := draw_ok n k S1 19 hS1 (by decide) (by decide)
    have d0 : decide ((2 : Int) = 0) = false := rfl
    have d1 : (2 : Int) - 1 = 1 := rfl
    have fin : (z - 9).natAbs < 2 ^ 100 := small_of (by omega) (by omega)
    clear l1 l2 l3 l4 hS hS1
    refine ⟨z - 9, S2, ?_, hS2, fin⟩
    clear fin hS2
    walk_at "evs"
  · obtain ⟨z, S2, e2, hS2, l3, l4⟩ := draw_ok n k S1 2001 hS1 (by decide) (by decide)
    have d0 : decide ((3 : Int) = 0) = false := rfl
    have d1 : (3 : Int) - 1 = 2 := rfl
    have fin : (z - 1000).natAbs < 2 ^ 100 := small_of (by omega) (by omega)
    clear l1 l2 l3 l4 hS hS1
    refine ⟨z - 1000, S2, ?_, hS2, fin⟩
    clear fin hS2
    walk_at "evs"

/-- what the drawn ends keep -/
structure EOk (many : Nat) (e : Dn) : Prop where
  c : e.c.natAbs < 2 ^ 100
  len : e.rs.length = many
  rs : ∀ z ∈ e.rs, z.natAbs < 2 ^ 100
abbrev eFr (many arrays : Int) (R3 : D) (bs : List D) (o5 : Option Sl) : Fr := [some (.val (.ref 0)), some (.val (.int many)), some (.val (.int arrays)), some (.val R3), some (.own (.lst bs)), o5, none]
theorem lt_line {n : Nat} (h : n ≤ 1000) : n < sizeLine := Nat.lt_of_le_of_lt h (by decide)
theorem end_inner (n k : Nat) (many arrays : Int) (o5 : Option Sl) (R3 : D) (bs : List D) (S : Sto) (hS : StOk S) (hb : bs.length ≤ 100) :
    ∃ (b : List Int) (S' : Sto), b__law_end_f1 (cf n (k + 1)) n (eFr many arrays R3 bs o5) S = .nx (eFr many arrays R3 (bs ++ [encI b]) o5) S' ∧ StOk S' := by
  obtain ⟨m, S1, e1, hS1, l1, l2⟩ := draw_ok n k S 3 hS (by decide) (by decide)
  obtain ⟨b, S2, e2, hS2, lb, _⟩ := lc_inv (i := 6) (e := b__law_end_e0 (cf n (k + 1)) n) (σ := eFr many arrays R3 bs o5) D.int (fun _ _ => True) StOk rfl (rngD 0 m.toNat) (fun d hd S hS => by
    obtain ⟨z, S', e, hS', _, _⟩ := draw_ok n k S 5 hS (by decide) (by decide)
    refine ⟨z - 2, S', ?_, hS', trivial⟩
    unfold b__law_end_e0
    clear hd hS' hS hS1 l1 l2 hb
    walk_at "evs") S1 hS1
  have lb' : okLen (b.map D.int) = true := len_le (by
    rw [List.length_map, lb]
    show ((List.range m.toNat).map _).length ≤ 1000
    rw [List.length_map, List.length_range]; omega)
  have r1 : rng62 m = true := rng_ok l1 (by omega)
  have ap : appK (encI b) (.lst bs) = some (.lst (bs ++ [encI b]), .non) := e_appK (lt_line (by omega))
  refine ⟨b, S2, ?_, hS2⟩
  unfold b__law_end_f1
  clear hS hS1 hS2 lb hb l1 l2
  walk_at "evs"
theorem end_ok (n k : Nat) (many : Nat) (hm : many ≤ 3) (arrays : Int) (ha : 0 ≤ arrays ∧ arrays ≤ 2) (S : Sto) (hS : StOk S) :
    ∃ (e : Dn) (S' : Sto), cf n (k + 3) 15 [.ref 0, .int many, .int arrays] S = .ok (.d (encE (some e))) S' ∧ StOk S' ∧ EOk many e := by
  obtain ⟨rs, S1, e1, hS1, l1, b1⟩ := lc_inv (i := 5) (e := b__law_end_e2 (cf n (k + 2)) n) (σ := [some (.val (.ref 0)), some (.val (.int many)), some (.val (.int arrays)), none, none, none, none]) D.int (fun _ z => z.natAbs < 2 ^ 100) StOk rfl (rngD 0 ((many : Int)).toNat) (fun d hd S hS => by
    obtain ⟨z, S', e, hS', hz⟩ := number_ok n k S hS
    refine ⟨z, S', ?_, hS', hz⟩
    unfold b__law_end_e2
    clear hd hS' hS hz ha hm
    walk_at "evs") S hS
  have l1' : rs.length = many := by
    rw [l1]; show ((List.range _).map _).length = _
    rw [List.length_map, List.length_range]; omega
  obtain ⟨σ', S2, e2, ⟨bs, o5, rfl, hS2, hl2⟩⟩ := for_inv (g := gN 5) (b := b__law_end_f1 (cf n (k + 2)) n) (fun ds σ S => ∃ (bs : List (List Int)) (o5 : Option Sl), σ = eFr many arrays (encI rs) (bs.map encI) o5 ∧ StOk S ∧ bs.length + ds.length ≤ 50)
    (fun d ds σ S h => by
      obtain ⟨bs, o5, rfl, hS, hl⟩ := h
      rw [List.length_cons] at hl
      obtain ⟨b, S', e, hS'⟩ := end_inner n (k + 1) many arrays (some (.val d)) (encI rs) (bs.map encI) S hS (by rw [List.length_map]; omega)
      refine ⟨_, _, S', e_gN, e, bs ++ [b], some (.val d), by rw [List.map_append]; rfl, hS', ?_⟩
      rw [List.length_append]; simp only [List.length_cons, List.length_nil]; omega)
    (rngD 0 arrays.toNat) (eFr many arrays (encI rs) [] none) S1 ⟨[], none, rfl, hS1, by
      show 0 + ((List.range _).map _).length ≤ 50
      rw [List.length_map, List.length_range]; omega⟩
  obtain ⟨x, S3, e3, hS3, x0, x1⟩ := draw_ok n (k + 1) S2 2 hS2 (by decide) (by decide)
  have hx : x = 0 ∨ x = 1 := by omega
  obtain ⟨M, hM, hM2, aM⟩ : ∃ M : Int, 0 < M ∧ M ≤ 1000 ∧ atI [D.int 4, D.int 1000] x = some (.int M) := by
    rcases hx with rfl | rfl
    · exact ⟨4, by decide, by decide, e_at0⟩
    · exact ⟨1000, by decide, by decide, e_at1⟩
  obtain ⟨c, S4, e4, hS4, c0, c1⟩ := draw_ok n (k + 1) S3 M hS3 hM (divOk_of hM (by
    have : M.natAbs < 2 ^ 10 := by omega
    exact lt_pow this (by decide)))
  have lr : okLen (rs.map D.int) = true := len_le (by rw [List.length_map]; omega)
  have r1 : rng62 (many : Int) = true := rng_ok (by omega) (by omega)
  have r2 : rng62 arrays = true := rng_ok (by omega) (by omega)
  have o2 := okLen2
  have o0 : okLen ([] : List D) = true := rfl
  have o4 : ∀ a b c d : D, okLen [a, b, c, d] = true := fun _ _ _ _ => rfl
  refine ⟨⟨c, rs, bs⟩, S4, ?_, hS4, ⟨?_, l1', fun z hz => by obtain ⟨_, _, h⟩ := b1 z hz; exact h⟩⟩
  · rw [cf__law_end, runB_eq (by rfl)]
    unfold b__law_end
    clear hS hS1 hS2 hS3 hS4 hl2 l1 l1' hm ha hM hM2 x0 x1 hx c0 c1 b1
    simp only [encE]
    walk_at "evs"
  · have : c.natAbs < 2 ^ 10 := by omega
    exact lt_pow this (by decide)

def encS (e : Dn) : D := encE (some e)
theorem inL_ok (e : Dn) (es : List Dn) : inLD (encS e) (.lst (es.map encS)) = some (decide (e ∈ es)) := by
  rw [inLD_ok (d := encS e) (okE _) (okD_le (k := 64) (by
    rw [okD]
    refine okDs_all fun d hd => ?_
    obtain ⟨x, _, rfl⟩ := List.mem_map.mp hd
    show okD 63 (encE (some x)) = true
    refine ok_tup (k := 62) fun d hd => ?_
    simp only [List.mem_cons, List.not_mem_nil, or_false] at hd
    rcases hd with rfl | rfl | rfl | rfl
    · exact ok_str (by decide +kernel)
    · exact ok_int
    · exact okD_le (k := 1) (ok_ints x.rs) (by decide)
    · refine okD_le (k := 2) (ok_tup fun d hd => ?_) (by decide)
      obtain ⟨b, _, rfl⟩ := List.mem_map.mp hd
      exact ok_ints b) (by decide))]
  congr 1
  rw [List.any_map]
  rw [Bool.eq_iff_iff, List.any_eq_true, decide_eq_true_iff]
  constructor
  · rintro ⟨x, hx, h⟩
    have : decide (some x = some e) = true := (eqE (some x) (some e)).symm.trans h
    simp only [decide_eq_true_eq, Option.some.injEq] at this
    rw [← this]; exact hx
  · intro h
    exact ⟨e, h, (eqE (some e) (some e)).trans (by simp)⟩
theorem eq_nil (L : List D) (hL : okD 64 (.lst L) = true) : eqD (.lst L) (.lst []) = some (decide (L = [])) := by
  rw [eqD_ok hL (by rfl)]
  congr 1
  cases L with
  | nil => rw [eqB, eqBs]; rfl
  | cons a L => simp [eqB, eqBs]
theorem ok_es (es : List (Option Dn)) : okD 64 (.lst (es.map encE)) = true := by
  rw [okD]
  refine okDs_all fun d hd => ?_
  obtain ⟨x, _, rfl⟩ := List.mem_map.mp hd
  cases x with
  | none => exact ok_tup (k := 62) fun d hd => by rw [List.mem_singleton.mp hd]; exact ok_str (by decide +kernel)
  | some x =>
    refine ok_tup (k := 62) fun d hd => ?_
    simp only [List.mem_cons, List.not_mem_nil, or_false] at hd
    rcases hd with rfl | rfl | rfl | rfl
    · exact ok_str (by decide +kernel)
    · exact ok_int
    · exact okD_le (k := 1) (ok_ints x.rs) (by decide)
    · refine okD_le (k := 2) (ok_tup fun d hd => ?_) (by decide)
      obtain ⟨b, _, rfl⟩ := List.mem_map.mp hd
      exact ok_ints b
theorem map_encS (es : List Dn) : es.map encS = (es.map some).map encE := by rw [List.map_map]; rfl
abbrev rFr (many arrays : Int) (es : List D) (o4 o7 : Option Sl) : Fr := [some (.val (.ref 0)), some (.val (.int many)), some (.own (.lst es)), some (.val (.int arrays)), o4, none, none, o7]
/-- the end that a turn keeps, and what goes before -/
theorem rows_inner (n k : Nat) (many : Nat) (hm : many ≤ 3) (arrays : Int) (ha : 0 ≤ arrays ∧ arrays ≤ 2) (es : List Dn) (he : ∀ e ∈ es, EOk many e) (hl : es.length ≤ 100) (o4 o7 : Option Sl) (S : Sto) (hS : StOk S) :
    ∃ (es' : List Dn) (o7' : Option Sl) (S' : Sto), b__law_rows_f2 (cf n (k + 3)) n (rFr many arrays (es.map encS) o4 o7) S = .nx (rFr many arrays (es'.map encS) o4 o7') S' ∧ StOk S' ∧ (∀ e ∈ es', EOk many e) ∧ es'.length ≤ es.length + 1 := by
  obtain ⟨e, S1, e1, hS1, he1⟩ := end_ok n k many hm arrays ha S hS
  have en : eqD (.lst (es.map encS)) (.lst []) = some (decide (es.map encS = [])) := by rw [map_encS]; exact eq_nil _ (ok_es _)
  have o0 : okLen ([] : List D) = true := rfl
  have o4' : ∀ a b c d : D, okLen [a, b, c, d] = true := fun _ _ _ _ => rfl
  have fin : ∀ (f : Dn) (S' : Sto), EOk many f → StOk S' →
      ∃ es' o7' S'', sIfS (sB (s2 ninLP (sVO 7) (sVO 2))) (sDrop (sMeth appK (sVO 2) (sD (sV 7)))) sNx (rFr many arrays (es.map encS) o4 (some (.val (encS f)))) S' = .nx (rFr many arrays (List.map encS es') o4 o7') S'' ∧ StOk S'' ∧ (∀ e ∈ es', EOk many e) ∧ es'.length ≤ es.length + 1 := by
    intro f S' hf hS'
    have hin := inL_ok f es
    have v : ∀ σ S, view σ S (.d (encS f)) = some (encS f) := fun _ _ => rfl
    by_cases hh : f ∈ es
    · rw [decide_eq_true hh] at hin
      refine ⟨es, some (.val (encS f)), S', ?_, hS', he, by omega⟩
      · clear he1 hS hS' he hf hl
        generalize encS f = F at *
        generalize es.map encS = L at *
        clear e1 en
        walk_at "evs"
    · rw [decide_eq_false hh] at hin
      have ap : appK (encS f) (.lst (es.map encS)) = some (.lst (es.map encS ++ [encS f]), .non) := e_appK (lt_line (by rw [List.length_map]; omega))
      refine ⟨es ++ [f], some (.val (encS f)), S', ?_, hS', fun x hx => ?_, by rw [List.length_append]; exact Nat.le_refl _⟩
      · rw [List.map_append, List.map_cons, List.map_nil]
        clear he1 hS hS' he hf hl
        generalize encS f = F at *
        generalize es.map encS = L at *
        clear e1 en
        walk_at "evs"
      · rcases List.mem_append.mp hx with h | h
        · exact he x h
        · rw [List.mem_singleton.mp h]; exact hf
  unfold b__law_rows_f2
  cases es with
  | nil =>
    have d0 : decide (List.map encS [] = []) = true := rfl
    rw [d0] at en
    obtain ⟨es', o7', S2, f1, f2, f3, f4⟩ := fin e S1 he1 hS1
    refine ⟨es', o7', S2, ?_, f2, f3, f4⟩
    change cf n (k + 3) 15 _ S = .ok (.d (encS e)) S1 at e1
    generalize (sIfS (sB (s2 ninLP (sVO 7) (sVO 2))) (sDrop (sMeth appK (sVO 2) (sD (sV 7)))) sNx) = last at *
    clear fin hS hS1 f2 f3 f4 he1 he hl hm ha d0
    simp only [List.map_nil] at *
    walk_at "evs"
  | cons x es =>
    have d0 : decide (List.map encS (x :: es) = []) = false := rfl
    rw [d0] at en
    obtain ⟨y, S2, e2, hS2, y0, y1⟩ := draw_ok n (k + 2) S1 3 hS1 (by decide) (by decide)
    by_cases hy : y = 0
    · subst hy
      have dy : decide ((0 : Int) = 0) = true := rfl
      have hx := he x List.mem_cons_self
      obtain ⟨es', o7', S3, f1, f2, f3, f4⟩ := fin ⟨e.c, x.rs, e.bs⟩ S2 ⟨he1.c, hx.len, hx.rs⟩ hS2
      refine ⟨es', o7', S3, ?_, f2, f3, f4⟩
      have t1 : encS x = .tup [.str "done", .int x.c, encI x.rs, .tup (x.bs.map encI)] := rfl
      have t2 : encS ⟨e.c, x.rs, e.bs⟩ = .tup [.str "done", .int e.c, encI x.rs, .tup (e.bs.map encI)] := rfl
      change cf n (k + 3) 15 _ S = .ok (.d (.tup [.str "done", .int e.c, encI e.rs, .tup (e.bs.map encI)])) S1 at e1
      generalize (sIfS (sB (s2 ninLP (sVO 7) (sVO 2))) (sDrop (sMeth appK (sVO 2) (sD (sV 7)))) sNx) = last at *
      rw [t2] at f1
      clear fin hS hS1 hS2 f2 f3 f4 he1 he hl hm ha d0 hx y0 y1 t2
      simp only [List.map_cons, t1] at *
      clear t1
      generalize es.map encS = L at *
      walk_at "evs"
    · have dy : decide (y = 0) = false := decide_eq_false hy
      obtain ⟨es', o7', S3, f1, f2, f3, f4⟩ := fin e S2 he1 hS2
      refine ⟨es', o7', S3, ?_, f2, f3, f4⟩
      change cf n (k + 3) 15 _ S = .ok (.d (encS e)) S1 at e1
      generalize (sIfS (sB (s2 ninLP (sVO 7) (sVO 2))) (sDrop (sMeth appK (sVO 2) (sD (sV 7)))) sNx) = last at *
      clear fin hS hS1 hS2 f2 f3 f4 he1 he hl hm ha d0 y0 y1 hy
      generalize (x :: es).map encS = L at *
      walk_at "evs"

def pyE : Option Dn → PyData
  | none => .tuple [.str "cut"]
  | some e => .tuple [.str "done", .int e.c, .tuple (e.rs.map .int), .tuple (e.bs.map fun b => .tuple (b.map .int))]
theorem py_ints (l : List Int) : toPy (encI l) = some (.tuple (l.map .int)) := by
  unfold encI; rw [toPy, toPys_map (enc := D.int) (py := .int) (fun a => by rw [toPy])]
theorem py_E (e : Option Dn) : toPy (encE e) = some (pyE e) := by
  cases e with
  | none => rfl
  | some e =>
    simp only [encE, pyE]
    rw [toPy, toPys, toPys, toPys, toPys, toPys, py_ints, toPy, toPy, toPy, toPys_map (enc := encI) (py := fun b => .tuple (b.map .int)) py_ints]
theorem alike_ints : ∀ a b : List Int, PySem.W.alikeAll (a.map PyData.int) (b.map PyData.int) = true
  | [], _ => by simp [PySem.W.alikeAll]
  | _ :: _, [] => by simp [PySem.W.alikeAll]
  | x :: a, y :: b => by simp [PySem.W.alikeAll, PySem.W.alike, alike_ints a b]
theorem alike_intss : ∀ a b : List (List Int), PySem.W.alikeAll (a.map fun b => PyData.tuple (b.map .int)) (b.map fun b => PyData.tuple (b.map .int)) = true
  | [], _ => by simp [PySem.W.alikeAll]
  | _ :: _, [] => by simp [PySem.W.alikeAll]
  | x :: a, y :: b => by simp [PySem.W.alikeAll, PySem.W.alike, alike_ints, alike_intss a b]
theorem alike_E (a b : Option Dn) : PySem.W.alike (pyE a) (pyE b) = true := by
  cases a <;> cases b <;> simp [pyE, PySem.W.alike, PySem.W.alikeAll, alike_ints, alike_intss]
theorem depth_E (a : Option Dn) : (pyE a).depth ≤ 64 := by
  obtain ⟨p, e, _, h⟩ := okD_py 64 _ (okE a)
  rw [py_E] at e
  cases e; exact h
theorem sort_E (es : List (Option Dn)) : ∃ es' : List (Option Dn), es'.Perm es ∧ sortP [.lst (es.map encE)] = some (.f (.lst (es'.map encE))) :=
  ⟨_, List.mergeSort_perm _ _, sort_ok py_E alike_E (.inl fun a => by cases a <;> rfl) depth_E es⟩
theorem draw_k (n k : Nat) (x : Int) (hx : 0 ≤ x ∧ x < 3) (S : Sto) (hS : StOk S) :
    ∃ (M : Int), atI [D.int 2, D.int 30, D.int 100000000000000000000] x = some (.int M) ∧ ∃ c S', cf n (k + 1) 9 [.ref 0, .int M] S = .ok (.d (.int c)) S' ∧ StOk S' ∧ 0 ≤ c ∧ c < 100000000000000000000 := by
  have h : x = 0 ∨ x = 1 ∨ x = 2 := by omega
  rcases h with rfl | rfl | rfl
  · obtain ⟨c, S', e, hS', l, u⟩ := draw_ok n k S 2 hS (by decide) (by decide)
    exact ⟨2, e_at0, c, S', e, hS', l, by omega⟩
  · obtain ⟨c, S', e, hS', l, u⟩ := draw_ok n k S 30 hS (by decide) (by decide)
    exact ⟨30, e_at1, c, S', e, hS', l, by omega⟩
  · obtain ⟨c, S', e, hS', l, u⟩ := draw_ok n k S 100000000000000000000 hS (by decide) (by decide)
    exact ⟨_, e_at2, c, S', e, hS', l, by omega⟩
theorem sum_le {l : List Int} {m : Int} (h : ∀ c ∈ l, 1 ≤ c ∧ c ≤ m) : ∀ c ∈ l, c ≤ l.sum := by
  induction l with
  | nil => intro c hc; exact absurd hc (by simp)
  | cons a l ih =>
    have h2 : 0 ≤ l.sum := by
      clear ih
      induction l with
      | nil => simp
      | cons b l ih => rw [List.sum_cons]; have := h b (by simp); have := ih (fun c hc => h c (by simp at hc ⊢; rcases hc with h | h <;> simp [h])); omega
    intro c hc
    rw [List.sum_cons]
    have ha := h a List.mem_cons_self
    rcases List.mem_cons.mp hc with rfl | hc
    · omega
    · have := ih (fun c hc => h c (List.mem_cons_of_mem _ hc)) c hc; omega
theorem sum_ub {l : List Int} {m : Int} (h : ∀ c ∈ l, 1 ≤ c ∧ c ≤ m) : l.sum ≤ l.length * m := by
  induction l with
  | nil => simp
  | cons a l ih =>
    rw [List.sum_cons, List.length_cons]
    have := h a List.mem_cons_self
    have := ih fun c hc => h c (List.mem_cons_of_mem _ hc)
    have e : ((l.length + 1 : Nat) : Int) * m = l.length * m + m := by
      rw [Int.natCast_add, Int.add_mul]; omega
    omega
theorem rows_ok (n k : Nat) (many : Nat) (hm : many ≤ 3) (S : Sto) (hS : StOk S) :
    ∃ (rows : List Row) (S' : Sto), cf n (k + 4) 16 [.ref 0, .int many] S = .ok (.d (RS rows)) S' ∧ StOk S' ∧ (∀ r ∈ rows, ROk many r) ∧ rows.length ≤ 10 := by
  obtain ⟨arrays, S1, e1, hS1, a0, a1⟩ := draw_ok n (k + 2) S 3 hS (by decide) (by decide)
  obtain ⟨m, S2, e2, hS2, m0, m1⟩ := draw_ok n (k + 2) S1 9 hS1 (by decide) (by decide)
  obtain ⟨σ', S3, e3, ⟨es, o4, o7, rfl, hS3, hes, hl3⟩⟩ := for_inv (g := gN 4) (b := b__law_rows_f2 (cf n (k + 3)) n) (fun ds σ S => ∃ (es : List Dn) (o4 o7 : Option Sl), σ = rFr many arrays (es.map encS) o4 o7 ∧ StOk S ∧ (∀ e ∈ es, EOk many e) ∧ es.length + ds.length ≤ 9)
    (fun d ds σ S h => by
      obtain ⟨es, o4, o7, rfl, hS, he, hl⟩ := h
      rw [List.length_cons] at hl
      obtain ⟨es', o7', S', e, hS', he', hl'⟩ := rows_inner n k many hm arrays ⟨a0, by omega⟩ es he (by omega) (some (.val d)) o7 S hS
      exact ⟨_, _, S', e_gN, e, es', some (.val d), o7', rfl, hS', he', by omega⟩)
    (rngD 0 m.toNat) (rFr many arrays [] none none) S2 ⟨[], none, none, rfl, hS2, fun e he => absurd he (by simp), by
      show 0 + ((List.range _).map _).length ≤ 9
      rw [List.length_map, List.length_range]; omega⟩
  -- the end that may be cut
  obtain ⟨fs, S4, e4, hS4, hfs, lf0, lf1⟩ : ∃ (fs : List (Option Dn)) (S4 : Sto), sIfS (sOr (sB (s2 eqP (sVO 2) (sO (sD (sLst nilD))))) (sB (s2 eqP (sO (sD (sCall (cf n (k + 3) 9) [] (consD (sD (sV 0)) (consD (sD (sC (.int 2))) nilD))))) (sO (sD (sC (.int 0)))))))
      (sDrop (sMeth appK (sVO 2) (sD (sTup (consD (sD (sC (.str "cut"))) nilD))))) sNx (rFr many arrays (es.map encS) o4 o7) S3 = .nx (rFr many arrays (fs.map encE) o4 o7) S4 ∧ StOk S4 ∧ (∀ f ∈ fs, ∀ e, f = some e → EOk many e) ∧ 0 < fs.length ∧ fs.length ≤ 10 := by
    have en : eqD (.lst (es.map encS)) (.lst []) = some (decide (es.map encS = [])) := by rw [map_encS]; exact eq_nil _ (ok_es _)
    have o0 : okLen ([] : List D) = true := rfl
    have o1 : ∀ a : D, okLen [a] = true := fun _ => rfl
    have hes' : ∀ f ∈ es.map some, ∀ e, f = some e → EOk many e := fun f hf e he => by
      subst he
      obtain ⟨x, hx, h⟩ := List.mem_map.mp hf
      cases h; exact hes _ hx
    have hes2 : ∀ f ∈ es.map some ++ [none], ∀ e, f = some e → EOk many e := fun f hf e he => by
      rcases List.mem_append.mp hf with h | h
      · exact hes' f h e he
      · rw [List.mem_singleton.mp h] at he; cases he
    have ap : appK (encE none) (.lst (es.map encS)) = some (.lst (es.map encS ++ [encE none]), .non) := e_appK (lt_line (by rw [List.length_map]; simp only [List.length_nil] at hl3; omega))
    have em : es.map encS ++ [encE none] = (es.map some ++ [none]).map encE := by rw [List.map_append, map_encS]; rfl
    change appK (.tup [.str "cut"]) _ = _ at ap
    rw [em] at ap
    simp only [List.length_nil] at hl3
    by_cases h : es = []
    · subst h
      have d0 : decide (List.map encS [] = []) = true := rfl
      rw [d0] at en
      refine ⟨[none], S3, ?_, hS3, hes2, by decide, by decide⟩
      clear e1 e2 e3 hS hS1 hS2 hS3 hes hes' hes2 a0 a1 m0 m1 em d0 hm hl3
      simp only [List.map_nil, List.nil_append] at *
      walk_at "evs"
    · have d0 : decide (List.map encS es = []) = false := decide_eq_false (by simpa using h)
      have hl : 0 < es.length := List.length_pos_iff.mpr h
      rw [d0] at en
      obtain ⟨y, S4, e5, hS4, y0, y1⟩ := draw_ok n (k + 2) S3 2 hS3 (by decide) (by decide)
      by_cases hy : y = 0
      · subst hy
        have dy : decide ((0 : Int) = 0) = true := rfl
        refine ⟨es.map some ++ [none], S4, ?_, hS4, hes2, by simp, by simp; omega⟩
        clear e1 e2 e3 hS hS1 hS2 hS3 hS4 hes hes' hes2 a0 a1 m0 m1 em d0 hm hl3 hl h y0 y1
        generalize es.map encS = L at *
        generalize (es.map some ++ [none]).map encE = L' at *
        walk_at "evs"
      · have dy : decide (y = 0) = false := decide_eq_false hy
        refine ⟨es.map some, S4, ?_, hS4, hes', by simpa using hl, by simp; omega⟩
        rw [← map_encS]
        clear e1 e2 e3 hS hS1 hS2 hS3 hS4 hes hes' hes2 a0 a1 m0 m1 em d0 hm hl3 hl h y0 y1 hy ap
        generalize es.map encS = L at *
        walk_at "evs"
  obtain ⟨gs, pg, e5⟩ := sort_E fs
  have hgs : ∀ f ∈ gs, ∀ e, f = some e → EOk many e := fun f hf => hfs f (pg.mem_iff.mp hf)
  have lg : gs.length ≤ 10 := by rw [pg.length_eq]; exact lf1
  -- counts
  let σ5 : Fr := rFr many arrays [] o4 none
  obtain ⟨cs, S5, e6, hS5, lc, bc⟩ := lc_inv (i := 7) (e := b__law_rows_e1 (cf n (k + 3)) n) (σ := [some (.val (.ref 0)), some (.val (.int many)), some (.val (.lst (gs.map encE))), some (.val (.int arrays)), o4, none, none, none]) D.int (fun _ z => 1 ≤ z ∧ z ≤ 100000000000000000000) StOk rfl (gs.map encE) (fun d hd S hS => by
    obtain ⟨x, S1, q1, hS1, x0, x1⟩ := draw_ok n (k + 2) S 3 hS (by decide) (by decide)
    obtain ⟨M, aM, c, S2, q2, hS2, c0, c1⟩ := draw_k n (k + 2) x ⟨x0, x1⟩ S1 hS1
    refine ⟨1 + c, S2, ?_, hS2, by omega, by omega⟩
    unfold b__law_rows_e1
    have o3 : ∀ a b c : D, okLen [a, b, c] = true := fun _ _ _ => rfl
    have q3 := p20
    clear e1 e2 e3 e4 e5 hS hS1 hS2 hd x0 x1 c0 c1 a0 a1 m0 m1 σ5
    generalize gs.map encE = L at *
    walk_at "evs") S4 hS4
  rw [List.length_map] at lc
  have bc' : ∀ c ∈ cs, 1 ≤ c ∧ c ≤ 100000000000000000000 := fun c hc => by obtain ⟨_, _, h⟩ := bc c hc; exact h
  have sle := sum_le bc'
  have sub := sum_ub bc'
  rw [lc] at sub
  have sub' : cs.sum ≤ 1000000000000000000000 := by
    have : (gs.length : Int) * 100000000000000000000 ≤ 10 * 100000000000000000000 := by omega
    omega
  let row : Nat → Row := fun i => (gs.getD i none, nrm (cs.getD i 0) cs.sum)
  have cget : ∀ i, i < gs.length → 1 ≤ cs.getD i 0 ∧ cs.getD i 0 ≤ 100000000000000000000 ∧ cs.getD i 0 ≤ cs.sum := fun i hi => by
    rw [List.getD_eq_getElem?_getD, List.getElem?_eq_getElem (by omega)]
    have := List.getElem_mem (l := cs) (n := i) (by omega)
    exact ⟨(bc' _ this).1, (bc' _ this).2, sle _ this⟩
  have s1 : ∀ i, i < gs.length → 0 < cs.sum := fun i hi => by have := cget i hi; omega
  have e7 : lcF (gN 4) tTrue (b__law_rows_e0 (cf n (k + 3)) n) [4] (rngD 0 gs.length) [some (.val (.ref 0)), some (.val (.int many)), some (.val (.lst (gs.map encE))), some (.val (.int arrays)), none, some (.own (.lst (cs.map D.int))), some (.val (.int cs.sum)), none] S5 =
      .ok (((List.range gs.length).map row).map encR) [some (.val (.ref 0)), some (.val (.int many)), some (.val (.lst (gs.map encE))), some (.val (.int arrays)), none, some (.own (.lst (cs.map D.int))), some (.val (.int cs.sum)), none] S5 := by
    rw [List.map_map]
    refine lc_map (k := fun i : Nat => D.int (0 + (i : Int))) rfl (List.range gs.length) fun i hi => ?_
    rw [List.mem_range] at hi
    have a1 : atI (gs.map encE) (i : Int) = some (encE (gs.getD i none)) := by
      rw [atI_map hi, List.getD_eq_getElem?_getD, List.getElem?_eq_getElem hi]; rfl
    have a2 : atI (cs.map D.int) (i : Int) = some (D.int (cs.getD i 0)) := by
      rw [atI_map (by omega), List.getD_eq_getElem?_getD, List.getElem?_eq_getElem (by omega)]; rfl
    have b := cget i hi
    have f := lfrac_ok n (k + 2) (cs.getD i 0) cs.sum S5 (s1 i hi) (lt_pow (small_of (by omega) (by omega)) (by decide)) (lt_pow (small_of (by omega) (by omega)) (by decide))
    have o2 := okLen2
    rw [Int.zero_add]
    show b__law_rows_e0 _ n _ _ = .ok (.tup [encE (gs.getD i none), fr (nrm (cs.getD i 0) cs.sum)]) _ _
    clear e1 e2 e3 e4 e5 e6 hS hS1 hS2 hS3 hS4 hS5 bc bc' sle sub cget s1 b hi hgs pg hfs
    generalize gs.map encE = L1 at *
    generalize cs.map D.int = L2 at *
    generalize cs.getD i 0 = z at *
    generalize gs.getD i none = g at *
    unfold b__law_rows_e0
    walk_at "evs"
  refine ⟨(List.range gs.length).map row, S5, ?_, hS5, fun r hr => ?_, by rw [List.length_map, List.length_range]; exact lg⟩
  · have r1 : rng62 m = true := rng_ok m0 (by omega)
    have r2 : rng62 ((gs.map encE).length : Int) = true := by rw [List.length_map]; exact rng_ok (by omega) (by omega)
    have r3 : ((gs.map encE).length : Int).toNat = gs.length := by rw [List.length_map]; omega
    have l1 : okLen (cs.map D.int) = true := len_le (by rw [List.length_map]; omega)
    have l2 : okLen (((List.range gs.length).map row).map encR) = true := len_le (by rw [List.length_map, List.length_map, List.length_range]; omega)
    have su := @e_sum cs
    have o0 : okLen ([] : List D) = true := rfl
    show _ = COut.ok (.d (.tup (((List.range gs.length).map row).map encR))) S5
    rw [cf__law_rows, runB_eq (by rfl)]
    unfold b__law_rows
    clear hS hS1 hS2 hS3 hS4 hS5 bc bc' sle sub sub' cget s1 hgs pg hfs lc lg lf0 lf1 hl3 hes a0 a1 m0 m1 hm
    generalize (sIfS (sOr (sB (s2 eqP (sVO 2) (sO (sD (sLst nilD))))) (sB (s2 eqP (sO (sD (sCall (cf n (k + 3) 9) [] (consD (sD (sV 0)) (consD (sD (sC (.int 2))) nilD))))) (sO (sD (sC (.int 0)))))))
      (sDrop (sMeth appK (sVO 2) (sD (sTup (consD (sD (sC (.str "cut"))) nilD))))) sNx) = mid at *
    generalize ((List.range gs.length).map row).map encR = RR at *
    generalize gs.map encE = L1 at *
    generalize cs.sum = sm at *
    generalize cs.map D.int = L2 at *
    generalize es.map encS = L3 at *
    generalize fs.map encE = L4 at *
    walk_at "evs"
  · obtain ⟨i, hi, rfl⟩ := List.mem_map.mp hr
    rw [List.mem_range] at hi
    have b := cget i hi
    have p := s1 i hi
    refine ⟨nrm_bd p (small_of (by omega) (by omega)) (small_of (by omega) (by omega)), nrm_pos (by omega) p, fun e he => ?_, fun e he => ?_⟩
    · refine (hgs (gs.getD i none) ?_ e he).c
      rw [List.getD_eq_getElem?_getD, List.getElem?_eq_getElem hi]; exact List.getElem_mem _
    · have := hgs (gs.getD i none) (by rw [List.getD_eq_getElem?_getD, List.getElem?_eq_getElem hi]; exact List.getElem_mem _) e he
      exact ⟨this.len, this.rs⟩

theorem ok_rows (L : List Row) : okD 64 (.lst (L.map encR)) = true := by
  rw [okD]
  refine okDs_all fun d hd => ?_
  obtain ⟨⟨e, x⟩, _, rfl⟩ := List.mem_map.mp hd
  refine ok_tup (k := 62) fun d hd => ?_
  simp only [List.mem_cons, List.not_mem_nil, or_false] at hd
  rcases hd with rfl | rfl
  · cases e with
    | none => exact ok_tup (k := 61) fun d hd => by rw [List.mem_singleton.mp hd]; exact ok_str (by decide +kernel)
    | some x =>
      refine ok_tup (k := 61) fun d hd => ?_
      simp only [List.mem_cons, List.not_mem_nil, or_false] at hd
      rcases hd with rfl | rfl | rfl | rfl
      · exact ok_str (by decide +kernel)
      · exact ok_int
      · exact okD_le (k := 1) (ok_ints x.rs) (by decide)
      · refine okD_le (k := 2) (ok_tup fun d hd => ?_) (by decide)
        obtain ⟨b, _, rfl⟩ := List.mem_map.mp hd
        exact ok_ints b
  · exact okD_le (k := 1) (ok_tup fun d hd => by
      simp only [List.mem_cons, List.not_mem_nil, or_false] at hd
      rcases hd with rfl | rfl <;> exact ok_int) (by decide)
theorem comp_h {S : Sto} {σ : Fr} {e : SemO D} (h : Dn → Int) (L : List Row) (hs : ∀ r ∈ L, r.1.isSome) (hσ : σ.set 11 none = σ)
    (he : ∀ d x, ((some d, x) : Row) ∈ L → e (σ.set 11 (some (.val (.tup [encE (some d), fr x])))) S = .ok (.int (h d)) (σ.set 11 (some (.val (.tup [encE (some d), fr x])))) S) :
    lcF (gN 11) tTrue e [11] (L.map encR) σ S = .ok (L.map fun r => .int (hR h r)) σ S := by
  refine lc_map (f := fun r => .int (hR h r)) hσ L fun r hr => ?_
  obtain ⟨d, x⟩ := r
  have := hs _ hr
  cases d with
  | none => simp at this
  | some d => exact he d x hr
abbrev lF (sc : D) (many : Nat) (rows : List Row) (dn : List Row) (t1 t2 : D) (o7 o8 o9 o10 : Option Sl) : Fr :=
  [some (.val sc), some (.val (.ref 0)), some (.val (.int many)), some (.val (RS rows)), some (.val (.lst (dn.map encR))), some (.val t1), some (.val t2), o7, o8, o9, o10, none, none]
abbrev dns (rows : List Row) : List Row := rows.filter fun r => r.1.isSome
theorem dns_some (rows : List Row) : ∀ r ∈ dns rows, r.1.isSome := fun r hr => (List.mem_filter.mp hr).2
theorem dns_mem {rows : List Row} {r : Row} (hr : r ∈ dns rows) : r ∈ rows := (List.mem_filter.mp hr).1
theorem dns_len (rows : List Row) : (dns rows).length ≤ rows.length := List.length_filter_le _ _
theorem place_step (n k : Nat) {many : Nat} (rows : List Row) (S : Sto) (hr : ∀ r ∈ rows, ROk many r) (hl : rows.length ≤ 10) (sc t1 t2 : D) (i : Nat) (hi : i < many) (o8 o9 o10 : Option Sl) :
    b_law_f5 (cf n (k + 4)) n (lF sc many rows (dns rows) t1 t2 (some (.val (.int i))) o8 o9 o10) S = .nx (lF sc many rows (dns rows) t1 t2 (some (.val (.int i))) o8 o9 o10) S := by
  have hh : ∀ r ∈ dns rows, ROk many r ∧ HOk (fun e => e.rs.getD i 0) r := fun r h => ⟨hr r (dns_mem h), fun e he => by
    obtain ⟨l, z⟩ := (hr r (dns_mem h)).rs e he
    show (e.rs.getD i 0).natAbs < _
    rw [List.getD_eq_getElem?_getD, List.getElem?_eq_getElem (by omega)]
    exact z _ (List.getElem_mem _)⟩
  have f1 := mean_result_ok n (k + 1) rows i hi S hr (by omega)
  have f2 := total_ok n (k + 1) (fun e => e.rs.getD i 0) (dns rows) S hh (dns_some rows) (by have := dns_len rows; omega)
  rw [tot_filter] at f2
  have f3 := same_fr n (k + 1) (tot (fun e => e.rs.getD i 0) (0, 1) rows) S
  have f4 : lcF (gN 11) tTrue (b_law_e4 (cf n (k + 4)) n) [11] ((dns rows).map encR) (lF sc many rows (dns rows) t1 t2 (some (.val (.int i))) o8 o9 o10) S = .ok ((dns rows).map fun r => .int (hR (fun e => e.rs.getD i 0) r)) (lF sc many rows (dns rows) t1 t2 (some (.val (.int i))) o8 o9 o10) S := by
    refine comp_h (fun e => e.rs.getD i 0) (dns rows) (dns_some rows) rfl fun d x hd => ?_
    have hlen := ((hr _ (dns_mem hd)).rs d rfl).1
    have a : atI (d.rs.map D.int) (i : Int) = some (.int (d.rs.getD i 0)) := by
      refine atI_nat ?_
      rw [List.getElem?_map, List.getD_eq_getElem?_getD, List.getElem?_eq_getElem (by omega)]; rfl
    clear f1 f2 f3 hh hr hl hi hd hlen
    generalize d.rs.getD i 0 = z at *
    unfold b_law_e4
    generalize (dns rows).map encR = L1 at *
    generalize RS rows = L2 at *
    simp only [encE]
    walk_at "evs"
  have l1 : okLen ((dns rows).map fun r => D.int (hR (fun e => e.rs.getD i 0) r)) = true := len_le (by rw [List.length_map]; have := dns_len rows; omega)
  clear hh hr hl hi
  generalize tot (fun e => e.rs.getD i 0) (0, 1) rows = T at *
  unfold b_law_f5
  unfold lF at *
  generalize ((dns rows).map fun r => D.int (hR (fun e => e.rs.getD i 0) r)) = L3 at *
  generalize (dns rows).map encR = L1 at *
  generalize RS rows = L2 at *
  walk_at "evs"
theorem results_step (n k : Nat) {many : Nat} (rows : List Row) (S : Sto) (hr : ∀ r ∈ rows, ROk many r) (hl : rows.length ≤ 10) (sc t1 t2 : D) (rs0 : List Int) (o7 o8 o10 : Option Sl) :
    ∃ o10', b_law_f2 (cf n (k + 4)) n (lF sc many rows (dns rows) t1 t2 o7 o8 (some (.val (encI rs0))) o10) S = .nx (lF sc many rows (dns rows) t1 t2 o7 o8 (some (.val (encI rs0))) o10') S := by
  have hh : ∀ r ∈ dns rows, ROk many r ∧ HOk (hEq rs0) r := fun r h => ⟨hr r (dns_mem h), fun e he => by simp only [hEq]; split <;> decide⟩
  have f1 := share_of_ok n (k + 1) rows rs0 S hr (by omega)
  have f2 := total_ok n (k + 1) (hEq rs0) (dns rows) S hh (dns_some rows) (by have := dns_len rows; omega)
  rw [tot_filter] at f2
  have f3 := same_fr n (k + 1) (tot (hEq rs0) (0, 1) rows) S
  have f4 : lcF (gN 11) tTrue (b_law_e1 (cf n (k + 4)) n) [11] ((dns rows).map encR) (lF sc many rows (dns rows) t1 t2 o7 o8 (some (.val (encI rs0))) o10) S = .ok ((dns rows).map fun r => .int (hR (hEq rs0) r)) (lF sc many rows (dns rows) t1 t2 o7 o8 (some (.val (encI rs0))) o10) S := by
    refine comp_h (hEq rs0) (dns rows) (dns_some rows) rfl fun d x hd => ?_
    have ee : eqD (encI d.rs) (encI rs0) = some (decide (d.rs = rs0)) := by
      rw [eqD_ok (okD_le (k := 1) (ok_ints _) (by decide)) (okD_le (k := 1) (ok_ints _) (by decide)), eqB_ints]
    have e0 : hEq rs0 d = (if decide (d.rs = rs0) then 1 else 0) := by simp only [hEq, decide_eq_true_eq]
    rw [e0]
    clear f1 f2 f3 hh hr hl hd e0
    generalize decide (d.rs = rs0) = z at *
    unfold b_law_e1
    generalize (dns rows).map encR = L1 at *
    generalize RS rows = L2 at *
    simp only [encE]
    walk_at "evs"
  have l1 : okLen ((dns rows).map fun r => D.int (hR (hEq rs0) r)) = true := len_le (by rw [List.length_map]; have := dns_len rows; omega)
  refine ⟨some (.val (fr (tot (hEq rs0) (0, 1) rows))), ?_⟩
  clear hh hr hl
  generalize tot (hEq rs0) (0, 1) rows = T at *
  unfold b_law_f2
  unfold lF at *
  generalize ((dns rows).map fun r => D.int (hR (hEq rs0) r)) = L3 at *
  generalize (dns rows).map encR = L1 at *
  generalize RS rows = L2 at *
  walk_at "evs"
theorem rep_ok (m : Int) (h0 : 0 ≤ m) (h1 : m ≤ 1000) : repP (.lst [.int 0]) (.int m) = some (.f (.lst ((List.replicate m.toNat (0 : Int)).map D.int))) := by
  have e : (2 : Int) ^ 63 = 9223372036854775808 := by decide +kernel
  have s : szOk ([D.int 0].length * m.toNat) = true := Nat.ble_eq_true_of_le (by
    have : (1000 : Nat) ≤ sizeLine := by decide
    simp only [List.length_cons, List.length_nil]; omega)
  rw [e_rep, e_fits (by rw [s, e, decide_eq_true (by omega), decide_eq_true (by omega)]; rfl)]
  congr 3
  rw [List.map_replicate]
  generalize m.toNat = j
  induction j with
  | zero => rfl
  | succ j ih => rw [List.replicate_succ, List.flatten_cons, ih, List.replicate_succ]; rfl
theorem mem_rngD {d : D} {m : Nat} (h : d ∈ rngD 0 m) : ∃ i : Nat, i < m ∧ d = .int i := by
  obtain ⟨i, hi, rfl⟩ := List.mem_map.mp h
  exact ⟨i, List.mem_range.mp hi, by rw [Int.zero_add]⟩
theorem start_ok (n k : Nat) (L : List D) : cf n (k + 1) 8 [.scr L] [] = .ok (.f (.lst [.lst L, .int 0, .int 0, .int 0])) [] := by
  have o4 : ∀ a b c d : D, okLen [a, b, c, d] = true := fun _ _ _ _ => rfl
  rw [cf__law_start, runB_eq (by rfl)]
  unfold b__law_start
  walk_at "evs"
theorem c1_ok (g : Nat → SemC) (n : Nat) (rows : List Row) (S : Sto) (a0 a1 a2 a3 a4 a5 a6 a7 a8 a9 a10 : Option Sl) :
    lcF (gN 11) (b_law_t8 g n) (b_law_e9 g n) [11] (rows.map encR) [a0, a1, a2, a3, a4, a5, a6, a7, a8, a9, a10, none, none] S = .ok ((dns rows).map encR) [a0, a1, a2, a3, a4, a5, a6, a7, a8, a9, a10, none, none] S := by
  refine lc_filter rfl rows (fun r hr => ?_) (fun r hr hp => ?_)
  · obtain ⟨d, x⟩ := r
    have ec := eqD_cut d
    have v1 := @vE; have v2 := @vC
    have o1 : ∀ a : D, okLen [a] = true := fun _ => rfl
    have e0 : d.isSome = !(decide (d = none)) := by cases d <;> rfl
    simp only
    rw [e0]
    generalize decide (d = none) = z at *
    change eqD _ (.tup [.str "cut"]) = _ at ec
    clear hr e0
    unfold b_law_t8
    simp only [encR]
    walk_at "evs"
  · unfold b_law_e9
    walk_at "ev"
theorem c2_ok (g : Nat → SemC) (n : Nat) (rows : List Row) (S : Sto) (a0 a1 a2 a3 a4 a5 a6 a7 a8 a9 a10 : Option Sl) :
    lcF (gN 11) tTrue (b_law_e7 g n) [11] ((dns rows).map encR) [a0, a1, a2, a3, a4, a5, a6, a7, a8, a9, a10, none, none] S = .ok ((dns rows).map fun r => .int (hR one r)) [a0, a1, a2, a3, a4, a5, a6, a7, a8, a9, a10, none, none] S := by
  refine comp_h one (dns rows) (dns_some rows) rfl fun d x hd => ?_
  unfold b_law_e7
  walk_at "ev"
theorem c3_ok (g : Nat → SemC) (n : Nat) (rows : List Row) (S : Sto) (a0 a1 a2 a3 a4 a5 a6 a7 a8 a9 a10 : Option Sl) :
    lcF (gN 11) tTrue (b_law_e6 g n) [11] ((dns rows).map encR) [a0, a1, a2, a3, a4, a5, a6, a7, a8, a9, a10, none, none] S = .ok ((dns rows).map fun r => .int (hR cnt r)) [a0, a1, a2, a3, a4, a5, a6, a7, a8, a9, a10, none, none] S := by
  refine comp_h cnt (dns rows) (dns_some rows) rfl fun d x hd => ?_
  unfold b_law_e6
  simp only [encE]
  walk_at "ev"
theorem c0_ok (g : Nat → SemC) (n : Nat) (rows : List Row) (hs : ∀ r ∈ rows, r.1.isSome) (S : Sto) (a0 a1 a2 a3 a4 a5 a6 a7 a8 a9 a10 : Option Sl) :
    ∃ ls : List (List Int), lcF (gN 11) tTrue (b_law_e0 g n) [11] (rows.map encR) [a0, a1, a2, a3, a4, a5, a6, a7, a8, a9, a10, none, none] S = .ok (ls.map encI) [a0, a1, a2, a3, a4, a5, a6, a7, a8, a9, a10, none, none] S ∧ ls.length = rows.length := by
  refine ⟨rows.map fun r => match r.1 with | none => [] | some e => e.rs, ?_, List.length_map _⟩
  rw [List.map_map]
  refine lc_map rfl rows fun r hr => ?_
  obtain ⟨d, x⟩ := r
  have := hs _ hr
  cases d with
  | none => simp at this
  | some d =>
    show _ = Out.ok (encI d.rs) _ _
    clear hr this hs
    unfold b_law_e0
    simp only [encR, encE]
    walk_at "ev"
theorem nums_ok (n k : Nat) (m : Nat) (S : Sto) (hS : StOk S) (a0 a2 a3 a4 a5 a6 a7 a8 a9 a10 : Option Sl) :
    ∃ (zs : List Int) (S' : Sto), lcF (gN 12) tTrue (b_law_e3 (cf n (k + 2)) n) [12] (rngD 0 m) [a0, some (.val (.ref 0)), a2, a3, a4, a5, a6, a7, a8, a9, a10, none, none] S = .ok (zs.map D.int) [a0, some (.val (.ref 0)), a2, a3, a4, a5, a6, a7, a8, a9, a10, none, none] S' ∧ StOk S' ∧ zs.length = m := by
  obtain ⟨zs, S4, q2, hS4, lz, _⟩ := lc_inv (i := 12) (e := b_law_e3 (cf n (k + 2)) n) (σ := [a0, some (.val (.ref 0)), a2, a3, a4, a5, a6, a7, a8, a9, a10, none, none]) D.int (fun _ z => z.natAbs < 2 ^ 100) StOk rfl (rngD 0 m) (fun d hd S hS => by
    obtain ⟨z, S', e, hS', hz⟩ := number_ok n k S hS
    refine ⟨z, S', ?_, hS', hz⟩
    unfold b_law_e3
    clear hd hS' hS hz
    walk_at "evs") S hS
  exact ⟨zs, S4, q2, hS4, by rw [lz]; show ((List.range _).map _).length = _; rw [List.length_map, List.length_range]⟩
theorem law_ok (n k : Nat) (ns : List Int) : ∃ S, cf n (k + 5) 18 [.scr (ns.map D.int)] [] = .ok (.d (.bl true)) S := by
  have f0 := start_ok n (k + 3) (ns.map D.int)
  obtain ⟨m0, S1, f1, hS1, l0, l1⟩ := draw_ok n (k + 3) [.lst [.lst (ns.map D.int), .int 0, .int 0, .int 0]] 4 ⟨ns, 0, 0, 0, rfl⟩ (by decide) (by decide)
  obtain ⟨many, rfl⟩ : ∃ many : Nat, m0 = many := ⟨m0.toNat, by omega⟩
  have hm : many ≤ 3 := by omega
  obtain ⟨rows, S2, f2, hS2, hr, hl⟩ := rows_ok n k many hm S1 hS1
  have s1 := share_ended_ok n (k + 1) rows S2 hr (by omega)
  have s2 := mean_count_ok n (k + 1) rows S2 hr (by omega)
  have dl := dns_len rows
  have g1 := total_ok n (k + 1) one (dns rows) S2 (fun r h => ⟨hr r (dns_mem h), fun _ _ => (by decide : (1 : Int).natAbs < 2 ^ 100)⟩) (dns_some rows) (by omega)
  have g2 := total_ok n (k + 1) cnt (dns rows) S2 (fun r h => ⟨hr r (dns_mem h), (hr r (dns_mem h)).c⟩) (dns_some rows) (by omega)
  rw [tot_filter] at g1 g2
  have sm1 := same_fr n (k + 1) (tot one (0, 1) rows) S2
  have sm2 := same_fr n (k + 1) (tot cnt (0, 1) rows) S2
  change cf n (k + 4) 3 [RS rows] S2 = .ok (.d (fr (tot one (0, 1) rows))) S2 at s1
  change cf n (k + 4) 4 [RS rows] S2 = .ok (.d (fr (tot cnt (0, 1) rows))) S2 at s2
  -- the places
  obtain ⟨σ', S3, q1, ⟨o7, hσ3, hS3, _⟩⟩ := for_inv (g := gN 7) (b := b_law_f5 (cf n (k + 4)) n) (fun ds σ S => ∃ o7, σ = lF (.scr (ns.map D.int)) many rows (dns rows) (fr (tot one (0, 1) rows)) (fr (tot cnt (0, 1) rows)) o7 none none none ∧ S = S2 ∧ ∀ d ∈ ds, ∃ i : Nat, i < many ∧ d = .int i)
    (fun d ds σ S h => by
      obtain ⟨o7, rfl, rfl, hd⟩ := h
      obtain ⟨i, hi, rfl⟩ := hd d List.mem_cons_self
      exact ⟨_, _, _, e_gN, place_step n k rows S hr hl _ _ _ i hi none none none, some (.val (.int i)), rfl, rfl, fun d h => hd d (List.mem_cons_of_mem _ h)⟩)
    (rngD 0 many) _ S2 ⟨none, rfl, rfl, fun d h => mem_rngD h⟩
  subst S3
  subst σ'
  -- the numbers
  obtain ⟨zs, S4, q2, hS4, lz⟩ := nums_ok n (k + 2) many S2 hS2 (some (.val (.scr (ns.map D.int)))) (some (.val (.int many))) (some (.val (RS rows))) (some (.val (.lst ((dns rows).map encR)))) (some (.val (fr (tot one (0, 1) rows)))) (some (.val (fr (tot cnt (0, 1) rows)))) o7 none none none
  obtain ⟨ls, q3, ll⟩ := c0_ok (cf n (k + 4)) n (dns rows) (dns_some rows) S4 (some (.val (.scr (ns.map D.int)))) (some (.val (.ref 0))) (some (.val (.int many))) (some (.val (RS rows))) (some (.val (.lst ((dns rows).map encR)))) (some (.val (fr (tot one (0, 1) rows)))) (some (.val (fr (tot cnt (0, 1) rows)))) o7 (some (.own (.lst [encI zs, encI (List.replicate many 0), encI (List.replicate (many + 1) 0)]))) none none
  obtain ⟨σ', S5, q4, ⟨o9, o10, hσ3, hS3, _⟩⟩ := for_inv (g := gN 9) (b := b_law_f2 (cf n (k + 4)) n) (fun ds σ S => ∃ o9 o10, σ = lF (.scr (ns.map D.int)) many rows (dns rows) (fr (tot one (0, 1) rows)) (fr (tot cnt (0, 1) rows)) o7 (some (.own (.lst [encI zs, encI (List.replicate many 0), encI (List.replicate (many + 1) 0)]))) o9 o10 ∧ S = S4 ∧ ∀ d ∈ ds, ∃ rs, d = encI rs)
    (fun d ds σ S h => by
      obtain ⟨o9, o10, rfl, rfl, hd⟩ := h
      obtain ⟨rs, rfl⟩ := hd d List.mem_cons_self
      obtain ⟨o10', e⟩ := results_step n k rows S hr hl (.scr (ns.map D.int)) (fr (tot one (0, 1) rows)) (fr (tot cnt (0, 1) rows)) rs o7 (some (.own (.lst [encI zs, encI (List.replicate many 0), encI (List.replicate (many + 1) 0)]))) o10
      exact ⟨_, _, _, e_gN, e, some (.val (encI rs)), o10', rfl, rfl, fun d h => hd d (List.mem_cons_of_mem _ h)⟩)
    (ls.map encI ++ [encI zs, encI (List.replicate many 0), encI (List.replicate (many + 1) 0)]) _ S4 ⟨none, none, rfl, rfl, fun d h => by
      rcases List.mem_append.mp h with h | h
      · obtain ⟨x, _, rfl⟩ := List.mem_map.mp h; exact ⟨x, rfl⟩
      · simp only [List.mem_cons, List.not_mem_nil, or_false] at h
        rcases h with rfl | rfl | rfl <;> exact ⟨_, rfl⟩⟩
  subst S5
  subst σ'
  -- the mean
  have b1 : Bd 2300 (tot one (0, 1) rows) := (tot_bd rows (0, 1) 1 bd01 fun r h => ⟨hr r h, fun _ _ => (by decide : (1 : Int).natAbs < 2 ^ 100)⟩).mono (by omega)
  have b2 : Bd 2300 (tot cnt (0, 1) rows) := (tot_bd rows (0, 1) 1 bd01 fun r h => ⟨hr r h, (hr r h).c⟩).mono (by omega)
  obtain ⟨p0, p1⟩ := tot_pos rows (0, 1) 1 bd01 (by decide) hr
  have em := ended_mean_ok n k rows S4 hr (by omega)
  have en := eq_nil _ (ok_rows (dns rows))
  have k1 := c1_ok (cf n (k + 4)) n rows S2
  have k2 := c2_ok (cf n (k + 4)) n rows S2
  have k3 := c3_ok (cf n (k + 4)) n rows S2
  have r1 : rng62 (many : Int) = true := rng_ok (by omega) (by omega)
  have l1 : okLen ((dns rows).map encR) = true := len_le (by rw [List.length_map]; omega)
  have l2 : okLen ((dns rows).map fun r => D.int (hR one r)) = true := len_le (by rw [List.length_map]; omega)
  have l3 : okLen ((dns rows).map fun r => D.int (hR cnt r)) = true := len_le (by rw [List.length_map]; omega)
  have l4 : okLen (ls.map encI) = true := len_le (by rw [List.length_map]; omega)
  have l5 : okLen (zs.map D.int) = true := len_le (by rw [List.length_map]; omega)
  have w1 := rep_ok many (by omega) (by omega)
  have w2 := rep_ok (many + 1) (by omega) (by omega)
  rw [Int.toNat_natCast] at w1
  rw [show ((many : Int) + 1).toNat = many + 1 by omega] at w2
  have t1 : (many : Int).toNat = many := Int.toNat_natCast many
  have o0 : okLen ([] : List D) = true := rfl
  have o1 : ∀ a : D, okLen [a] = true := fun _ => rfl
  have o3 : ∀ a b c : D, okLen [a, b, c] = true := fun _ _ _ => rfl
  have z1 : ∀ a b c : D, addP (.lst (ls.map encI)) (.lst [a, b, c]) = some (.f (.lst (ls.map encI ++ [a, b, c]))) := fun a b c => by
    have h : szOk ((ls.map encI).length + [a, b, c].length) = true := Nat.ble_eq_true_of_le (by
      have : (1000 : Nat) ≤ sizeLine := by decide
      rw [List.length_map]; simp only [List.length_cons, List.length_nil]; omega)
    rw [e_addL, e_fits h]
  have fin : ∃ m : D, meanD rows = m ∧ cf n (k + 4) 11 [m, m] S4 = .ok (.d (.bl true)) S4 ∧ ((dns rows = [] ∧ m = .tup []) ∨ (dns rows ≠ [] ∧ cf n (k + 4) 12 [.int ((tot cnt (0, 1) rows).1 * (tot one (0, 1) rows).2), .int ((tot cnt (0, 1) rows).2 * (tot one (0, 1) rows).1)] S4 = .ok (.d m) S4)) := by
    unfold meanD
    by_cases hd : dns rows = []
    · rw [if_pos hd]; exact ⟨_, rfl, same_nil n (k + 3) S4, .inl ⟨hd, rfl⟩⟩
    · rw [if_neg hd]
      have p2 : 0 < (tot one (0, 1) rows).1 := p1 (.inr (by
        obtain ⟨r, hr'⟩ := List.exists_mem_of_ne_nil _ hd
        rw [List.mem_filter] at hr'
        exact ⟨r, hr'.1, hr'.2⟩))
      exact ⟨_, rfl, same_fr n (k + 1) _ S4, .inr ⟨hd, lfrac_ok n (k + 3) _ _ S4 (Int.mul_pos b2.pos p2) (lt_pow (natAbs_mul_lt b2.num b1.den) (by decide)) (lt_pow (natAbs_mul_lt b2.den b1.num) (by decide))⟩⟩
  have m1 := e_mulB b2.num b1.den (by decide) (by decide) (by decide)
  have m2 := e_mulB b2.den b1.num (by decide) (by decide) (by decide)
  clear p0 p1 b1 b2 hr hl hm dl lz ll hS4 hS2 hS1 l0
  obtain ⟨m, em1, sm3, hf⟩ := fin
  rw [em1] at em
  refine ⟨S4, ?_⟩
  rw [cf_law, runB_eq (by rfl)]
  unfold b_law
  unfold lF at *
  have hd : (dns rows = [] ∧ decide ((dns rows).map encR = []) = true) ∨ (dns rows ≠ [] ∧ decide ((dns rows).map encR = []) = false) := by
    by_cases h : dns rows = []
    · exact .inl ⟨h, by rw [h]; rfl⟩
    · exact .inr ⟨h, decide_eq_false (by simpa using h)⟩
  generalize List.replicate many (0 : Int) = Z1 at *
  generalize List.replicate (many + 1) (0 : Int) = Z2 at *
  have sq : seqOf (RS rows) = some (rows.map encR) := rfl
  rcases hd with ⟨hd, hd'⟩ | ⟨hd, hd'⟩
  · have hm : m = .tup [] := by
      rcases hf with ⟨_, h⟩ | ⟨h, _⟩
      · exact h
      · exact absurd hd h
    subst hm
    rw [hd'] at en
    clear hf hd hd' em1
    generalize tot cnt (0, 1) rows = T2 at *
    generalize tot one (0, 1) rows = T1 at *
    generalize (dns rows).map encR = L1 at *
    generalize (dns rows).map (fun r => D.int (hR one r)) = L2 at *
    generalize (dns rows).map (fun r => D.int (hR cnt r)) = L3 at *
    generalize RS rows = R0 at *
    walk_at "evs"
  · have hm := (hf.resolve_left fun h => hd h.1).2
    rw [hd'] at en
    clear hf hd hd' em1
    generalize tot cnt (0, 1) rows = T2 at *
    generalize tot one (0, 1) rows = T1 at *
    generalize (dns rows).map encR = L1 at *
    generalize (dns rows).map (fun r => D.int (hR one r)) = L2 at *
    generalize (dns rows).map (fun r => D.int (hR cnt r)) = L3 at *
    generalize RS rows = R0 at *
    walk_at "evs"

theorem law_true (ns : List Int) (_ : ns.length ≤ 63) (_ : ∀ z ∈ ns, Builtin.Int.intBits z ≤ 1048576) : ∃ S, lawC [.scr (ns.map D.int)] [] = .ok (.d (.bl true)) S :=
  law_ok 100000 35 ns

end K13

open PySem PySem.W PySem.Calls PyProof.Rows
theorem PySem.Challenge.cw_meanwithin_k13_sums_of_shares_holds : PySem.Challenge.rw_meanwithin_k13_sums_of_shares.Holds := by
  w_on; o_law
  refine HandSHeadRun.head_imp (r := OpenLaw.row PySem.Challenge.rw_meanwithin_k13_sums_of_shares) (q := view (OpenLaw.row PySem.Challenge.rw_meanwithin_k13_sums_of_shares).prog [0, 23]) (H := K13.hk) (ob := K13.ob) (M := 4000) (loose := K13.loose) (d := HandSHeadRun.topDef (OpenLaw.row PySem.Challenge.rw_meanwithin_k13_sums_of_shares).prog 23) (kwd := []) K13.ob_eq
    K13.run (by kernel_rfl) (by kernel_rfl) (by kernel_rfl) (by rfl) (by first | assumption | decide +kernel) (by decide +kernel) ⟨rfl, rfl, rfl, rfl, rfl, by decide +kernel⟩ ?hw ?hc
  case hw => w_witness2
  case hc =>
    refine Fw.walk_end (l := PySem.Challenge.rw_meanwithin_k13_sums_of_shares) (n := 63) (k := 40) (x := "script") (CX := L2.CX0) (g := K13.lawC) rfl (by decide) (by kernel_rfl) ⟨rfl, by decide, by decide⟩ ?F K13.law_true (fun _ _ _ _ z => z)
    intro w mg fa h Y G hmg0
    obtain ⟨K, KX, c⟩ := Y
    have hmg : mg ("law" : PySem.Str) = some (.ref fa) := by
      rw [show ("law" : PySem.Str) = (HandSHeadRun.topDef (OpenLaw.row PySem.Challenge.rw_meanwithin_k13_sums_of_shares).prog 23).name by kernel_rfl]
      exact hmg0
    have c1 : He.SaysD K13.fal K13.dfn K := congrArg (fun z : He.AlT => z.1) c.t
    obtain ⟨fd, T⟩ := K13.tb_mk KX G c1 c.more
    have e := hmg.symm.trans (T.fn 18 rfl).mg
    cases e
    have b := L2.FunD.bindsA (ps := ["script"]) (T.fn 18 rfl).F fun _ _ _ _ _ _ us hl => match us, hl with | [_], _ => rfl
    exact ⟨K, fd 18, fun _ => 0, KX, fun s v => b s [v] rfl, fun base _ _ => K13.all_ok T 40 18 rfl⟩
