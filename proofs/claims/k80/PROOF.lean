import PyProof.Rows.All
import Wide.All
import OpenK.AllK
import Wide.FinOn
import HandS.ForMost
import HandS.ForExc
import HandS.Star
import HandS.IsInst
import HandS.Deep
import HandS.TupAny
import HandS.Wide
import HandS.Flow
import HandS.Zip
import KE.DataCmp
import HandS.Style
import KE.GoesMore
import PyProof.EnumMake
import PyProof.Draws
import KE.KTupSum
import KE.KUnpackStar
import HandS.Property
import HandS.HeadNt
import HandS.HeadEnd
import HandS.Head0
import HandS.Head1
import HandS.Head2
import HandS.Conv
import HandS.EndBits
import PySem.Challenge.RW_bothreaders_k80_whole_contents_and_files
/-! file ZBase -/
set_option Elab.async false
set_option linter.all false
set_option autoImplicit false
set_option maxRecDepth 100000
set_option maxHeartbeats 4000000
/-! trees over the hand layer: the base -/
namespace Z
open PySem PySem.Spec PyProof.Rows L2

abbrev D := PyData
/-- the locals as trees -/
abbrev Rho := List (Option D)

/-! ### trees in a heap -/
section
variable {K : PySem.W.Frag} {G G' : Hp}
theorem rd_mono (h : ∀ a o, G a = some o → G' a = some o) {a : Addr} {u : HO} (r : Rd G a u) : Rd G' a u := by
  rcases r with r | ⟨o, r⟩
  · exact .inl (h _ _ r)
  · exact .inr ⟨o, h _ _ r⟩
theorem sqL_mono (h : ∀ a o, G a = some o → G' a = some o) {a : Addr} {xs : List V} (r : SqL K G a xs) : SqL K G' a xs := by
  rcases r with r | r
  · exact .inl (rd_mono h r)
  · exact .inr r
theorem sqT_mono (h : ∀ a o, G a = some o → G' a = some o) {a : Addr} {xs : List V} (r : SqT K G a xs) : SqT K G' a xs := by
  rcases r with r | r
  · exact .inl (rd_mono h r)
  · exact .inr r
mutual
theorem dp_mono (h : ∀ a o, G a = some o → G' a = some o) : ∀ {d : D} {v : V}, Dp K G v d → Dp K G' v d
  | .none, _, .non => .non
  | .bool _, _, .bl b => .bl b
  | .int _, _, .int i => .int i
  | .str _, _, .str x => .str x
  | .list ds, _, .lst q r => .lst (sqL_mono h q) (dpAll_mono h r)
  | .tuple ds, _, .tup q r => .tup (sqT_mono h q) (dpAll_mono h r)
theorem dpAll_mono (h : ∀ a o, G a = some o → G' a = some o) : ∀ {ds : List D} {vs : List V}, DpAll K G vs ds → DpAll K G' vs ds
  | [], _, .nil => .nil
  | _ :: _, _, .cons r s => .cons (dp_mono h r) (dpAll_mono h s)
end
theorem _root_.L2.DpAll.len : ∀ {vs : List V} {ds : List D}, DpAll K G vs ds → vs.length = ds.length
  | _, _, .nil => rfl
  | _, _, .cons _ s => congrArg (· + 1) (L2.DpAll.len s)
theorem _root_.L2.DpAll.get : ∀ {vs : List V} {ds : List D} {i : Nat} {v : V}, DpAll K G vs ds → vs[i]? = some v → ∃ d, ds[i]? = some d ∧ Dp K G v d
  | _, _, i, v, .nil, h => by simp at h
  | _, _, 0, v, .cons r _, h => by
    simp at h
    subst h
    exact ⟨_, rfl, r⟩
  | _, _, i + 1, v, .cons _ s, h => by
    obtain ⟨d, e, r⟩ := L2.DpAll.get (i := i) (v := v) s (by simpa using h)
    exact ⟨d, by simpa using e, r⟩
theorem _root_.L2.DpAll.get' : ∀ {vs : List V} {ds : List D} {i : Nat} {d : D}, DpAll K G vs ds → ds[i]? = some d → ∃ v, vs[i]? = some v ∧ Dp K G v d
  | _, _, i, d, .nil, h => by simp at h
  | _, _, 0, d, .cons r _, h => by
    simp at h
    subst h
    exact ⟨_, rfl, r⟩
  | _, _, i + 1, d, .cons _ s, h => by
    obtain ⟨v, e, r⟩ := L2.DpAll.get' (i := i) (d := d) s (by simpa using h)
    exact ⟨v, by simpa using e, r⟩
theorem _root_.L2.DpAll.append : ∀ {vs ws : List V} {ds es : List D}, DpAll K G vs ds → DpAll K G ws es → DpAll K G (vs ++ ws) (ds ++ es)
  | _, _, _, _, .nil, h => h
  | _, _, _, _, .cons r s, h => .cons r (L2.DpAll.append s h)
theorem _root_.L2.DpAll.take : ∀ {vs : List V} {ds : List D} (n : Nat), DpAll K G vs ds → DpAll K G (vs.take n) (ds.take n)
  | _, _, 0, _ => by simp; exact .nil
  | _, _, n + 1, .nil => .nil
  | _, _, n + 1, .cons r s => .cons r (L2.DpAll.take n s)
theorem _root_.L2.DpAll.drop : ∀ {vs : List V} {ds : List D} (n : Nat), DpAll K G vs ds → DpAll K G (vs.drop n) (ds.drop n)
  | _, _, 0, h => h
  | _, _, n + 1, .nil => .nil
  | _, _, n + 1, .cons r s => L2.DpAll.drop n s
theorem _root_.L2.DpAll.set : ∀ {vs : List V} {ds : List D} (n : Nat) {v : V} {d : D}, DpAll K G vs ds → Dp K G v d → DpAll K G (vs.set n v) (ds.set n d)
  | _, _, n, _, _, .nil, _ => .nil
  | _, _, 0, _, _, .cons _ s, q => .cons q s
  | _, _, n + 1, _, _, .cons r s, q => .cons r (L2.DpAll.set n s q)
theorem _root_.L2.DpAll.dropLast : ∀ {vs : List V} {ds : List D}, DpAll K G vs ds → DpAll K G vs.dropLast ds.dropLast := fun {vs ds} h => by
  rw [List.dropLast_eq_take, List.dropLast_eq_take, h.len]
  exact h.take _
theorem _root_.L2.DpAll.ints : ∀ {vs : List V} {ns : List Int}, DpAll K G vs (ns.map .int) → vs = ns.map V.int
  | _, [], .nil => rfl
  | _, n :: ns, h => by
    cases h with
    | cons r s =>
      cases r
      rw [L2.DpAll.ints s] <;> rfl
theorem dpAll_ints : ∀ ns : List Int, DpAll K G (ns.map V.int) (ns.map .int)
  | [] => .nil
  | n :: ns => .cons (.int n) (dpAll_ints ns)
theorem _root_.L2.DpAll.bls : ∀ {vs : List V} {bs : List Bool}, DpAll K G vs (bs.map .bool) → vs = bs.map V.bl
  | _, [], .nil => rfl
  | _, n :: ns, h => by
    cases h with
    | cons r s =>
      cases r
      rw [L2.DpAll.bls s] <;> rfl
theorem _root_.L2.DpAll.strs : ∀ {vs : List V} {bs : List Str}, DpAll K G vs (bs.map .str) → vs = bs.map V.str
  | _, [], .nil => rfl
  | _, n :: ns, h => by
    cases h with
    | cons r s =>
      cases r
      rw [L2.DpAll.strs s] <;> rfl
end

/-! ### owned objects -/
/-- the kind of an owned object -/
inductive OKd where
  | lst
  | ins (C : Addr)
abbrev Own := List (Option OKd)
def ok (O : Own) (i : Nat) : Option OKd := (O[i]?).join

def FsR (K : PySem.W.Frag) (G : Hp) (fs : List (Str × V)) (kvs : List (D × D)) : Prop := Paired (fun (p : Str × V) (q : D × D) => q.1 = .str p.1 ∧ Dp K G p.2 q.2) fs kvs
def OwnAt (K : PySem.W.Frag) (H G : Hp) : OKd → Addr → D → Prop
  | .lst, a, d => ∃ xs ds, d = .list ds ∧ H a = some (.lst xs) ∧ DpAll K G xs ds
  | .ins C, a, d => ∃ dx fs kvs, d = .dict kvs ∧ H a = some (.ins C dx fs) ∧ FsR K G fs kvs
theorem FsR.mono {K : PySem.W.Frag} {G G' : Hp} (h : ∀ a o, G a = some o → G' a = some o) {fs : List (Str × V)} {kvs : List (D × D)} (r : FsR K G fs kvs) : FsR K G' fs kvs :=
  Paired.mapP r fun _ _ q => ⟨q.1, dp_mono h q.2⟩
theorem OwnAt.mono {K : PySem.W.Frag} {H H' G G' : Hp} (h : ∀ a o, G a = some o → G' a = some o) {k : OKd} {a : Addr} {d : D} (hH : H' a = H a) (r : OwnAt K H G k a d) : OwnAt K H' G' k a d := by
  cases k with
  | lst =>
    obtain ⟨xs, ds, e, q, s⟩ := r
    exact ⟨xs, ds, e, hH.trans q, dpAll_mono h s⟩
  | ins C =>
    obtain ⟨dx, fs, kvs, e, q, s⟩ := r
    exact ⟨dx, fs, kvs, e, hH.trans q, s.mono h⟩
theorem OwnAt.there {K : PySem.W.Frag} {H G : Hp} {k : OKd} {a : Addr} {d : D} (r : OwnAt K H G k a d) : ∃ o, H a = some o := by
  cases k with
  | lst => obtain ⟨xs, ds, e, q, s⟩ := r; exact ⟨_, q⟩
  | ins C => obtain ⟨dx, fs, kvs, e, q, s⟩ := r; exact ⟨_, q⟩

/-- F: what must stay; fx: the parameters that own; O: who owns; G: what the trees lean on -/
structure Rel (K : PySem.W.Frag) (F : Hp) (fx : List (Nat × Addr)) (O : Own) (σ : L2.St) (H : Hp) (ρ : Rho) (G : Hp) : Prop where
  fr : ∀ a o, F a = some o → H a = some o
  gr : ∀ a o, G a = some o → H a = some o
  sh : ∀ i d, ρ[i]? = some (some d) → ok O i = none → ∃ v, σ[i]? = some (some v) ∧ Dp K G v d
  ow : ∀ i d k, ρ[i]? = some (some d) → ok O i = some k → ∃ a, σ[i]? = some (some (.ref a)) ∧ OwnAt K H G k a d ∧ F a = none ∧ G a = none
  dj : ∀ i j d e k l a, ρ[i]? = some (some d) → ρ[j]? = some (some e) → ok O i = some k → ok O j = some l → σ[i]? = some (some (.ref a)) → σ[j]? = some (some (.ref a)) → i = j
  fx : ∀ p ∈ fx, (∃ k, ok O p.1 = some k) ∧ (∃ d, ρ[p.1]? = some (some d)) ∧ σ[p.1]? = some (some (.ref p.2))
  len : ρ.length = σ.length

def Ext (F G G' : Hp) : Prop := (∀ a o, G a = some o → G' a = some o) ∧ ∀ a, F a ≠ none → G a = none → G' a = none
theorem Ext.refl (F G : Hp) : Ext F G G := ⟨fun _ _ h => h, fun _ _ h => h⟩
theorem Ext.trans {F G G' G'' : Hp} (a : Ext F G G') (b : Ext F G' G'') : Ext F G G'' := ⟨fun x o h => b.1 x o (a.1 x o h), fun x h n => b.2 x h (a.2 x h n)⟩

section
variable {K : PySem.W.Frag} {F H H' G G' : Hp} {fx : List (Nat × Addr)} {O : Own} {σ : L2.St} {ρ : Rho}
/-- all stays, some is new -/
theorem Rel.next (r : Rel K F fx O σ H ρ G) (hf : ∀ a o, F a = some o → H' a = some o) (hg : ∀ a o, G a = some o → G' a = some o) (hgr : ∀ a o, G' a = some o → H' a = some o)
    (ho : ∀ i d k a, ρ[i]? = some (some d) → ok O i = some k → σ[i]? = some (some (.ref a)) → H' a = H a ∧ G' a = none) : Rel K F fx O σ H' ρ G' where
  fr := hf
  gr := hgr
  sh := fun i d e n => by
    obtain ⟨v, q, p⟩ := r.sh i d e n
    exact ⟨v, q, dp_mono hg p⟩
  ow := fun i d k e n => by
    obtain ⟨a, q, p, f, g⟩ := r.ow i d k e n
    obtain ⟨h1, h2⟩ := ho i d k a e n q
    exact ⟨a, q, p.mono hg h1, f, h2⟩
  dj := r.dj
  fx := r.fx
  len := r.len
theorem Rel.own_ne (r : Rel K F fx O σ H ρ G) {p : Addr} (hp : H p = none) {i : Nat} {d : D} {k : OKd} {a : Addr} (e : ρ[i]? = some (some d)) (n : ok O i = some k) (q : σ[i]? = some (some (.ref a))) : a ≠ p := by
  obtain ⟨b, q', w, _, _⟩ := r.ow i d k e n
  rw [q] at q'
  injection q' with q1
  injection q1 with q2
  injection q2 with q3
  subst q3
  obtain ⟨o, ho⟩ := w.there
  intro z
  rw [z, hp] at ho
  cases ho
/-- a new object, leaned on from now on -/
theorem Rel.alloc (r : Rel K F fx O σ H ρ G) {p : Addr} {o : HO} (hp : H p = none) : Rel K F fx O σ (upd H p o) ρ (upd G p o) ∧ Ext F G (upd G p o) := by
  have hF : F p = none := by
    cases e : F p with
    | none => rfl
    | some u => rw [r.fr p u e] at hp; cases hp
  have hG : G p = none := by
    cases e : G p with
    | none => rfl
    | some u => rw [r.gr p u e] at hp; cases hp
  refine ⟨r.next (fun a u e => ?_) (fun a u e => ?_) (fun a u e => ?_) (fun i d k a e n q => ?_), fun a u e => ?_, fun a h n => ?_⟩
  · rw [upd_ne (ne_of_none e hF)]; exact r.fr a u e
  · rw [upd_ne (ne_of_none e hG)]; exact e
  · by_cases h : a = p
    · subst h; rw [upd_same] at e ⊢; exact e
    · rw [upd_ne h] at e ⊢; exact r.gr a u e
  · have ne := r.own_ne hp e n q
    obtain ⟨b, q', w, f, g⟩ := r.ow i d k e n
    rw [q] at q'
    injection q' with q1
    injection q1 with q2
    injection q2 with q3
    subst q3
    exact ⟨upd_ne ne, by rw [upd_ne ne]; exact g⟩
  · rw [upd_ne (ne_of_none e hG)]; exact e
  · have ne : a ≠ p := by
      intro z
      subst z
      exact h hF
    rw [upd_ne ne]; exact n
/-- a new object, owned by nobody yet (put aside) -/
theorem Rel.side (r : Rel K F fx O σ H ρ G) {p : Addr} {o : HO} (hp : H p = none) : Rel K F fx O σ (upd H p o) ρ G := by
  have hF : F p = none := by
    cases e : F p with
    | none => rfl
    | some u => rw [r.fr p u e] at hp; cases hp
  have hG : G p = none := by
    cases e : G p with
    | none => rfl
    | some u => rw [r.gr p u e] at hp; cases hp
  refine r.next (fun a u e => ?_) (fun a u e => e) (fun a u e => ?_) (fun i d k a e n q => ?_)
  · rw [upd_ne (ne_of_none e hF)]; exact r.fr a u e
  · rw [upd_ne (ne_of_none e hG)]; exact r.gr a u e
  · have ne := r.own_ne hp e n q
    obtain ⟨b, q', w, f, g⟩ := r.ow i d k e n
    rw [q] at q'
    injection q' with q1
    injection q1 with q2
    injection q2 with q3
    subst q3
    exact ⟨upd_ne ne, g⟩
/-- a slot gets a tree -/
theorem Rel.set (r : Rel K F fx O σ H ρ G) {i : Nat} {v : V} {d : D} (hi : ok O i = none) (h : Dp K G v d) : Rel K F fx O (σ.set i (some v)) H (ρ.set i (some d)) G where
  fr := r.fr
  gr := r.gr
  sh := fun j e q n => by
    by_cases z : i = j
    · subst z
      have hl : i < ρ.length := by
        have := (List.getElem?_eq_some_iff.mp q).1
        simpa using this
      rw [List.getElem?_set_self hl] at q
      cases q
      exact ⟨v, by rw [List.getElem?_set_self (by rw [← r.len]; exact hl)], h⟩
    · rw [List.getElem?_set_ne z] at q ⊢
      exact r.sh j e q n
  ow := fun j e k q n => by
    have z : i ≠ j := fun z => by rw [z, n] at hi; cases hi
    rw [List.getElem?_set_ne z] at q ⊢
    exact r.ow j e k q n
  dj := fun j j' e e' k k' a q q' n n' s s' => by
    have z : i ≠ j := fun z => by rw [z, n] at hi; cases hi
    have z' : i ≠ j' := fun z => by rw [z, n'] at hi; cases hi
    rw [List.getElem?_set_ne z] at q s
    rw [List.getElem?_set_ne z'] at q' s'
    exact r.dj j j' e e' k k' a q q' n n' s s'
  fx := fun p hp => by
    obtain ⟨⟨k, e⟩, ⟨d', q'⟩, q⟩ := r.fx p hp
    have z : i ≠ p.1 := fun z => by rw [z, e] at hi; cases hi
    exact ⟨⟨k, e⟩, ⟨d', by rw [List.getElem?_set_ne z]; exact q'⟩, by rw [List.getElem?_set_ne z]; exact q⟩
  len := by rw [List.length_set, List.length_set]; exact r.len
theorem ok_set {O : Own} {i j : Nat} {k : Option OKd} (hi : i < O.length) : ok (O.set i k) j = if i = j then k else ok O j := by
  unfold ok
  by_cases z : i = j
  · subst z; rw [List.getElem?_set_self hi, if_pos rfl] <;> rfl
  · rw [List.getElem?_set_ne z, if_neg z]
/-- a slot (no parameter that owns) becomes the owner of an object that nobody owns -/
theorem Rel.setOwn (r : Rel K F fx O σ H ρ G) {i : Nat} {a : Addr} {k : OKd} {d : D} (hO : i < O.length) (hfx : ∀ p ∈ fx, p.1 ≠ i) (w : OwnAt K H G k a d) (hF : F a = none) (hG : G a = none)
    (hn : ∀ j e l, j ≠ i → ρ[j]? = some (some e) → ok O j = some l → σ[j]? ≠ some (some (.ref a))) : Rel K F fx (O.set i (some k)) (σ.set i (some (.ref a))) H (ρ.set i (some d)) G where
  fr := r.fr
  gr := r.gr
  sh := fun j e q n => by
    rw [ok_set hO] at n
    by_cases z : i = j
    · rw [if_pos z] at n; cases n
    · rw [if_neg z] at n
      rw [List.getElem?_set_ne z] at q ⊢
      exact r.sh j e q n
  ow := fun j e l q n => by
    rw [ok_set hO] at n
    by_cases z : i = j
    · subst z
      rw [if_pos rfl] at n
      cases n
      have hl : i < ρ.length := by
        have := (List.getElem?_eq_some_iff.mp q).1
        simpa using this
      rw [List.getElem?_set_self hl] at q
      cases q
      exact ⟨a, by rw [List.getElem?_set_self (by rw [← r.len]; exact hl)], w, hF, hG⟩
    · rw [if_neg z] at n
      rw [List.getElem?_set_ne z] at q ⊢
      exact r.ow j e l q n
  dj := fun j j' e e' l l' b q q' n n' s s' => by
    rw [ok_set hO] at n n'
    by_cases z : i = j
    · subst z
      by_cases z' : i = j'
      · exact z'
      · rw [if_neg z'] at n'
        rw [List.getElem?_set_ne z'] at q' s'
        have hl : i < σ.length := by
          have := (List.getElem?_eq_some_iff.mp s).1
          simpa using this
        rw [List.getElem?_set_self hl] at s
        cases s
        exact absurd s' (hn j' e' l' (fun x => z' x.symm) q' n')
    · rw [if_neg z] at n
      rw [List.getElem?_set_ne z] at q s
      by_cases z' : i = j'
      · subst z'
        have hl : i < σ.length := by
          have := (List.getElem?_eq_some_iff.mp s').1
          simpa using this
        rw [List.getElem?_set_self hl] at s'
        cases s'
        exact absurd s (hn j e l (fun x => z x.symm) q n)
      · rw [if_neg z'] at n'
        rw [List.getElem?_set_ne z'] at q' s'
        exact r.dj j j' e e' l l' b q q' n n' s s'
  fx := fun p hp => by
    obtain ⟨⟨l, e⟩, ⟨d', q'⟩, q⟩ := r.fx p hp
    have z : i ≠ p.1 := fun z => hfx p hp z.symm
    exact ⟨⟨l, by rw [ok_set hO, if_neg z]; exact e⟩, ⟨d', by rw [List.getElem?_set_ne z]; exact q'⟩, by rw [List.getElem?_set_ne z]; exact q⟩
  len := by rw [List.length_set, List.length_set]; exact r.len
/-- a slot's object (a list) is given away: from now on it is leaned on -/
theorem Rel.freeze (r : Rel K F fx O σ H ρ G) {i : Nat} (hO : i < O.length) (hfx : ∀ p ∈ fx, p.1 ≠ i) (hk : ∀ k, ok O i = some k → k = .lst) : ∃ G', Rel K F fx (O.set i none) σ H ρ G' ∧ Ext F G G' := by
  by_cases hs : ∃ d k, ρ[i]? = some (some d) ∧ ok O i = some k
  · obtain ⟨d, k, e, n⟩ := hs
    cases hk k n
    obtain ⟨a, q, ⟨xs, ds, ed, hH, hd⟩, f, g⟩ := r.ow i d .lst e n
    subst ed
    have up : ∀ b o, G b = some o → upd G a (.lst xs) b = some o := fun b o h => by rw [upd_ne (ne_of_none h g)]; exact h
    refine ⟨upd G a (.lst xs), ⟨r.fr, fun b o h => ?_, fun j e' q' n' => ?_, fun j e' k' q' n' => ?_, fun j j' e1 e2 k1 k2 b q1 q2 n1 n2 s1 s2 => ?_, fun p hp => ?_, r.len⟩, up, fun b h n => ?_⟩
    · by_cases z : b = a
      · subst z; rw [upd_same] at h; cases h; exact hH
      · rw [upd_ne z] at h; exact r.gr b o h
    · rw [ok_set hO] at n'
      by_cases z : i = j
      · subst z
        rw [e] at q'; cases q'
        exact ⟨.ref a, q, .lst (SqL.of upd_same) (dpAll_mono up hd)⟩
      · rw [if_neg z] at n'
        obtain ⟨v, h1, h2⟩ := r.sh j e' q' n'
        exact ⟨v, h1, dp_mono up h2⟩
    · rw [ok_set hO] at n'
      by_cases z : i = j
      · rw [if_pos z] at n'; cases n'
      · rw [if_neg z] at n'
        obtain ⟨b, h1, h2, h3, h4⟩ := r.ow j e' k' q' n'
        have ne : b ≠ a := fun x => by subst x; exact z (r.dj i j _ _ _ _ b e q' n n' q h1)
        exact ⟨b, h1, h2.mono up rfl, h3, by rw [upd_ne ne]; exact h4⟩
    · rw [ok_set hO] at n1 n2
      by_cases z : i = j
      · rw [if_pos z] at n1; cases n1
      · by_cases z' : i = j'
        · rw [if_pos z'] at n2; cases n2
        · rw [if_neg z] at n1
          rw [if_neg z'] at n2
          exact r.dj j j' e1 e2 k1 k2 b q1 q2 n1 n2 s1 s2
    · obtain ⟨⟨l, e2⟩, q2⟩ := r.fx p hp
      have z : i ≠ p.1 := fun z => hfx p hp z.symm
      exact ⟨⟨l, by rw [ok_set hO, if_neg z]; exact e2⟩, q2⟩
    · have ne : b ≠ a := fun x => by subst x; exact h f
      rw [upd_ne ne]; exact n
  · refine ⟨G, ⟨r.fr, r.gr, fun j e' q' n' => ?_, fun j e' k' q' n' => ?_, fun j j' e1 e2 k1 k2 b q1 q2 n1 n2 s1 s2 => ?_, fun p hp => ?_, r.len⟩, Ext.refl _ _⟩
    · rw [ok_set hO] at n'
      by_cases z : i = j
      · subst z
        cases c : ok O i with
        | none => exact r.sh i e' q' c
        | some k => exact absurd ⟨e', k, q', c⟩ hs
      · rw [if_neg z] at n'
        exact r.sh j e' q' n'
    · rw [ok_set hO] at n'
      by_cases z : i = j
      · rw [if_pos z] at n'; cases n'
      · rw [if_neg z] at n'
        exact r.ow j e' k' q' n'
    · rw [ok_set hO] at n1 n2
      by_cases z : i = j
      · rw [if_pos z] at n1; cases n1
      · by_cases z' : i = j'
        · rw [if_pos z'] at n2; cases n2
        · rw [if_neg z] at n1
          rw [if_neg z'] at n2
          exact r.dj j j' e1 e2 k1 k2 b q1 q2 n1 n2 s1 s2
    · obtain ⟨⟨l, e2⟩, q2⟩ := r.fx p hp
      have z : i ≠ p.1 := fun z => hfx p hp z.symm
      exact ⟨⟨l, by rw [ok_set hO, if_neg z]; exact e2⟩, q2⟩
/-- an owned object is changed -/
theorem Rel.mutate (r : Rel K F fx O σ H ρ G) {i : Nat} {d d' : D} {k : OKd} {a : Addr} {o : HO} (e : ρ[i]? = some (some d)) (n : ok O i = some k) (q : σ[i]? = some (some (.ref a))) (w : OwnAt K (upd H a o) G k a d') :
    Rel K F fx O σ (upd H a o) (ρ.set i (some d')) G := by
  obtain ⟨b, q', w0, f, g⟩ := r.ow i d k e n
  rw [q] at q'
  injection q' with q1
  injection q1 with q2
  injection q2 with q3
  subst q3
  have hl : i < ρ.length := (List.getElem?_eq_some_iff.mp e).1
  have back : ∀ j e', (ρ.set i (some d'))[j]? = some (some e') → ∃ e'', ρ[j]? = some (some e'') := fun j e' h => by
    by_cases z : i = j
    · subst z; exact ⟨d, e⟩
    · rw [List.getElem?_set_ne z] at h; exact ⟨e', h⟩
  refine ⟨fun b u h => ?_, fun b u h => ?_, fun j e' h n' => ?_, fun j e' k' h n' => ?_, fun j j' e1 e2 k1 k2 b h1 h2 n1 n2 s1 s2 => ?_, fun p hp => ?_, ?_⟩
  · rw [upd_ne (ne_of_none h f)]; exact r.fr b u h
  · rw [upd_ne (ne_of_none h g)]; exact r.gr b u h
  · have z : i ≠ j := fun z => by rw [← z, n] at n'; cases n'
    rw [List.getElem?_set_ne z] at h
    exact r.sh j e' h n'
  · by_cases z : i = j
    · subst z
      rw [List.getElem?_set_self hl] at h
      cases h
      rw [n] at n'
      cases n'
      exact ⟨a, q, w, f, g⟩
    · rw [List.getElem?_set_ne z] at h
      obtain ⟨b, h1, h2, h3, h4⟩ := r.ow j e' k' h n'
      have ne : b ≠ a := fun x => by subst x; exact z (r.dj i j _ _ _ _ b e h n n' q h1)
      exact ⟨b, h1, h2.mono (fun _ _ x => x) (upd_ne ne), h3, h4⟩
  · obtain ⟨f1, g1⟩ := back j e1 h1
    obtain ⟨f2, g2⟩ := back j' e2 h2
    exact r.dj j j' f1 f2 k1 k2 b g1 g2 n1 n2 s1 s2
  · obtain ⟨h1, ⟨d'', h2⟩, h3⟩ := r.fx p hp
    refine ⟨h1, ?_, h3⟩
    by_cases z : i = p.1
    · exact ⟨d', by rw [← z, List.getElem?_set_self hl]⟩
    · exact ⟨d'', by rw [List.getElem?_set_ne z]; exact h2⟩
  · rw [List.length_set]; exact r.len
/-- a smaller frame -/
theorem Rel.frame (r : Rel K F fx O σ H ρ G) {F' : Hp} (h : ∀ a o, F' a = some o → F a = some o) : Rel K F' fx O σ H ρ G :=
  ⟨fun a o e => r.fr a o (h a o e), r.gr, r.sh, (fun i d k e n => by
    obtain ⟨a, q, w, f, g⟩ := r.ow i d k e n
    refine ⟨a, q, w, ?_, g⟩
    cases c : F' a with
    | none => rfl
    | some u =>
      rw [h a u c] at f
      cases f), r.dj, r.fx, r.len⟩
end
end Z

/-! file ZExpr -/
set_option Elab.async false
set_option linter.all false
set_option autoImplicit false
set_option maxRecDepth 100000
set_option maxHeartbeats 4000000
/-! what an expression's tree is -/
namespace Z
open PySem PySem.Spec PyProof.Rows L2

/-- an end: a value, an exception (its class's name, its attributes), or nothing that is promised -/
inductive Out (r α : Type) where
  | ok (a : α) (s : r)
  | exc (c : Str) (fs : List (Str × D)) (s : r)
  | bad
def Out.bind {r α β : Type} (o : Out r α) (k : α → r → Out r β) : Out r β := match o with
  | .ok a s => k a s
  | .exc c fs s => .exc c fs s
  | .bad => .bad
@[simp] theorem bind_ok {r α β : Type} (a : α) (s : r) (k : α → r → Out r β) : (Out.ok a s).bind k = k a s := rfl
@[simp] theorem bind_exc {r α β : Type} (c : Str) (fs : List (Str × D)) (s : r) (k : α → r → Out r β) : (Out.exc c fs s).bind k = .exc c fs s := rfl
@[simp] theorem bind_bad {r α β : Type} (k : α → r → Out r β) : (Out.bad : Out r α).bind k = .bad := rfl
def Out.of {r α : Type} (o : Option α) (s : r) : Out r α := match o with
  | some a => .ok a s
  | none => .bad
@[simp] theorem of_some {r α : Type} (a : α) (s : r) : Out.of (some a) s = .ok a s := rfl
@[simp] theorem of_none {r α : Type} (s : r) : Out.of (none : Option α) s = .bad := rfl

/-- what a body is about: who owns (parameters), what an exception is to reach -/
structure Pm where
  fx : List (Nat × Addr)
  W : WX
/-- an exception as it flies -/
def ExcR (K : PySem.W.Frag) (mg : Str → Option Value) (G : Hp) (c : Str) (fs : List (Str × D)) (cls : Value) (de : Option Addr) : Prop :=
  ∃ C, mg c = some (.ref C) ∧ cls = .ref C ∧ (fs ≠ [] → ∃ dd vs, de = some dd ∧ G dd = some (.xd vs) ∧ Paired (fun (p : Str × V) (q : Str × D) => p.1 = q.1 ∧ Dp K G p.2 q.2) vs fs)

/-- how a value is told by a tree: frame, slots, trees of the slots, heap, ground -/
abbrev RR (β α : Type) := Hp → L2.St → Rho → Hp → Hp → β → α → Prop
/-- what is wanted behind an end: R relates the value to the tree -/
def Fin {α β : Type} (K : PySem.W.Frag) (mg : Str → Option Value) (P : Pm) (O : Own) (σ : L2.St) (F : Hp) (R : RR β α) (G : Hp) (o : Out Rho α) (Q : β → Hp → Prop) : Prop := match o with
  | .ok a ρ' => ∀ v H' G', Rel K F P.fx O σ H' ρ' G' → Ext F G G' → R F σ ρ' H' G' v a → Q v H'
  | .exc c fs ρ' => ∀ cls de H' G', Rel K F P.fx O σ H' ρ' G' → Ext F G G' → ExcR K mg G' c fs cls de → P.W cls de σ H'
  | .bad => False
def tX {α β : Type} (X : Cx) (P : Pm) (O : Own) (R : RR β α) (T : Rho → Out Rho α) : L2.St → Hp → (β → Hp → Prop) → Prop := fun σ H Q =>
  ∃ ρ G F, Rel X.K F P.fx O σ H ρ G ∧ Fin X.K X.mg P O σ F R G (T ρ) Q
abbrev rE (K : PySem.W.Frag) : RR V D := fun _ _ _ _ G v d => Dp K G v d
abbrev rA (K : PySem.W.Frag) : RR (List V) (List D) := fun _ _ _ _ G vs ds => DpAll K G vs ds
abbrev rT : RR Bool Bool := fun _ _ _ _ _ a b => a = b
/-- an expression, a test, a list of arguments -/
def EX (X : Cx) (P : Pm) (O : Own) (e : Expr) (T : Rho → Out Rho D) : Prop := PE X e (tX X P O (rE X.K) T)
def TX (X : Cx) (P : Pm) (O : Own) (e : Expr) (T : Rho → Out Rho Bool) : Prop := PT X e (tX X P O rT T)
def AX (X : Cx) (P : Pm) (O : Own) (es : List Expr) (T : Rho → Out Rho (List D)) : Prop := PA X es (tX X P O (rA X.K) T)

section
variable {α β γ δ : Type} {K : PySem.W.Frag} {mg : Str → Option Value} {P : Pm} {O : Own} {σ : L2.St} {F : Hp} {R : RR β α} {S : RR δ γ} {G G' : Hp} {o : Out Rho α}
theorem Fin.ext {Q : β → Hp → Prop} (e : Ext F G G') (h : Fin K mg P O σ F R G o Q) : Fin K mg P O σ F R G' o Q := by
  cases o with
  | ok a ρ' => exact fun v H' G2 r e2 d => h v H' G2 r (e.trans e2) d
  | exc c fs ρ' => exact fun cls de H' G2 r e2 d => h cls de H' G2 r (e.trans e2) d
  | bad => exact h
theorem Fin.imp {Q Q' : β → Hp → Prop} (h : Fin K mg P O σ F R G o Q) (hq : ∀ v H', Q v H' → Q' v H') : Fin K mg P O σ F R G o Q' := by
  cases o with
  | ok a ρ' => exact fun v H' G2 r e2 d => hq _ _ (h v H' G2 r e2 d)
  | exc c fs ρ' => exact h
  | bad => exact h
/-- step by step -/
theorem Fin.bind {Q : δ → Hp → Prop} {k : α → Rho → Out Rho γ} (h : Fin K mg P O σ F S G (o.bind k) Q) :
    Fin K mg P O σ F R G o (fun v H' => ∃ a ρ' G', Rel K F P.fx O σ H' ρ' G' ∧ Ext F G G' ∧ R F σ ρ' H' G' v a ∧ o = .ok a ρ' ∧ Fin K mg P O σ F S G' (k a ρ') Q) := by
  cases o with
  | ok a ρ' => exact fun v H' G2 r e2 d => ⟨a, ρ', G2, r, e2, d, rfl, Fin.ext e2 h⟩
  | exc c fs ρ' => exact h
  | bad => exact h
end

section
variable {X : Cx} {P : Pm} {O : Own}
theorem pe_mono {e : Expr} {t t' : TE} (h : PE X e t) (m : ∀ σ H Q, t' σ H Q → t σ H Q) : PE X e t' := ⟨fun pins s σ H Q I q => h.run pins s σ H Q I (m σ H Q q)⟩
theorem pt_mono {e : Expr} {t t' : TT} (h : PT X e t) (m : ∀ σ H Q, t' σ H Q → t σ H Q) : PT X e t' := ⟨fun pins s σ H Q I q => h.run pins s σ H Q I (m σ H Q q)⟩
theorem pa_mono {e : List Expr} {t t' : TA} (h : PA X e t) (m : ∀ σ H Q, t' σ H Q → t σ H Q) : PA X e t' := ⟨fun pos pins s σ H Q I q => h.run pos pins s σ H Q I (m σ H Q q)⟩

/-- the step of a reading: first the part, then the rest -/
theorem tX_bind {α β γ δ : Type} {R : RR β α} {S : RR δ γ} {T : Rho → Out Rho α} {k : α → Rho → Out Rho γ} {σ : L2.St} {H : Hp} {Q : δ → Hp → Prop} {Q' : β → Hp → Prop}
    (h : tX X P O S (fun ρ => (T ρ).bind k) σ H Q)
    (c : ∀ v H' a ρ' G' F, Rel X.K F P.fx O σ H' ρ' G' → R F σ ρ' H' G' v a → Fin X.K X.mg P O σ F S G' (k a ρ') Q → Q' v H') : tX X P O R T σ H Q' := by
  obtain ⟨ρ, G, F, r, h⟩ := h
  refine ⟨ρ, G, F, r, ?_⟩
  refine Fin.imp (Fin.bind (R := R) h) fun v H' ⟨a, ρ', G', r', e, d, _, f⟩ => c v H' a ρ' G' F r' d f
/-- .. told with what came -/
theorem tX_of {α β : Type} {R : RR β α} {T : Rho → Out Rho α} {σ : L2.St} {H : Hp} {Q : β → Hp → Prop} {ρ : Rho} {G F : Hp} (r : Rel X.K F P.fx O σ H ρ G) (f : Fin X.K X.mg P O σ F R G (T ρ) Q) : tX X P O R T σ H Q := ⟨ρ, G, F, r, f⟩
theorem tX_bind' {α β γ δ : Type} {R : RR β α} {S : RR δ γ} {T : Rho → Out Rho α} {k : α → Rho → Out Rho γ} {σ : L2.St} {H : Hp} {Q : δ → Hp → Prop} {Q' : β → Hp → Prop} {ρ : Rho} {G F : Hp}
    (r : Rel X.K F P.fx O σ H ρ G) (h : Fin X.K X.mg P O σ F S G ((T ρ).bind k) Q)
    (c : ∀ v H' a ρ' G', Rel X.K F P.fx O σ H' ρ' G' → Ext F G G' → R F σ ρ' H' G' v a → Fin X.K X.mg P O σ F S G' (k a ρ') Q → Q' v H') : tX X P O R T σ H Q' := by
  refine ⟨ρ, G, F, r, ?_⟩
  refine Fin.imp (Fin.bind (R := R) h) fun v H' ⟨a, ρ', G', r', e, d, _, f⟩ => c v H' a ρ' G' r' e d f

/-! ### names and constants -/
def varT (i : Nat) : Rho → Out Rho D := fun ρ => match ρ[i]? with
  | some (some d) => .ok d ρ
  | _ => .bad
def cT (d : D) : Rho → Out Rho D := fun ρ => .ok d ρ
def badT {α : Type} : Rho → Out Rho α := fun _ => .bad
theorem ex_bad {e : Expr} : EX X P O e badT := ⟨fun _ _ _ _ _ _ ⟨_, _, _, _, f⟩ => f.elim⟩
theorem tx_bad {e : Expr} : TX X P O e badT := ⟨fun _ _ _ _ _ _ ⟨_, _, _, _, f⟩ => f.elim⟩
theorem ex_var (i : Nat) {x : Str} {pos : Pos} (hO : ok O i = none := by rfl) (hN : X.N[i]? = some x := by rfl) (hv : Vis X.env.scope x := by first | exact Or.inl rfl | exact Or.inr (Or.inl rfl) | exact Or.inr (Or.inr rfl))
    (hd : (x == ("__debug__" : Str)) = false := by decide) (hcd : (x == ("__classdict__" : Str)) = false := by decide) : EX X P O (.Name x pos) (varT i) := by
  refine pe_mono (pe_var hN hv hd hcd) fun σ H Q ⟨ρ, G, F, r, f⟩ => ?_
  unfold varT at f
  cases e : ρ[i]? with
  | none => rw [e] at f; exact f.elim
  | some u =>
    cases u with
    | none => rw [e] at f; exact f.elim
    | some d =>
      rw [e] at f
      obtain ⟨v, q, p⟩ := r.sh i d e hO
      exact ⟨v, q, f v H G r (Ext.refl _ _) p⟩
theorem ex_c {e : Expr} {v : V} {d : D} (h : PE X e (tC v)) (hd : ∀ G, Dp X.K G v d) : EX X P O e (cT d) :=
  pe_mono h fun σ H Q ⟨ρ, G, F, r, f⟩ => f v H G r (Ext.refl _ _) (hd G)
theorem ex_int {i : Int} {j : Nat} {pos : Pos} : EX X P O (.Constant (.int i) j pos) (cT (.int i)) := ex_c pe_int fun _ => .int i
theorem ex_bl {b : Bool} {j : Nat} {pos : Pos} : EX X P O (.Constant (.bool b) j pos) (cT (.bool b)) := ex_c pe_bl fun _ => .bl b
theorem ex_non {j : Nat} {pos : Pos} : EX X P O (.Constant .none j pos) (cT .none) := ex_c pe_non fun _ => .non
theorem ex_str {x : Str} {j : Nat} {pos : Pos} : EX X P O (.Constant (.str x) j pos) (cT (.str x)) := ex_c pe_str fun _ => .str x
/-- a module's constant -/
def Kon (K : PySem.W.Frag) (mg : Str → Option Value) (x : Str) (d : D) : Prop := ∃ u v, mg x = some u ∧ RelV v u ∧ ∀ G, Dp K G v d
theorem ex_kon {x : Str} {d : D} {pos : Pos} (k : Kon X.K X.mg x d) (hg : Gl X x := by rfl) (hd : (x == ("__debug__" : Str)) = false := by decide) : EX X P O (.Name x pos) (cT d) := by
  obtain ⟨u, v, h1, h2, h3⟩ := k
  exact ex_c (pe_glob hg h1 h2 hd) h3

/-! ### operators -/
/-- a rule of the layer upon trees -/
def Sem2 (X : Cx) (r : R2) (g : D → D → Option D) : Prop := ∀ {P : Pm} {O : Own} {σ : L2.St} {H : Hp} {ρ : Rho} {G F : Hp} {x y : V} {d e f : D} {Q : VK}, Rel X.K F P.fx O σ H ρ G → Dp X.K G x d → Dp X.K G y e → g d e = some f →
  (∀ v H' G', Rel X.K F P.fx O σ H' ρ G' → Ext F G G' → Dp X.K G' v f → Q v H') → r x y H Q
def binT (g : D → D → Option D) (Ta Tb : Rho → Out Rho D) : Rho → Out Rho D := fun ρ => (Ta ρ).bind fun d ρ1 => (Tb ρ1).bind fun e ρ2 => .of (g d e) ρ2
theorem tx_bin {r : R2} {g : D → D → Option D} (hs : Sem2 X r g) {Ta Tb : Rho → Out Rho D} {σ : L2.St} {H : Hp} {Q : VK} (h : tX X P O (rE X.K) (binT g Ta Tb) σ H Q) : tOp r (tX X P O (rE X.K) Ta) (tX X P O (rE X.K) Tb) σ H Q := by
  obtain ⟨ρ, G, F, rr, h⟩ := h
  refine tX_bind' (R := rE X.K) rr h fun x H1 d ρ1 G1 r1 e1 p1 h1 => ?_
  refine tX_bind' (R := rE X.K) r1 h1 fun y H2 e ρ2 G2 r2 e2 p2 h2 => ?_
  cases z : g d e with
  | none => rw [z] at h2; exact h2.elim
  | some f =>
    rw [z] at h2
    exact hs r2 (dp_mono e2.1 p1) p2 z h2
theorem ex_op {op : Operator} {r : R2} {g : D → D → Option D} (ho : OpR X (binaryOp op) r) (hs : Sem2 X r g) {a b : Expr} {Ta Tb : Rho → Out Rho D} {pos : Pos} (ha : EX X P O a Ta) (hb : EX X P O b Tb) : EX X P O (.BinOp a op b pos) (binT g Ta Tb) :=
  pe_mono (pe_op ho ha hb) fun _ _ _ h => tx_bin hs h
theorem ex_cmp {op : CmpOp} {r : R2} {g : D → D → Option D} (ho : OpR X (compareOp op) r) (hs : Sem2 X r g) {a b : Expr} {Ta Tb : Rho → Out Rho D} {pos : Pos} (ha : EX X P O a Ta) (hb : EX X P O b Tb) (hm : behindInMarks op b = false) : EX X P O (.Compare a [op] [b] pos) (binT g Ta Tb) :=
  pe_mono (pe_cmpR ho ha hb hm) fun _ _ _ h => tx_bin hs h
def isB (T : Rho → Out Rho D) : Rho → Out Rho Bool := fun ρ => (T ρ).bind fun d ρ1 => match d with
  | .bool b => .ok b ρ1
  | _ => .bad
theorem tT_of {T : Rho → Out Rho D} {σ : L2.St} {H : Hp} {Q : Bool → Hp → Prop} (h : tX X P O rT (isB T) σ H Q) : tX X P O (rE X.K) T σ H (fun x H' => ∃ k, x = .bl k ∧ Q k H') := by
  obtain ⟨ρ, G, F, rr, h⟩ := h
  refine tX_bind' (R := rE X.K) rr h fun x H1 d ρ1 G1 r1 e1 p1 h1 => ?_
  cases d with
  | bool b =>
    cases p1
    exact ⟨b, rfl, h1 b H1 G1 r1 (Ext.refl _ _) rfl⟩
  | _ => exact h1.elim
theorem tx_cmp {op : CmpOp} {r : R2} {g : D → D → Option D} (ho : OpR X (compareOp op) r) (hs : Sem2 X r g) {a b : Expr} {Ta Tb : Rho → Out Rho D} {pos : Pos} (ha : EX X P O a Ta) (hb : EX X P O b Tb) (hm : behindInMarks op b = false) : TX X P O (.Compare a [op] [b] pos) (isB (binT g Ta Tb)) :=
  pt_mono (pt_cmpR ho ha hb hm) fun _ _ _ h => tx_bin hs (tT_of h)
/-- an expression whose value is a bool, as a test -/
theorem tx_val {e : Expr} {T : Rho → Out Rho D} (h : EX X P O e T) (he : ∀ whole, isTrue e X.env whole = (do let v ← whole; standAt e.pos; holding [v] (truthy v)) := by intro _; rfl) : TX X P O e (isB T) :=
  pt_mono (pt_val h he) fun _ _ _ h => tT_of h
def andT (Ta Tb : Rho → Out Rho Bool) : Rho → Out Rho Bool := fun ρ => (Ta ρ).bind fun c ρ1 => if c = true then Tb ρ1 else .ok false ρ1
def orT (Ta Tb : Rho → Out Rho Bool) : Rho → Out Rho Bool := fun ρ => (Ta ρ).bind fun c ρ1 => if c = true then .ok true ρ1 else Tb ρ1
def notT (Ta : Rho → Out Rho Bool) : Rho → Out Rho Bool := fun ρ => (Ta ρ).bind fun c ρ1 => .ok (!c) ρ1
def WXt (X : Cx) (P : Pm) (O : Own) (e : Expr) (T : Rho → Out Rho Bool) : Prop := PW X e (tX X P O rT T)
theorem tx_pw {e : Expr} {T : Rho → Out Rho Bool} (h : WXt X P O e T) : TX X P O e T := PW.pt h
theorem pw_mono {e : Expr} {t t' : TT} (h : PW X e t) (m : ∀ σ H Q, t' σ H Q → t σ H Q) : PW X e t' := ⟨fun wh pins s σ H Q I q => h.run wh pins s σ H Q I (m σ H Q q)⟩
theorem wx_and1 {a : Expr} {T : Rho → Out Rho Bool} {pos : Pos} (h : TX X P O a T) : WXt X P O (.BoolOp .And [a] pos) T := pw_and1 h
theorem wx_or1 {a : Expr} {T : Rho → Out Rho Bool} {pos : Pos} (h : TX X P O a T) : WXt X P O (.BoolOp .Or [a] pos) T := pw_or1 h
theorem wx_and {a b : Expr} {rest : List Expr} {Ta Tb : Rho → Out Rho Bool} {pos : Pos} (ha : TX X P O a Ta) (hb : WXt X P O (.BoolOp .And (b :: rest) pos) Tb) : WXt X P O (.BoolOp .And (a :: b :: rest) pos) (andT Ta Tb) := by
  refine pw_mono (pw_and ha hb) fun σ H Q ⟨ρ, G, F, rr, h⟩ => ?_
  refine tX_bind' (R := rT) rr h fun c H1 d ρ1 G1 r1 e1 p1 h1 => ?_
  cases p1
  cases c with
  | true => exact ⟨ρ1, G1, F, r1, h1⟩
  | false => exact h1 false H1 G1 r1 (Ext.refl _ _) rfl
theorem wx_or {a b : Expr} {rest : List Expr} {Ta Tb : Rho → Out Rho Bool} {pos : Pos} (ha : TX X P O a Ta) (hb : WXt X P O (.BoolOp .Or (b :: rest) pos) Tb) : WXt X P O (.BoolOp .Or (a :: b :: rest) pos) (orT Ta Tb) := by
  refine pw_mono (pw_or ha hb) fun σ H Q ⟨ρ, G, F, rr, h⟩ => ?_
  refine tX_bind' (R := rT) rr h fun c H1 d ρ1 G1 r1 e1 p1 h1 => ?_
  cases p1
  cases c with
  | false => exact ⟨ρ1, G1, F, r1, h1⟩
  | true => exact h1 true H1 G1 r1 (Ext.refl _ _) rfl
theorem tx_not {a : Expr} {Ta : Rho → Out Rho Bool} {pos : Pos} (ha : TX X P O a Ta) : TX X P O (.UnaryOp .Not a pos) (notT Ta) := by
  refine pt_mono (pt_not ha) fun σ H Q ⟨ρ, G, F, rr, h⟩ => ?_
  refine tX_bind' (R := rT) rr h fun c H1 d ρ1 G1 r1 e1 p1 h1 => ?_
  cases p1
  exact h1 (!c) H1 G1 r1 (Ext.refl _ _) rfl
/-! as values: bools -/
def toD (T : Rho → Out Rho Bool) : Rho → Out Rho D := fun ρ => (T ρ).bind fun c ρ1 => .ok (.bool c) ρ1
def andV (Ta Tb : Rho → Out Rho D) : Rho → Out Rho D := fun ρ => (isB Ta ρ).bind fun c ρ1 => if c = true then Tb ρ1 else .ok (.bool false) ρ1
def orV (Ta Tb : Rho → Out Rho D) : Rho → Out Rho D := fun ρ => (isB Ta ρ).bind fun c ρ1 => if c = true then .ok (.bool true) ρ1 else Tb ρ1
def notV (Ta : Rho → Out Rho D) : Rho → Out Rho D := fun ρ => (isB Ta ρ).bind fun c ρ1 => .ok (.bool (!c)) ρ1
/-- the first part is a bool -/
theorem tX_isB {γ δ : Type} {S : RR δ γ} {T : Rho → Out Rho D} {k : Bool → Rho → Out Rho γ} {σ : L2.St} {H : Hp} {Q : δ → Hp → Prop} {Q' : VK} {ρ : Rho} {G F : Hp}
    (r : Rel X.K F P.fx O σ H ρ G) (h : Fin X.K X.mg P O σ F S G ((isB T ρ).bind k) Q)
    (c : ∀ b H' ρ' G', Rel X.K F P.fx O σ H' ρ' G' → Ext F G G' → Fin X.K X.mg P O σ F S G' (k b ρ') Q → Q' (.bl b) H') : tX X P O (rE X.K) T σ H Q' := by
  have e : (isB T ρ).bind k = (T ρ).bind fun d ρ1 => (match d with | .bool b => k b ρ1 | _ => .bad) := by
    unfold isB
    cases T ρ with
    | ok d ρ1 => cases d <;> rfl
    | exc => rfl
    | bad => rfl
  rw [e] at h
  refine tX_bind' (R := rE X.K) r h fun x H1 d ρ1 G1 r1 e1 p1 h1 => ?_
  cases d with
  | bool b =>
    cases p1
    exact c b H1 ρ1 G1 r1 e1 h1
  | _ => exact h1.elim
theorem ex_one {op : BoolOp} {a : Expr} {T : Rho → Out Rho D} {pos : Pos} (h : EX X P O a T) : EX X P O (.BoolOp op [a] pos) T := pe_one h
theorem ex_and {a b : Expr} {rest : List Expr} {Ta Tb : Rho → Out Rho D} {pos : Pos} (ha : EX X P O a Ta) (hb : EX X P O (.BoolOp .And (b :: rest) pos) Tb) : EX X P O (.BoolOp .And (a :: b :: rest) pos) (andV Ta Tb) := by
  refine pe_mono (pe_and ha hb) fun σ H Q ⟨ρ, G, F, rr, h⟩ => ?_
  refine tX_isB rr h fun c H1 ρ1 G1 r1 e1 h1 => ⟨c, rfl, ?_⟩
  cases c with
  | true => exact ⟨ρ1, G1, F, r1, h1⟩
  | false => exact h1 (.bl false) H1 G1 r1 (Ext.refl _ _) (.bl false)
theorem ex_or {a b : Expr} {rest : List Expr} {Ta Tb : Rho → Out Rho D} {pos : Pos} (ha : EX X P O a Ta) (hb : EX X P O (.BoolOp .Or (b :: rest) pos) Tb) : EX X P O (.BoolOp .Or (a :: b :: rest) pos) (orV Ta Tb) := by
  refine pe_mono (pe_or ha hb) fun σ H Q ⟨ρ, G, F, rr, h⟩ => ?_
  refine tX_isB rr h fun c H1 ρ1 G1 r1 e1 h1 => ⟨c, rfl, ?_⟩
  cases c with
  | false => exact ⟨ρ1, G1, F, r1, h1⟩
  | true => exact h1 (.bl true) H1 G1 r1 (Ext.refl _ _) (.bl true)
theorem ex_not {a : Expr} {Ta : Rho → Out Rho D} {pos : Pos} (ha : EX X P O a Ta) : EX X P O (.UnaryOp .Not a pos) (notV Ta) := by
  refine pe_mono (pe_not ha) fun σ H Q ⟨ρ, G, F, rr, h⟩ => ?_
  exact tX_isB rr h fun c H1 ρ1 G1 r1 e1 h1 => ⟨c, rfl, h1 (.bl (!c)) H1 G1 r1 (Ext.refl _ _) (.bl (!c))⟩
def ifT {α : Type} (Tc : Rho → Out Rho Bool) (Ta Tb : Rho → Out Rho α) : Rho → Out Rho α := fun ρ => (Tc ρ).bind fun c ρ1 => if c = true then Ta ρ1 else Tb ρ1
theorem ex_if {c a b : Expr} {Tc : Rho → Out Rho Bool} {Ta Tb : Rho → Out Rho D} {pos : Pos} (hc : TX X P O c Tc) (ha : EX X P O a Ta) (hb : EX X P O b Tb) : EX X P O (.IfExp c a b pos) (ifT Tc Ta Tb) := by
  refine pe_mono (pe_ifExp hc ha hb) fun σ H Q ⟨ρ, G, F, rr, h⟩ => ?_
  refine tX_bind' (R := rT) rr h fun c H1 d ρ1 G1 r1 e1 p1 h1 => ?_
  cases p1
  cases c with
  | true => exact ⟨ρ1, G1, F, r1, h1⟩
  | false => exact ⟨ρ1, G1, F, r1, h1⟩

/-! ### arguments and displays -/
def nilT : Rho → Out Rho (List D) := fun ρ => .ok [] ρ
def consT (Ta : Rho → Out Rho D) (Tb : Rho → Out Rho (List D)) : Rho → Out Rho (List D) := fun ρ => (Ta ρ).bind fun d ρ1 => (Tb ρ1).bind fun ds ρ2 => .ok (d :: ds) ρ2
/-- the items of a list or tuple -/
def itemsD : D → Option (List D)
  | .list ds => some ds
  | .tuple ds => some ds
  | _ => none
def starT (Ta : Rho → Out Rho D) (Tb : Rho → Out Rho (List D)) : Rho → Out Rho (List D) := fun ρ => (Ta ρ).bind fun d ρ1 => match itemsD d with
  | some es => (Tb ρ1).bind fun ds ρ2 => .ok (es ++ ds) ρ2
  | none => .bad
theorem ax_nil : AX X P O [] nilT := pa_mono pa_nil fun σ H Q ⟨ρ, G, F, r, h⟩ => h [] H G r (Ext.refl _ _) .nil
theorem ax_cons {e : Expr} {es : List Expr} {Ta : Rho → Out Rho D} {Tb : Rho → Out Rho (List D)} (ha : EX X P O e Ta) (hb : AX X P O es Tb) (hs : starEach (e :: es) X.env = (false, eval e X.env) :: starEach es X.env := by rfl) : AX X P O (e :: es) (consT Ta Tb) := by
  refine pa_mono (pa_cons ha hb hs) fun σ H Q ⟨ρ, G, F, rr, h⟩ => ?_
  refine tX_bind' (R := rE X.K) rr h fun x H1 d ρ1 G1 r1 e1 p1 h1 => ?_
  refine tX_bind' (R := rA X.K) r1 h1 fun xs H2 ds ρ2 G2 r2 e2 p2 h2 => ?_
  exact h2 (x :: xs) H2 G2 r2 (Ext.refl _ _) (.cons (dp_mono e2.1 p1) p2)
theorem dp_items {K : PySem.W.Frag} {G H : Hp} {v : V} {d : D} {ds : List D} (gr : ∀ a o, G a = some o → H a = some o) (h : Dp K G v d) (e : itemsD d = some ds) : ∃ p xs, v = .ref p ∧ (SqT K H p xs ∨ SqL K H p xs) ∧ DpAll K G xs ds := by
  cases h with
  | lst q r => cases e; exact ⟨_, _, rfl, .inr (sqL_mono gr q), r⟩
  | tup q r => cases e; exact ⟨_, _, rfl, .inl (sqT_mono gr q), r⟩
  | _ => cases e
theorem ax_star {e : Expr} {es : List Expr} {p : Pos} {Ta : Rho → Out Rho D} {Tb : Rho → Out Rho (List D)} (ha : EX X P O e Ta) (hb : AX X P O es Tb) (hs : starEach (.Starred e p :: es) X.env = (true, eval e X.env) :: starEach es X.env := by rfl) : AX X P O (.Starred e p :: es) (starT Ta Tb) := by
  refine pa_mono (StX.pa_star ha hb hs) fun σ H Q ⟨ρ, G, F, rr, h⟩ => ?_
  refine tX_bind' (R := rE X.K) rr h fun x H1 d ρ1 G1 r1 e1 p1 h1 => ?_
  cases z : itemsD d with
  | none => rw [z] at h1; exact h1.elim
  | some es' =>
    rw [z] at h1
    obtain ⟨q, xs, rfl, hx, hr⟩ := dp_items r1.gr p1 z
    refine ⟨q, xs, rfl, hx, ?_⟩
    refine tX_bind' (R := rA X.K) r1 h1 fun ys H2 ds ρ2 G2 r2 e2 p2 h2 => ?_
    exact h2 (xs ++ ys) H2 G2 r2 (Ext.refl _ _) ((dpAll_mono e2.1 hr).append p2)
end
end Z

/-! file ZExpr2 -/
set_option Elab.async false
set_option linter.all false
set_option autoImplicit false
set_option maxRecDepth 100000
set_option maxHeartbeats 4000000
/-! displays, operators, subscripts, built-ins upon trees -/
namespace Z
open PySem PySem.Spec PyProof.Rows L2

/-! ### fresh objects -/
/-- a new object that nobody owns, of a kind -/
def rF (K : PySem.W.Frag) (O : Own) (k : OKd) : RR V D := fun F σ ρ' H' G' v d => ∃ p, v = .ref p ∧ OwnAt K H' G' k p d ∧ F p = none ∧ G' p = none ∧ ∀ j e l, ρ'[j]? = some (some e) → ok O j = some l → σ[j]? ≠ some (some (.ref p))
def FX (X : Cx) (P : Pm) (O : Own) (k : OKd) (e : Expr) (T : Rho → Out Rho D) : Prop := PE X e (tX X P O (rF X.K O k) T)
section
variable {X : Cx} {P : Pm} {O : Own}
/-- a new list is leaned on from now on -/
theorem rel_leave {K : PySem.W.Frag} {F : Hp} {fx : List (Nat × Addr)} {σ : L2.St} {H : Hp} {ρ : Rho} {G : Hp} {v : V} {d : D} (r : Rel K F fx O σ H ρ G) (f : rF K O .lst F σ ρ H G v d) : ∃ G', Rel K F fx O σ H ρ G' ∧ Ext F G G' ∧ Dp K G' v d := by
  obtain ⟨p, rfl, ⟨xs, ds, rfl, hH, hd⟩, hF, hG, hn⟩ := f
  have up : ∀ b o, G b = some o → upd G p (.lst xs) b = some o := fun b o h => by rw [upd_ne (ne_of_none h hG)]; exact h
  refine ⟨upd G p (.lst xs), r.next r.fr up (fun b o h => ?_) (fun i d k a e n q => ⟨rfl, ?_⟩), ⟨up, fun b h n => ?_⟩, .lst (SqL.of upd_same) (dpAll_mono up hd)⟩
  · by_cases z : b = p
    · subst z; rw [upd_same] at h; cases h; exact hH
    · rw [upd_ne z] at h; exact r.gr b o h
  · have ne : a ≠ p := fun z => by subst z; exact hn i d k e n q
    obtain ⟨b, q', _, _, g⟩ := r.ow i d k e n
    rw [q] at q'
    injection q' with q1
    injection q1 with q2
    injection q2 with q3
    subst q3
    rw [upd_ne ne]; exact g
  · have ne : b ≠ p := fun z => by subst z; exact h hF
    rw [upd_ne ne]; exact n
theorem ex_of_fx {e : Expr} {T : Rho → Out Rho D} (h : FX X P O .lst e T) : EX X P O e T := by
  refine pe_mono h fun σ H Q ⟨ρ, G, F, r, f⟩ => ⟨ρ, G, F, r, ?_⟩
  cases z : T ρ with
  | ok d ρ' =>
    rw [z] at f
    intro v H' G' r' e' hf
    obtain ⟨G2, r2, e2, hd⟩ := rel_leave r' hf
    exact f v H' G2 r2 (e'.trans e2) hd
  | exc c fs ρ' => rw [z] at f; exact f
  | bad => rw [z] at f; exact f
/-- a new object at a free place is fresh -/
theorem fresh_at {K : PySem.W.Frag} {F : Hp} {fx : List (Nat × Addr)} {σ : L2.St} {H : Hp} {ρ : Rho} {G : Hp} {xs : List V} {ds : List D} {p : Addr} (r : Rel K F fx O σ H ρ G) (hp : H p = none) (hd : DpAll K G xs ds) :
    rF K O .lst F σ ρ (upd H p (.lst xs)) G (.ref p) (.list ds) := by
  refine ⟨p, rfl, ⟨xs, ds, rfl, upd_same, hd⟩, ?_, ?_, fun j e l q n z => ?_⟩
  · cases e : F p with
    | none => rfl
    | some u => rw [r.fr p u e] at hp; cases hp
  · cases e : G p with
    | none => rfl
    | some u => rw [r.gr p u e] at hp; cases hp
  · exact r.own_ne hp q n z rfl

/-! ### displays -/
def tupT (Ta : Rho → Out Rho (List D)) : Rho → Out Rho D := fun ρ => (Ta ρ).bind fun ds ρ1 => if ds.length ≤ sizeLine then .ok (.tuple ds) ρ1 else .bad
def lstT (Ta : Rho → Out Rho (List D)) : Rho → Out Rho D := fun ρ => (Ta ρ).bind fun ds ρ1 => if ds.length ≤ sizeLine then .ok (.list ds) ρ1 else .bad
theorem ex_tup {es : List Expr} {x1 : Nat} {T : Rho → Out Rho (List D)} {pos : Pos} (h : AX X P O es T) : EX X P O (.Tuple es x1 pos) (tupT T) := by
  refine pe_mono (pe_tup h) fun σ H Q ⟨ρ, G, F, rr, h⟩ => ?_
  refine tX_bind' (R := rA X.K) rr h fun xs H1 ds ρ1 G1 r1 e1 p1 h1 => ?_
  by_cases z : ds.length ≤ sizeLine
  · rw [if_pos z] at h1
    refine ⟨by rw [L2.DpAll.len p1]; exact z, fun p hp => ?_⟩
    obtain ⟨r2, e2⟩ := r1.alloc (o := .tup xs) hp
    exact h1 _ _ _ r2 e2 (.tup (SqT.of upd_same) (dpAll_mono e2.1 p1))
  · rw [if_neg z] at h1; exact h1.elim
theorem fx_lst {es : List Expr} {T : Rho → Out Rho (List D)} {pos : Pos} (h : AX X P O es T) : FX X P O .lst (.List es pos) (lstT T) := by
  refine pe_mono (pe_lst h) fun σ H Q ⟨ρ, G, F, rr, h⟩ => ?_
  refine tX_bind' (R := rA X.K) rr h fun xs H1 ds ρ1 G1 r1 e1 p1 h1 => ?_
  by_cases z : ds.length ≤ sizeLine
  · rw [if_pos z] at h1
    refine ⟨by rw [L2.DpAll.len p1]; exact z, fun p hp => ?_⟩
    exact h1 _ _ _ (r1.side hp) (Ext.refl _ _) (fresh_at r1 hp p1)
  · rw [if_neg z] at h1; exact h1.elim
theorem ex_lst {es : List Expr} {T : Rho → Out Rho (List D)} {pos : Pos} (h : AX X P O es T) : EX X P O (.List es pos) (lstT T) := ex_of_fx (fx_lst h)

/-! ### the operators' trees -/
def flatD : D → Option V
  | .none => some .non
  | .bool b => some (.bl b)
  | .int i => some (.int i)
  | .str x => some (.str x)
  | _ => none
theorem flat_dp {K : PySem.W.Frag} {G : Hp} {f : D} {v : V} (h : flatD f = some v) : Dp K G v f := by
  cases f with
  | none => cases h; exact .non
  | bool b => cases h; exact .bl b
  | int i => cases h; exact .int i
  | str x => cases h; exact .str x
  | _ => cases h
/-- an operator whose answer is a plain value -/
def rD (K : PySem.W.Frag) (g : D → D → Option D) : R2 := fun x y H Q => ∃ d e f v, Dp K H x d ∧ Dp K H y e ∧ g d e = some f ∧ flatD f = some v ∧ Q v H
theorem sem_rD {g : D → D → Option D} (hg : ∀ d e f, g d e = some f → ∃ v, flatD f = some v) : Sem2 X (rD X.K g) g := fun {P O σ H ρ G F x y d e f Q} r hx hy hf h => by
  obtain ⟨v, hv⟩ := hg d e f hf
  exact ⟨d, e, f, v, dp_mono r.gr hx, dp_mono r.gr hy, hf, hv, h v H G r (Ext.refl _ _) (flat_dp hv)⟩
/-- two ints, an int -/
def intD (c : Int → Int → Bool) (g : Int → Int → Int) : D → D → Option D
  | .int i, .int j => if c i j = true then some (.int (g i j)) else none
  | _, _ => none
theorem intD_flat {c : Int → Int → Bool} {g : Int → Int → Int} (d e f : D) (h : intD c g d e = some f) : ∃ v, flatD f = some v := by
  unfold intD at h
  split at h
  · split at h
    · cases h; exact ⟨_, rfl⟩
    · cases h
  · cases h
theorem op_intD {op : Value → Value → Sem Value} {C : Int → Int → Prop} {c : Int → Int → Bool} {g : Int → Int → Int} (ho : OpR X op (rI C fun i j => .int (g i j))) (hc : ∀ i j, c i j = true → C i j) : OpR X op (rD X.K (intD c g)) := by
  intro pins s σ H x y v u Q I rx ry ⟨d, e, f, w, hd, he, hf, hv, q⟩
  unfold intD at hf
  split at hf
  · rename_i i j
    split at hf
    · rename_i hcc
      cases hf
      cases hv
      cases hd
      cases he
      exact ho pins s σ H _ _ v u Q I rx ry ⟨i, j, rfl, rfl, hc i j hcc, q⟩
    · cases hf
  · cases hf
def subD := intD (fun _ _ => true) fun i j => i - j
def mulOk (i j : Int) : Bool := decide ((-(2 ^ 64) < i ∧ i < 2 ^ 64) ∨ (-(2 ^ 64) < j ∧ j < 2 ^ 64))
def mulD := intD mulOk fun i j => i * j
def divOk (_ j : Int) : Bool := decide (0 < j ∧ j.natAbs.log2 < 9000)
def fdivD := intD divOk fun i j => i / j
def modD := intD (fun _ j => decide (0 < j)) fun i j => i % j
def powOk (i j : Int) : Bool := decide (0 ≤ j ∧ (Builtin.Int.intBits i : Int) * j ≤ 2 ^ 27)
def powD := intD powOk fun i j => i ^ j.toNat
theorem op_subZ : OpR X (binaryOp .Sub) (rD X.K subD) := op_intD (C := fun _ _ => True) (fun pins s σ H x y v u Q I rx ry ⟨i, j, e1, e2, _, q⟩ => op_sub pins s σ H x y v u Q I rx ry ⟨i, j, e1, e2, q⟩) fun _ _ _ => trivial
theorem op_mulZ : OpR X (binaryOp .Mult) (rD X.K mulD) := op_intD op_mul fun _ _ h => by
  unfold mulOk at h
  have q := of_decide_eq_true h
  exact q
theorem op_fdivZ : OpR X (binaryOp .FloorDiv) (rD X.K fdivD) := op_intD op_fdivW fun _ _ h => by
  unfold divOk at h
  have q := of_decide_eq_true h
  exact q
theorem op_modZ : OpR X (binaryOp .Mod) (rD X.K modD) := op_intD op_mod fun _ _ h => of_decide_eq_true h
theorem op_powZ : OpR X (binaryOp .Pow) (rD X.K powD) := op_intD (C := fun i j => powOk i j = true) (opI fun _ _ _ _ _ _ _ hc q => pow_int (of_decide_eq_true hc).1 (of_decide_eq_true hc).2 q) fun _ _ h => h
/-- + of ints, of tuples, of lists, of texts -/
def addD : D → D → Option D
  | .int i, .int j => some (.int (i + j))
  | .tuple xs, .tuple ys => if xs.length + ys.length ≤ sizeLine then some (.tuple (xs ++ ys)) else none
  | .list xs, .list ys => if xs.length + ys.length ≤ sizeLine then some (.list (xs ++ ys)) else none
  | .str x, .str y => if x.length + y.length ≤ sizeLine then some (.str (x ++ y)) else none
  | _, _ => none
def rCatL (K : PySem.W.Frag) : R2 := fun x y H Q => ∃ l b xs zs, x = .ref l ∧ y = .ref b ∧ SqL K H l xs ∧ SqL K H b zs ∧ xs.length + zs.length ≤ sizeLine ∧ ∀ p, H p = none → Q (.ref p) (upd H p (.lst (xs ++ zs)))
theorem op_catL : OpR X (binaryOp .Add) (rCatL X.K) := by
  intro pins s σ H x y v u Q I rx ry h
  obtain ⟨l, b, xs, zs, rfl, rfl, hH, hB, hz, q⟩ := h
  cases rx
  cases ry
  obtain ⟨its, r, ⟨⟨cls, dd, data, sl⟩, n, ho, hc, hdn, hdt⟩, _⟩ := I.list hH
  obtain ⟨its2, r2, ⟨⟨cls2, dd2, data2, sl2⟩, n2, ho2, hc2, hdn2, hdt2⟩, _⟩ := I.list hB
  simp only at hc hdn hdt hc2 hdn2 hdt2
  subst hc hdn hdt hc2 hdn2 hdt2
  have ea : its.toArray ++ its2.toArray = (its ++ its2).toArray := by simp
  have l1 := r.length
  have l2 := r2.length
  refine concat_meets ⟨_, ho, rfl⟩ ⟨_, ho2, rfl⟩ noFill_list_add seq_list_add PySem.F.slot_list_add PySem.F.entry_list_add (PySem.F.args_list_add_2 _ _) (PyProof.Rows.list_addW l b its.toArray its2.toArray n n2 none none sl sl2 (by simp only [List.size_toArray]; omega)) ⟨ho, ho2, ?_⟩
  rw [ea]
  exact ⟨.ref _, _, I.lnew (t' := s.toks) (r.append r2) (by rw [List.length_append]; omega), rfl, q _ I.fresh⟩
def rAddZ (K : PySem.W.Frag) : R2 := fun x y H Q => (∃ i j, x = .int i ∧ y = .int j ∧ Q (.int (i + j)) H) ∨ rCatA K x y H Q ∨ rCatL K x y H Q ∨ (∃ i j, x = .str i ∧ y = .str j ∧ i.length + j.length ≤ sizeLine ∧ Q (.str (i ++ j)) H)
theorem op_addZ : OpR X (binaryOp .Add) (rAddZ X.K) := op_add.or (op_catA.or (op_catL.or op_add_str))
theorem dpAll_nil_iff {K : PySem.W.Frag} {G : Hp} {xs : List V} {ds : List D} (h : DpAll K G xs ds) : xs = [] ↔ ds = [] := by
  have l := L2.DpAll.len h
  constructor
  · intro z; subst z; exact List.length_eq_zero_iff.mp l.symm
  · intro z; subst z; exact List.length_eq_zero_iff.mp l
theorem sem_add : Sem2 X (rAddZ X.K) addD := fun {P O σ H ρ G F x y d e f Q} r hx hy hf h => by
  unfold addD at hf
  split at hf
  · cases hf; cases hx; cases hy
    exact .inl ⟨_, _, rfl, rfl, h _ H G r (Ext.refl _ _) (.int _)⟩
  · rename_i xs ys
    split at hf
    · rename_i hl
      cases hf
      cases hx with
      | tup qx px =>
        cases hy with
        | tup qy py =>
          refine .inr (.inl ⟨_, _, _, _, rfl, rfl, sqT_mono r.gr qx, sqT_mono r.gr qy, by rw [L2.DpAll.len px, L2.DpAll.len py]; exact hl, fun z => ?_, fun _ z => ?_, fun _ _ p hp => ?_⟩)
          · have e1 := (dpAll_nil_iff px).mp z
            subst e1
            exact h _ H G r (Ext.refl _ _) (.tup qy py)
          · have e1 := (dpAll_nil_iff py).mp z
            subst e1
            rw [List.append_nil] at h
            exact h _ H G r (Ext.refl _ _) (.tup qx px)
          · obtain ⟨r2, e2⟩ := r.alloc hp
            exact h _ _ _ r2 e2 (.tup (SqT.of upd_same) (dpAll_mono e2.1 (px.append py)))
    · cases hf
  · rename_i xs ys
    split at hf
    · rename_i hl
      cases hf
      cases hx with
      | lst qx px =>
        cases hy with
        | lst qy py =>
          refine .inr (.inr (.inl ⟨_, _, _, _, rfl, rfl, sqL_mono r.gr qx, sqL_mono r.gr qy, by rw [L2.DpAll.len px, L2.DpAll.len py]; exact hl, fun p hp => ?_⟩))
          obtain ⟨r2, e2⟩ := r.alloc hp
          exact h _ _ _ r2 e2 (.lst (SqL.of upd_same) (dpAll_mono e2.1 (px.append py)))
    · cases hf
  · split at hf
    · rename_i hl
      cases hf; cases hx; cases hy
      exact .inr (.inr (.inr ⟨_, _, rfl, rfl, hl, h _ H G r (Ext.refl _ _) (.str _)⟩))
    · cases hf
  · cases hf
/-- list + list, fresh -/
def catLD : D → D → Option D
  | .list xs, .list ys => if xs.length + ys.length ≤ sizeLine then some (.list (xs ++ ys)) else none
  | _, _ => none
theorem fx_cat {a b : Expr} {Ta Tb : Rho → Out Rho D} {pos : Pos} (ha : EX X P O a Ta) (hb : EX X P O b Tb) : FX X P O .lst (.BinOp a .Add b pos) (binT catLD Ta Tb) := by
  refine pe_mono (pe_op op_catL ha hb) fun σ H Q ⟨ρ, G, F, rr, h⟩ => ?_
  refine tX_bind' (R := rE X.K) rr h fun x H1 d ρ1 G1 r1 e1 p1 h1 => ?_
  refine tX_bind' (R := rE X.K) r1 h1 fun y H2 e ρ2 G2 r2 e2 p2 h2 => ?_
  cases z : catLD d e with
  | none => rw [z] at h2; exact h2.elim
  | some f =>
    rw [z] at h2
    unfold catLD at z
    split at z
    · split at z
      · rename_i hl
        cases z
        cases p1 with
        | lst qx px =>
          cases p2 with
          | lst qy py =>
            have px' := dpAll_mono e2.1 px
            refine ⟨_, _, _, _, rfl, rfl, sqL_mono r2.gr (sqL_mono e2.1 qx), sqL_mono r2.gr qy, by rw [L2.DpAll.len px, L2.DpAll.len py]; exact hl, fun p hp => ?_⟩
            exact h2 _ _ _ (r2.side hp) (Ext.refl _ _) (fresh_at r2 hp (px'.append py))
      · cases z
    · cases z

/-! ### comparisons -/
def okCmp (d e : D) : Bool := d.canLay0 && (e.canLay0 && decide (min d.depth e.depth ≤ 60))
def eqD (d e : D) : Option D := if okCmp d e = true then some (.bool (PyData.eqv d e)) else none
def neD (d e : D) : Option D := if okCmp d e = true then some (.bool (!PyData.eqv d e)) else none
theorem eqD_flat (d e f : D) (h : eqD d e = some f) : ∃ v, flatD f = some v := by
  unfold eqD at h
  split at h
  · cases h; exact ⟨_, rfl⟩
  · cases h
theorem neD_flat (d e f : D) (h : neD d e = some f) : ∃ v, flatD f = some v := by
  unfold neD at h
  split at h
  · cases h; exact ⟨_, rfl⟩
  · cases h
theorem okCmp_all {d e : D} (h : okCmp d e = true) : d.canLay0 = true ∧ e.canLay0 = true ∧ min d.depth e.depth ≤ 60 := by
  unfold okCmp at h
  obtain ⟨h1, h2⟩ := Bool.and_eq_true_iff.mp h
  obtain ⟨h3, h4⟩ := Bool.and_eq_true_iff.mp h2
  exact ⟨h1, h3, of_decide_eq_true h4⟩
theorem op_eqZ (hu : X.A.units + 64 < cLine) : OpR X (compareOp .Eq) (rD X.K eqD) := by
  intro pins s σ H x y v u Q I rx ry ⟨d, e, f, w, hd, he, hf, hv, q⟩
  unfold eqD at hf
  split at hf
  · rename_i hc
    cases hf; cases hv
    obtain ⟨c1, c2, c3⟩ := okCmp_all hc
    obtain ⟨as, r1⟩ := Dp.reads I d x v hd rx
    obtain ⟨bs, r2⟩ := Dp.reads I e y u he ry
    exact SeqAt.compareEq_reads r1 r2 c1 c2 (by omega) ⟨.bl _, H, I, rfl, q⟩
  · cases hf
theorem op_neZ (hu : X.A.units + 64 < cLine) : OpR X (compareOp .NotEq) (rD X.K neD) := by
  intro pins s σ H x y v u Q I rx ry ⟨d, e, f, w, hd, he, hf, hv, q⟩
  unfold neD at hf
  split at hf
  · rename_i hc
    cases hf; cases hv
    obtain ⟨c1, c2, c3⟩ := okCmp_all hc
    obtain ⟨as, r1⟩ := Dp.reads I d x v hd rx
    obtain ⟨bs, r2⟩ := Dp.reads I e y u he ry
    exact SeqAt.compareNe_reads r1 r2 c1 c2 (by omega) ⟨.bl _, H, I, rfl, q⟩
  · cases hf
/-- an order: of ints, or of data alike -/
def okOrd (d e : D) : Bool := PySem.W.alike d e && ((match d with | .none => false | _ => true) && decide (min d.depth e.depth ≤ 60))
theorem okOrd_all {d e : D} (h : okOrd d e = true) : PySem.W.alike d e = true ∧ d ≠ .none ∧ min d.depth e.depth ≤ 60 := by
  unfold okOrd at h
  obtain ⟨h1, h2⟩ := Bool.and_eq_true_iff.mp h
  obtain ⟨h3, h4⟩ := Bool.and_eq_true_iff.mp h2
  exact ⟨h1, fun z => (by subst z; cases h3), of_decide_eq_true h4⟩
def ordD (p : Int → Int → Bool) (g : D → D → Bool) : D → D → Option D
  | .int i, .int j => some (.bool (p i j))
  | d, e => if okOrd d e = true then some (.bool (g d e)) else none
theorem ordD_flat {p : Int → Int → Bool} {g : D → D → Bool} (d e f : D) (h : ordD p g d e = some f) : ∃ v, flatD f = some v := by
  unfold ordD at h
  split at h
  · cases h; exact ⟨_, rfl⟩
  · split at h
    · cases h; exact ⟨_, rfl⟩
    · cases h
theorem op_ordZ {op : CmpOp} {p : Int → Int → Bool} {g : D → D → Bool} (hi : OpR X (compareOp op) (rI0 fun i j => .bl (p i j)))
    (hd : ∀ (A : Around) (E : Value → Shared → Prop) (s : Shared) (a b : Value) (da db : D) (as bs : List Addr) (Q : Value → Shared → Prop), Reads s.heap a da as → Reads s.heap b db bs → PySem.W.alike da db = true → da ≠ .none → A.units + min da.depth db.depth < cLine → Q (.bool (g da db)) s → wpAny (model X.prog X.w) A (compareOp op a b) Q E s)
    (hu : X.A.units + 64 < cLine) : OpR X (compareOp op) (rD X.K (ordD p g)) := by
  intro pins s σ H x y v u Q I rx ry ⟨d, e, f, w, hd', he, hf, hv, q⟩
  unfold ordD at hf
  split at hf
  · cases hf; cases hv; cases hd'; cases he
    exact hi pins s σ H _ _ v u Q I rx ry ⟨_, _, rfl, rfl, q⟩
  · split at hf
    · rename_i hc
      cases hf; cases hv
      obtain ⟨c1, c2, c3⟩ := okOrd_all hc
      obtain ⟨as, r1⟩ := Dp.reads I d x v hd' rx
      obtain ⟨bs, r2⟩ := Dp.reads I e y u he ry
      exact hd X.A X.xe s v u d e as bs _ r1 r2 c1 c2 (by omega) ⟨.bl _, H, I, rfl, q⟩
    · cases hf
def ltD := ordD (fun i j => decide (i < j)) fun d e => PySem.W.dataLt d e
def leD := ordD (fun i j => decide (i ≤ j)) fun d e => !PySem.W.dataLt e d
def gtD := ordD (fun i j => decide (j < i)) fun d e => PySem.W.dataLt e d
def geD := ordD (fun i j => decide (j ≤ i)) fun d e => !PySem.W.dataLt d e
theorem op_ltZ (hu : X.A.units + 64 < cLine) : OpR X (compareOp .Lt) (rD X.K ltD) := op_ordZ op_lt (fun _ _ _ _ _ _ _ _ _ _ r1 r2 h1 h2 h3 q => PySem.W.lt_data r1 r2 h1 h2 h3 q) hu
theorem op_leZ (hu : X.A.units + 64 < cLine) : OpR X (compareOp .LtE) (rD X.K leD) := op_ordZ op_le (fun _ _ _ _ _ _ _ _ _ _ r1 r2 h1 h2 h3 q => PySem.W.le_data r1 r2 h1 h2 h3 q) hu
theorem op_gtZ (hu : X.A.units + 64 < cLine) : OpR X (compareOp .Gt) (rD X.K gtD) := op_ordZ op_gt (fun _ _ _ _ _ _ _ _ _ _ r1 r2 h1 h2 h3 q => PySem.W.gt_data r1 r2 h1 h2 h3 q) hu
theorem op_geZ (hu : X.A.units + 64 < cLine) : OpR X (compareOp .GtE) (rD X.K geD) := op_ordZ op_ge (fun _ _ _ _ _ _ _ _ _ _ r1 r2 h1 h2 h3 q => PySem.W.ge_data r1 r2 h1 h2 h3 q) hu
/-- in a tuple or list -/
def okIn (d : D) (xs : List D) : Bool := PyData.canLayAll0 xs && (d.canLay0 && decide (min (PyData.depthAll xs) d.depth ≤ 60))
def inB (d e : D) : Option Bool := match itemsD e with
  | some xs => if okIn d xs = true then some (xs.any fun y => PyData.eqv y d) else none
  | none => none
def inD (d e : D) : Option D := (inB d e).map .bool
def notInD (d e : D) : Option D := (inB d e).map fun b => .bool (!b)
theorem inD_flat (d e f : D) (h : inD d e = some f) : ∃ v, flatD f = some v := by
  unfold inD at h
  obtain ⟨b, _, e⟩ := Option.map_eq_some_iff.mp h
  subst e
  exact ⟨_, rfl⟩
theorem notInD_flat (d e f : D) (h : notInD d e = some f) : ∃ v, flatD f = some v := by
  unfold notInD at h
  obtain ⟨b, _, e⟩ := Option.map_eq_some_iff.mp h
  subst e
  exact ⟨_, rfl⟩
theorem inB_all {d e : D} {b : Bool} (h : inB d e = some b) : ∃ xs, itemsD e = some xs ∧ PyData.canLayAll0 xs = true ∧ d.canLay0 = true ∧ min (PyData.depthAll xs) d.depth ≤ 60 ∧ b = xs.any fun y => PyData.eqv y d := by
  unfold inB at h
  cases z : itemsD e with
  | none => rw [z] at h; cases h
  | some xs =>
    rw [z] at h
    have h' : (if okIn d xs = true then some (xs.any fun y => PyData.eqv y d) else none) = some b := h
    split at h'
    · rename_i hc
      unfold okIn at hc
      obtain ⟨h1, h2⟩ := Bool.and_eq_true_iff.mp hc
      obtain ⟨h3, h4⟩ := Bool.and_eq_true_iff.mp h2
      exact ⟨xs, rfl, h1, h3, of_decide_eq_true h4, (Option.some.inj h').symm⟩
    · cases h'
theorem op_inZ (hu : X.A.units + 64 < cLine) : OpR X (compareOp .In) (rD X.K inD) := by
  intro pins s σ H x y v u Q I rx ry ⟨d, e, f, w, hd, he, hf, hv, q⟩
  unfold inD at hf
  obtain ⟨b, hb, e1⟩ := Option.map_eq_some_iff.mp hf
  subst e1
  cases hv
  obtain ⟨xs, hi, c1, c2, c3, eb⟩ := inB_all hb
  subst eb
  obtain ⟨as, r1⟩ := Dp.reads I d x v hd rx
  obtain ⟨bs, r2⟩ := Dp.reads I e y u he ry
  cases e with
  | list ds => cases hi; exact SeqAt.in_list_reads r2 r1 c1 c2 (by omega) ⟨.bl _, H, I, rfl, q⟩
  | tuple ds => cases hi; exact SeqAt.in_tuple_reads r2 r1 c1 c2 (by omega) ⟨.bl _, H, I, rfl, q⟩
  | _ => cases hi
theorem op_notInZ (hu : X.A.units + 64 < cLine) : OpR X (compareOp .NotIn) (rD X.K notInD) := by
  intro pins s σ H x y v u Q I rx ry ⟨d, e, f, w, hd, he, hf, hv, q⟩
  unfold notInD at hf
  obtain ⟨b, hb, e1⟩ := Option.map_eq_some_iff.mp hf
  subst e1
  cases hv
  obtain ⟨xs, hi, c1, c2, c3, eb⟩ := inB_all hb
  subst eb
  obtain ⟨as, r1⟩ := Dp.reads I d x v hd rx
  obtain ⟨bs, r2⟩ := Dp.reads I e y u he ry
  cases e with
  | list ds => cases hi; exact SeqAt.notIn_list_reads r2 r1 c1 c2 (by omega) ⟨.bl _, H, I, rfl, q⟩
  | tuple ds => cases hi; exact SeqAt.notIn_tuple_reads r2 r1 c1 c2 (by omega) ⟨.bl _, H, I, rfl, q⟩
  | _ => cases hi
/-- is None, is True -/
def isNoneD : D → Bool
  | .none => true
  | _ => false
def isB2 : D → D → Option Bool
  | d, .none => some (isNoneD d)
  | .bool a, .bool b => some (decide (a = b))
  | _, _ => none
def isD (d e : D) : Option D := (isB2 d e).map .bool
def isNotD (d e : D) : Option D := (isB2 d e).map fun b => .bool (!b)
theorem isD_flat (d e f : D) (h : isD d e = some f) : ∃ v, flatD f = some v := by
  unfold isD at h
  obtain ⟨b, _, e⟩ := Option.map_eq_some_iff.mp h
  subst e
  exact ⟨_, rfl⟩
theorem isNotD_flat (d e f : D) (h : isNotD d e = some f) : ∃ v, flatD f = some v := by
  unfold isNotD at h
  obtain ⟨b, _, e⟩ := Option.map_eq_some_iff.mp h
  subst e
  exact ⟨_, rfl⟩
theorem dp_isNone {K : PySem.W.Frag} {H : Hp} {x : V} {d : D} (h : Dp K H x d) : decide (x = .non) = isNoneD d := by
  cases h <;> first | rfl | (simp [isNoneD])
theorem op_isZ : OpR X (compareOp .Is) (rD X.K isD) := by
  intro pins s σ H x y v u Q I rx ry ⟨d, e, f, w, hd, he, hf, hv, q⟩
  unfold isD at hf
  obtain ⟨b, hb, e1⟩ := Option.map_eq_some_iff.mp hf
  subst e1
  cases hv
  unfold isB2 at hb
  split at hb
  · cases hb; cases he
    exact op_isN pins s σ H _ _ v u Q I rx ry ⟨rfl, by rw [dp_isNone hd]; exact q⟩
  · cases hb; cases hd; cases he
    exact op_isBl pins s σ H _ _ v u Q I rx ry ⟨_, _, rfl, rfl, q⟩
  · cases hb
theorem op_isNotZ : OpR X (compareOp .IsNot) (rD X.K isNotD) := by
  intro pins s σ H x y v u Q I rx ry ⟨d, e, f, w, hd, he, hf, hv, q⟩
  unfold isNotD at hf
  obtain ⟨b, hb, e1⟩ := Option.map_eq_some_iff.mp hf
  subst e1
  cases hv
  unfold isB2 at hb
  split at hb
  · cases hb; cases he
    exact op_notN pins s σ H _ _ v u Q I rx ry ⟨rfl, by rw [dp_isNone hd]; exact q⟩
  · cases hb; cases hd; cases he
    exact op_notBl pins s σ H _ _ v u Q I rx ry ⟨_, _, rfl, rfl, q⟩
  · cases hb

/-! ### subscripts -/
def idxD : D → D → Option D
  | .tuple ds, .int i => atI ds i
  | .list ds, .int i => atI ds i
  | _, _ => none
theorem atI_dp {K : PySem.W.Frag} {G : Hp} {xs : List V} {ds : List D} {i : Int} {d : D} (h : DpAll K G xs ds) (e : atI ds i = some d) : ∃ v, atI xs i = some v ∧ Dp K G v d := by
  unfold atI at e ⊢
  rw [L2.DpAll.len h]
  cases z : ixN ds.length i with
  | none => rw [z] at e; cases e
  | some j =>
    rw [z] at e
    obtain ⟨v, h1, h2⟩ := L2.DpAll.get' h e
    exact ⟨v, h1, h2⟩
def rIxZ (K : PySem.W.Frag) : R2 := fun x y H Q => rIxL K x y H Q ∨ rIxT K x y H Q
theorem sem_ix : Sem2 X (rIxZ X.K) idxD := fun {P O σ H ρ G F x y d e f Q} r hx hy hf h => by
  unfold idxD at hf
  split at hf
  · cases hy
    cases hx with
    | tup q p =>
      obtain ⟨v, h1, h2⟩ := atI_dp p hf
      exact .inr ⟨_, _, _, v, rfl, rfl, sqT_mono r.gr q, h1, h v H G r (Ext.refl _ _) h2⟩
  · cases hy
    cases hx with
    | lst q p =>
      obtain ⟨v, h1, h2⟩ := atI_dp p hf
      exact .inl ⟨_, _, _, v, rfl, rfl, sqL_mono r.gr q, h1, h v H G r (Ext.refl _ _) h2⟩
  · cases hf
theorem ex_ix {a b : Expr} {Ta Tb : Rho → Out Rho D} {pos : Pos} (ha : EX X P O a Ta) (hb : EX X P O b Tb) (hs : PlainIx b := by exact fun _ _ => rfl) : EX X P O (.Subscript a b pos) (binT idxD Ta Tb) :=
  pe_mono (pe_ix (ix_list.or ix_tup) ha hb hs) fun _ _ _ h => tx_bin (r := rIxZ X.K) sem_ix h
/-- a part of a slice -/
abbrev rP : RR (Option Int) (Option Int) := fun _ _ _ _ _ a b => a = b
def PX (X : Cx) (P : Pm) (O : Own) (e : Option Expr) (T : Rho → Out Rho (Option Int)) : Prop := PO X e (tX X P O rP T)
def noP : Rho → Out Rho (Option Int) := fun ρ => .ok none ρ
def someP (T : Rho → Out Rho D) : Rho → Out Rho (Option Int) := fun ρ => (T ρ).bind fun d ρ1 => match d with
  | .int i => .ok (some i) ρ1
  | _ => .bad
theorem po_mono {e : Option Expr} {t t' : TO} (h : PO X e t) (m : ∀ σ H Q, t' σ H Q → t σ H Q) : PO X e t' := ⟨fun pins s σ H Q I q => h.run pins s σ H Q I (m σ H Q q)⟩
theorem px_none : PX X P O none noP := po_mono po_none fun σ H Q ⟨ρ, G, F, r, h⟩ => h none H G r (Ext.refl _ _) rfl
theorem px_some {e : Expr} {T : Rho → Out Rho D} (h : EX X P O e T) : PX X P O (some e) (someP T) := by
  refine po_mono (po_some h) fun σ H Q ⟨ρ, G, F, rr, h⟩ => ?_
  refine tX_bind' (R := rE X.K) rr h fun x H1 d ρ1 G1 r1 e1 p1 h1 => ?_
  cases d with
  | int i => cases p1; exact ⟨i, rfl, h1 _ H1 G1 r1 (Ext.refl _ _) rfl⟩
  | _ => exact h1.elim
def cutD (ds : List D) (lo hi : Option Int) : List D := (ds.drop (HT.sIx ds.length 0 lo)).take (HT.sIx ds.length ds.length hi - HT.sIx ds.length 0 lo)
theorem cut_dp {K : PySem.W.Frag} {G : Hp} {xs : List V} {ds : List D} (h : DpAll K G xs ds) (lo hi : Option Int) : DpAll K G (cutV xs lo hi) (cutD ds lo hi) := by
  unfold cutV cutD
  rw [L2.DpAll.len h]
  exact (h.drop _).take _
def slcD (d : D) (lo hi : Option Int) : Option D := match d with
  | .tuple ds => some (.tuple (cutD ds lo hi))
  | .list ds => some (.list (cutD ds lo hi))
  | _ => none
def slcT (T : Rho → Out Rho D) (Tl Th : Rho → Out Rho (Option Int)) : Rho → Out Rho D := fun ρ => (T ρ).bind fun d ρ1 => (Tl ρ1).bind fun lo ρ2 => (Th ρ2).bind fun hi ρ3 => .of (slcD d lo hi) ρ3
theorem ex_slice {e : Expr} {lo hi : Option Expr} {T : Rho → Out Rho D} {Tl Th : Rho → Out Rho (Option Int)} {p2 pos : Pos} (he : EX X P O e T) (hl : PX X P O lo Tl) (hh : PX X P O hi Th) : EX X P O (.Subscript e (.Slice lo hi none p2) pos) (slcT T Tl Th) := by
  refine pe_mono (pe_slice (sl_list.or sl_tupA) he hl hh) fun σ H Q ⟨ρ, G, F, rr, h⟩ => ?_
  refine tX_bind' (R := rE X.K) rr h fun x H1 d ρ1 G1 r1 e1 p1 h1 => ?_
  refine tX_bind' (R := rP) r1 h1 fun lo H2 lo' ρ2 G2 r2 e2 p2 h2 => ?_
  refine tX_bind' (R := rP) r2 h2 fun hi H3 hi' ρ3 G3 r3 e3 p3 h3 => ?_
  cases p2
  cases p3
  have p1' := dp_mono e3.1 (dp_mono e2.1 p1)
  cases d with
  | tuple ds =>
    cases p1' with
    | tup q p =>
      refine .inr ⟨_, _, rfl, sqT_mono r3.gr q, fun z => ?_, fun _ a ha => ?_⟩
      · have ec : cutD ds lo hi = ds := by
          unfold cutD
          rw [L2.DpAll.len p] at z
          rw [z.1, z.2]
          simp
        have h3' := h3 (.ref _) H3 G3 r3 (Ext.refl _ _) (by rw [ec]; exact .tup q p)
        exact h3'
      · obtain ⟨r4, e4⟩ := r3.alloc ha
        exact h3 _ _ _ r4 e4 (.tup (SqT.of upd_same) (dpAll_mono e4.1 (cut_dp p lo hi)))
  | list ds =>
    cases p1' with
    | lst q p =>
      refine .inl ⟨_, _, rfl, sqL_mono r3.gr q, fun a ha => ?_⟩
      obtain ⟨r4, e4⟩ := r3.alloc ha
      exact h3 _ _ _ r4 e4 (.lst (SqL.of upd_same) (dpAll_mono e4.1 (cut_dp p lo hi)))
  | _ => exact h3.elim

/-! ### built-ins -/
def SemN (X : Cx) (r : List V → Hp → VK → Prop) (g : List D → Option D) : Prop := ∀ {P : Pm} {O : Own} {σ : L2.St} {H : Hp} {ρ : Rho} {G F : Hp} {xs : List V} {ds : List D} {f : D} {Q : VK}, Rel X.K F P.fx O σ H ρ G → DpAll X.K G xs ds → g ds = some f →
  (∀ v H' G', Rel X.K F P.fx O σ H' ρ G' → Ext F G G' → Dp X.K G' v f → Q v H') → r xs H Q
def callB (g : List D → Option D) (Ta : Rho → Out Rho (List D)) : Rho → Out Rho D := fun ρ => (Ta ρ).bind fun ds ρ1 => .of (g ds) ρ1
theorem tx_call {r : List V → Hp → VK → Prop} {g : List D → Option D} (hs : SemN X r g) {Ta : Rho → Out Rho (List D)} {σ : L2.St} {H : Hp} {Q : VK} (h : tX X P O (rE X.K) (callB g Ta) σ H Q) : tCB r (tX X P O (rA X.K) Ta) σ H Q := by
  obtain ⟨ρ, G, F, rr, h⟩ := h
  refine tX_bind' (R := rA X.K) rr h fun x H1 d ρ1 G1 r1 e1 p1 h1 => ?_
  cases z : g d with
  | none => rw [z] at h1; exact h1.elim
  | some f =>
    rw [z] at h1
    exact hs r1 p1 z h1
theorem ex_callB {id : String} {r : List V → Hp → VK → Prop} {g : List D → Option D} (hc : CallR X (.builtin id) r) (hs : SemN X r g) {x : Str} {p pos : Pos} {e : Expr} {es : List Expr} {T : Rho → Out Rho (List D)} (hm : X.mg x = none) (hv : bootBuiltins x = some (.builtin id)) (ha : AX X P O (e :: es) T)
    (hg : Gl X x := by rfl) (hn : x ≠ "__name__" := by decide) (hdb : (x == ("__debug__" : Str)) = false := by decide)
    (he : starEach (e :: es) X.env = (false, eval e X.env) :: starEach es X.env := by rfl) (hpl : (backTo pos (starEach es X.env)).any (·.1) = false := by rfl) : EX X P O (.Call (.Name x p) (e :: es) [] pos) (callB g T) :=
  pe_mono (pe_callB hc hg hm hv ha hn hdb he hpl) fun _ _ _ h => tx_call hs h
theorem ex_callTy {id : String} {r : List V → Hp → VK → Prop} {g : List D → Option D} (hc : CallR X (.type id) r) (hs : SemN X r g) {x : Str} {p pos : Pos} {e : Expr} {es : List Expr} {T : Rho → Out Rho (List D)} (hm : X.mg x = none) (hv : bootBuiltins x = some (.type id)) (ha : AX X P O (e :: es) T)
    (hg : Gl X x := by rfl) (hn : x ≠ "__name__" := by decide) (hdb : (x == ("__debug__" : Str)) = false := by decide)
    (he : starEach (e :: es) X.env = (false, eval e X.env) :: starEach es X.env := by rfl) (hpl : (backTo pos (starEach es X.env)).any (·.1) = false := by rfl) : EX X P O (.Call (.Name x p) (e :: es) [] pos) (callB g T) :=
  pe_mono (pe_callTy hc hg hm hv ha hn hdb he hpl) fun _ _ _ h => tx_call hs h
/-- a built-in whose answer is a plain value -/
def rDN (K : PySem.W.Frag) (g : List D → Option D) : List V → Hp → VK → Prop := fun xs H Q => ∃ ds f v, DpAll K H xs ds ∧ g ds = some f ∧ flatD f = some v ∧ Q v H
theorem sem_rDN {g : List D → Option D} (hg : ∀ ds f, g ds = some f → ∃ v, flatD f = some v) : SemN X (rDN X.K g) g := fun {P O σ H ρ G F xs ds f Q} r hx hf h => by
  obtain ⟨v, hv⟩ := hg ds f hf
  exact ⟨ds, f, v, dpAll_mono r.gr hx, hf, hv, h v H G r (Ext.refl _ _) (flat_dp hv)⟩
theorem dpAll1 {K : PySem.W.Frag} {G : Hp} {xs : List V} {d : D} (h : DpAll K G xs [d]) : ∃ x, xs = [x] ∧ Dp K G x d := by
  cases h with
  | cons a b => cases b; exact ⟨_, rfl, a⟩
theorem dpAll2 {K : PySem.W.Frag} {G : Hp} {xs : List V} {d e : D} (h : DpAll K G xs [d, e]) : ∃ x y, xs = [x, y] ∧ Dp K G x d ∧ Dp K G y e := by
  cases h with
  | cons a b =>
    obtain ⟨y, rfl, c⟩ := dpAll1 b
    exact ⟨_, y, rfl, a, c⟩
def lenD : List D → Option D
  | [.tuple ds] => some (.int ds.length)
  | [.list ds] => some (.int ds.length)
  | [.str x] => if x.length ≤ sizeLine then some (.int x.length) else none
  | _ => none
theorem lenD_flat (ds : List D) (f : D) (h : lenD ds = some f) : ∃ v, flatD f = some v := by
  unfold lenD at h
  split at h <;> first | (cases h; exact ⟨_, rfl⟩) | (split at h <;> cases h; exact ⟨_, rfl⟩) | cases h
theorem call_lenZ : CallR X (.builtin "len") (rDN X.K lenD) := by
  intro pins s σ H xs us Q I r ⟨ds, f, v, hd, hf, hv, q⟩
  unfold lenD at hf
  split at hf
  · cases hf; cases hv
    obtain ⟨x, rfl, hx⟩ := dpAll1 hd
    cases hx with
    | tup a b => exact call_len pins s σ H _ us Q I r ⟨_, _, rfl, .inr ⟨_, a, rfl⟩, by rw [L2.DpAll.len b]; exact q⟩
  · cases hf; cases hv
    obtain ⟨x, rfl, hx⟩ := dpAll1 hd
    cases hx with
    | lst a b => exact call_len pins s σ H _ us Q I r ⟨_, _, rfl, .inl ⟨_, a, rfl⟩, by rw [L2.DpAll.len b]; exact q⟩
  · split at hf
    · rename_i hl
      cases hf; cases hv
      obtain ⟨x, rfl, hx⟩ := dpAll1 hd
      cases hx
      exact call_len pins s σ H _ us Q I r ⟨_, _, rfl, ⟨hl, rfl⟩, q⟩
    · cases hf
  · cases hf
def boolsOf : List D → Option (List Bool)
  | [] => some []
  | .bool b :: r => (boolsOf r).map (b :: ·)
  | _ => none
def intsOf : List D → Option (List Int)
  | [] => some []
  | .int b :: r => (intsOf r).map (b :: ·)
  | _ => none
theorem boolsOf_eq : ∀ {ds : List D} {bs : List Bool}, boolsOf ds = some bs → ds = bs.map .bool
  | [], _, h => by cases h; rfl
  | .bool b :: r, bs, h => by
    obtain ⟨cs, h1, h2⟩ := Option.map_eq_some_iff.mp (show (boolsOf r).map (b :: ·) = some bs from h)
    subst h2
    rw [boolsOf_eq h1] <;> rfl
  | .none :: _, _, h | .int _ :: _, _, h | .str _ :: _, _, h | .list _ :: _, _, h | .tuple _ :: _, _, h | .dict _ :: _, _, h => by cases h
theorem intsOf_eq : ∀ {ds : List D} {bs : List Int}, intsOf ds = some bs → ds = bs.map .int
  | [], _, h => by cases h; rfl
  | .int b :: r, bs, h => by
    obtain ⟨cs, h1, h2⟩ := Option.map_eq_some_iff.mp (show (intsOf r).map (b :: ·) = some bs from h)
    subst h2
    rw [intsOf_eq h1] <;> rfl
  | .none :: _, _, h | .bool _ :: _, _, h | .str _ :: _, _, h | .list _ :: _, _, h | .tuple _ :: _, _, h | .dict _ :: _, _, h => by cases h
@[simp] theorem boolsOf_map (bs : List Bool) : boolsOf (bs.map .bool) = some bs := by
  induction bs with
  | nil => rfl
  | cons b r ih => simp [boolsOf, ih]
@[simp] theorem intsOf_map (bs : List Int) : intsOf (bs.map .int) = some bs := by
  induction bs with
  | nil => rfl
  | cons b r ih => simp [intsOf, ih]
def allD : List D → Option D
  | [.list ds] => (boolsOf ds).map fun bs => .bool (bs.all id)
  | _ => none
def anyD : List D → Option D
  | [.list ds] => (boolsOf ds).map fun bs => .bool (bs.any id)
  | _ => none
theorem allD_flat (ds : List D) (f : D) (h : allD ds = some f) : ∃ v, flatD f = some v := by
  unfold allD at h
  split at h
  · obtain ⟨b, _, e⟩ := Option.map_eq_some_iff.mp h
    subst e; exact ⟨_, rfl⟩
  · cases h
theorem anyD_flat (ds : List D) (f : D) (h : anyD ds = some f) : ∃ v, flatD f = some v := by
  unfold anyD at h
  split at h
  · obtain ⟨b, _, e⟩ := Option.map_eq_some_iff.mp h
    subst e; exact ⟨_, rfl⟩
  · cases h
theorem call_allZ (hc : X.calm = true) : CallR X (.builtin "all") (rDN X.K allD) := by
  intro pins s σ H xs us Q I r ⟨ds, f, v, hd, hf, hv, q⟩
  unfold allD at hf
  split at hf
  · obtain ⟨bs, hb, e⟩ := Option.map_eq_some_iff.mp hf
    subst e; cases hv
    obtain ⟨x, rfl, hx⟩ := dpAll1 hd
    cases hx with
    | lst a b =>
      rw [boolsOf_eq hb] at b
      exact cr_all hc pins s σ H _ us Q I r ⟨_, bs, rfl, by rw [← L2.DpAll.bls b]; exact a, q⟩
  · cases hf
theorem call_anyZ (hc : X.calm = true) : CallR X (.builtin "any") (rDN X.K anyD) := by
  intro pins s σ H xs us Q I r ⟨ds, f, v, hd, hf, hv, q⟩
  unfold anyD at hf
  split at hf
  · obtain ⟨bs, hb, e⟩ := Option.map_eq_some_iff.mp hf
    subst e; cases hv
    obtain ⟨x, rfl, hx⟩ := dpAll1 hd
    cases hx with
    | lst a b =>
      rw [boolsOf_eq hb] at b
      exact cr_any hc pins s σ H _ us Q I r ⟨_, bs, rfl, by rw [← L2.DpAll.bls b]; exact a, q⟩
  · cases hf
def minD : List D → Option D
  | [.int i, .int j] => some (.int (if j < i then j else i))
  | _ => none
def maxD : List D → Option D
  | [.int i, .int j] => some (.int (if j > i then j else i))
  | _ => none
theorem minD_flat (ds : List D) (f : D) (h : minD ds = some f) : ∃ v, flatD f = some v := by
  unfold minD at h
  split at h <;> cases h; exact ⟨_, rfl⟩
theorem maxD_flat (ds : List D) (f : D) (h : maxD ds = some f) : ∃ v, flatD f = some v := by
  unfold maxD at h
  split at h <;> cases h; exact ⟨_, rfl⟩
theorem call_minZ (hc : X.calm = true) : CallR X (.builtin "min") (rDN X.K minD) := by
  intro pins s σ H xs us Q I r ⟨ds, f, v, hd, hf, hv, q⟩
  unfold minD at hf
  split at hf
  · cases hf; cases hv
    obtain ⟨x, y, rfl, hx, hy⟩ := dpAll2 hd
    cases hx; cases hy
    exact call_min2 hc pins s σ H _ us Q I r ⟨_, _, rfl, q⟩
  · cases hf
theorem call_maxZ (hc : X.calm = true) : CallR X (.builtin "max") (rDN X.K maxD) := by
  intro pins s σ H xs us Q I r ⟨ds, f, v, hd, hf, hv, q⟩
  unfold maxD at hf
  split at hf
  · cases hf; cases hv
    obtain ⟨x, y, rfl, hx, hy⟩ := dpAll2 hd
    cases hx; cases hy
    exact call_max2 hc pins s σ H _ us Q I r ⟨_, _, rfl, q⟩
  · cases hf
def absD : List D → Option D
  | [.int i] => some (.int (if i < 0 then -i else i))
  | _ => none
theorem absD_flat (ds : List D) (f : D) (h : absD ds = some f) : ∃ v, flatD f = some v := by
  unfold absD at h
  split at h <;> cases h; exact ⟨_, rfl⟩
theorem call_absZ : CallR X (.builtin "abs") (rDN X.K absD) := by
  intro pins s σ H xs us Q I r ⟨ds, f, v, hd, hf, hv, q⟩
  unfold absD at hf
  split at hf
  · cases hf; cases hv
    obtain ⟨x, rfl, hx⟩ := dpAll1 hd
    cases hx
    exact call_abs pins s σ H _ us Q I r ⟨_, rfl, q⟩
  · cases hf
def intC : List D → Option D
  | [.int i] => some (.int i)
  | [.bool b] => some (.int (if b then 1 else 0))
  | _ => none
theorem intC_flat (ds : List D) (f : D) (h : intC ds = some f) : ∃ v, flatD f = some v := by
  unfold intC at h
  split at h <;> cases h <;> exact ⟨_, rfl⟩
theorem call_intZ : CallR X (.type "int") (rDN X.K intC) := by
  intro pins s σ H xs us Q I r ⟨ds, f, v, hd, hf, hv, q⟩
  unfold intC at hf
  split at hf
  · cases hf; cases hv
    obtain ⟨x, rfl, hx⟩ := dpAll1 hd
    cases hx
    exact call_int1 pins s σ H _ us Q I r (.inl ⟨_, rfl, q⟩)
  · cases hf; cases hv
    obtain ⟨x, rfl, hx⟩ := dpAll1 hd
    cases hx
    exact call_int1 pins s σ H _ us Q I r (.inr ⟨_, rfl, q⟩)
  · cases hf
/-- tuple(xs) -/
def tupC : List D → Option D
  | [.list ds] => some (.tuple ds)
  | [.tuple ds] => some (.tuple ds)
  | _ => none
def rTupC (K : PySem.W.Frag) : List V → Hp → VK → Prop := fun xs H Q => ∃ p ys, xs = [.ref p] ∧ ((SqL K H p ys ∧ ∀ l, H l = none → Q (.ref l) (upd H l (.tup ys))) ∨ (SqT K H p ys ∧ Q (.ref p) H))
theorem sem_tupC : SemN X (rTupC X.K) tupC := fun {P O σ H ρ G F xs ds f Q} r hx hf h => by
  unfold tupC at hf
  split at hf
  · cases hf
    obtain ⟨x, rfl, hy⟩ := dpAll1 hx
    cases hy with
    | lst a b =>
      refine ⟨_, _, rfl, .inl ⟨sqL_mono r.gr a, fun l hl => ?_⟩⟩
      obtain ⟨r2, e2⟩ := r.alloc hl
      exact h _ _ _ r2 e2 (.tup (SqT.of upd_same) (dpAll_mono e2.1 b))
  · cases hf
    obtain ⟨x, rfl, hy⟩ := dpAll1 hx
    cases hy with
    | tup a b => exact ⟨_, _, rfl, .inr ⟨sqT_mono r.gr a, h _ H G r (Ext.refl _ _) (.tup a b)⟩⟩
  · cases hf
end
end Z

/-! file ZIter -/
set_option Elab.async false
set_option linter.all false
set_option autoImplicit false
set_option maxRecDepth 100000
set_option maxHeartbeats 4000000
/-! what is walked -/
namespace Z
open PySem PySem.Spec PyProof.Rows L2
open AutoSeq1 (wpAny_loadPart')

/-! ### enumerate(tuple) -/
theorem meets_enumerate_newT (l : Addr) (items : Array Value) (n : Nat) (dct : Option Addr) (sl : Array (Option Value)) :
    Meets (Builtin.«enumerate.__new__» ⟨[.type "enumerate", .ref l], []⟩) (fun _ R s => s.heap.get? l = some { cls := .type "tuple", dict := dct, data := .seq items n, slots := sl } ∧
      R (.ok (.ret (.ref (s.heap.push { cls := .type "tuple_iterator", data := .fields #[.ref l, .int 0 0] }).objs.size)))
        { s with heap := (s.heap.push { cls := .type "tuple_iterator", data := .fields #[.ref l, .int 0 0] }).push { cls := .type "enumerate", data := .fields #[.none, .bool false, .ref s.heap.objs.size, rawInt 0, .none, .none] } }) :=
  .of_wp fun prog w A R s h => by
    obtain ⟨hp, g, d, tk, os⟩ := s; obtain ⟨hl, h⟩ := h
    have hsub := sub_enumerate
    have hL : Heap.IsTuple (Shared.heap ⟨hp, g, d, tk, os⟩) l items := ⟨_, hl, rfl, n, rfl⟩
    wp_walk using wpAny_loadPart' hl
    refine wpAny_stack_any fun st => wpAny_pure ?_
    split
    · rename_i c _ _ _ _ _
      cases (c == Value.type "enumerate")
      · wp_walk using wpAny_loadPart' hl, wpAny_pyIter_tuple hL
        exact ⟨_, rfl, h⟩
      · wp_walk using wpAny_loadPart' hl, wpAny_pyIter_tuple hL
        exact ⟨_, rfl, h⟩
    · wp_walk using wpAny_loadPart' hl, wpAny_pyIter_tuple hL
      exact ⟨_, rfl, h⟩
theorem call_enumerate_tuple {prog : Program} {w : World} {A : Around} {E : Value → Shared → Prop} {s : Shared} {l : Addr} {items : Array Value} {Q : Value → Shared → Prop} (hL : s.heap.IsTuple l items)
    (h : ∀ h', IsEnum h' (s.heap.objs.size + 1) s.heap.objs.size 0 .none → h'.IsTupleIter s.heap.objs.size l 0 → h'.objs.size = s.heap.objs.size + 2 →
      (∀ b o, s.heap.get? b = some o → h'.get? b = some o) → Q (.ref (s.heap.objs.size + 1)) { s with heap := h' }) :
    wpAny (model prog w) A (call (.type "enumerate") [.ref l]) Q E s := by
  obtain ⟨⟨c, dct, dt, sl⟩, hl, hc, n, hd⟩ := hL
  replace hc : c = .type "tuple" := hc
  replace hd : dt = .seq items n := hd
  subst hc hd
  refine callType_new F.called_enumerate (by decide) (F.typeCall_enumerate_1 _) (F.newCall_enumerate_1 _) (fun obj => F.args_object_init_2 obj _) F.entry_enumerate_new
    (meets_enumerate_newT l items n dct sl) ⟨hl, ?_⟩
  have hz : (s.heap.push { cls := .type "tuple_iterator", data := .fields #[.ref l, .int 0 0] }).objs.size = s.heap.objs.size + 1 := Heap.size_push ..
  show _ ∧ _
  rw [hz]
  have he : IsEnum ((s.heap.push { cls := .type "tuple_iterator", data := .fields #[.ref l, .int 0 0] }).push
      { cls := .type "enumerate", data := .fields #[.none, .bool false, .ref s.heap.objs.size, rawInt 0, .none, .none] }) (s.heap.objs.size + 1) s.heap.objs.size 0 .none := by
    have := Heap.get?_push_size (s.heap.push { cls := .type "tuple_iterator", data := .fields #[.ref l, .int 0 0] })
      (o := { cls := .type "enumerate", data := .fields #[.none, .bool false, .ref s.heap.objs.size, rawInt 0, .none, .none] }) rfl
    rw [hz] at this; exact this
  refine ⟨⟨_, he, rfl⟩, h _ he ⟨_, Heap.get?_push_of_some _ (Heap.get?_push_size _ rfl), rfl, rfl⟩ (by rw [Heap.size_push, hz]) fun b o x => Heap.get?_push_of_some _ (Heap.get?_push_of_some _ x)⟩
def IteT (K : PySem.W.Frag) (a : Addr) : It :=
  ⟨fun i H => ∃ (xs : List V) (x : V), SqT K H a xs ∧ xs[i]? = some x, fun i H v H' => ∃ T x, v = .ref T ∧ H T = none ∧ H' = upd H T (.tup [.int (i : Nat), x]) ∧ ∀ xs, SqT K H a xs → xs[i]? = some x, fun i H => ∃ xs : List V, SqT K H a xs ∧ i = xs.length⟩
theorem turn_enumT {P : Program} {w : World} {K : PySem.W.Frag} {elts : List Expr} {kk : Nat} {tpos : Pos} (a e it : Addr) (hae : a ≠ it) (hae2 : a ≠ e) :
    Turn P w K (.Tuple elts kk tpos) (IteT K a) [e, it] e (fun i h => (∃ old, IsEnum h e it ((i : Nat) : Int) old) ∧ h.IsTupleIter it a i ∧ e ≠ it) where
  mem := by simp
  obj := fun i h st b hb => by
    obtain ⟨⟨old, he⟩, ⟨o, ho, hc, hd⟩, _⟩ := st
    have e' : b = e ∨ b = it := by simpa using hb
    rcases e' with z | z
    · rw [z]; exact ⟨_, he, fun v q => nomatch q⟩
    · rw [z]; exact ⟨o, ho, fun v q => by rw [hd] at q; cases q⟩
  keep := fun i h h' st k => let ⟨⟨old, he⟩, hi, hne⟩ := st; ⟨⟨old, k e (by simp) _ he⟩, hi.at fun o q => k it (by simp) o q, hne⟩
  item := by
    intro X hP hw hK hc i pins s σ H E I hf st hg
    subst hP hw hK
    obtain ⟨⟨old, he⟩, hit, hne⟩ := st
    obtain ⟨xs, x, hq, hx⟩ := hg
    obtain ⟨its, rv, p, hz⟩ := I.tuple hq
    obtain ⟨u, hu, ru⟩ := rv.get hx
    have hel : e < s.heap.objs.size := Heap.lt_size he
    have hil : it < s.heap.objs.size := by obtain ⟨_, q, _⟩ := hit; exact Heap.lt_size q
    have hlt : i < its.toArray.size := by
      have := (List.getElem?_eq_some_iff.mp hu).1
      simpa using this
    refine wpAny_pyNext_enum_itemD (Draws.tuple (prog := X.prog) (w := X.w) (A := X.A.in1) (I.ok.hd hc) it a hae its.toArray) he ⟨hit, p⟩ hlt hne (by simp [hne, Ne.symm hae2]) fun y h' tk hy ho hst' hT hsz hk => ?_
    obtain ⟨hit', _⟩ := hst'
    have ey : y = u := by
      have : its.toArray[i]? = some u := by simpa using hu
      rw [this] at hy
      exact (Option.some.inj hy).symm
    subst ey
    refine ⟨_, rfl, wpAny_letOwnedTupleGo_enum (s := { s with heap := h', toks := tk + 1 }) ho fun h'' he' sb => ?_⟩
    have hT2 : h''.get? s.heap.objs.size = some { cls := .type "tuple", data := .seq #[.int i tk, y] } := (sb.2 _ (Nat.ne_of_gt hel)).trans hT
    have new : ObjOk X.prog X.w (upd H s.heap.objs.size (.tup [.int (i : Nat), x])) h'' s.heap.objs.size (.tup [.int (i : Nat), x]) :=
      ⟨by show 2 ≤ sizeLine; decide, [.int i tk, y], .cons ⟨_, rfl⟩ (.cons ru .nil), ⟨_, hT2, rfl, _, rfl⟩⟩
    have I1 : Inv X pins σ (upd H s.heap.objs.size (.tup [.int (i : Nat), x])) { s with heap := h'', toks := tk + 1 } :=
      I.turnedNew (ch := [e, it]) (fun b ob hb q => (sb.2 b (fun z => hb (by simp [z]))).trans (hk b ob (fun z => hb (by simp [z])) (fun z => hb (by simp [z])) q)) hf (Nat.le_refl _) new
    refine ⟨.ref s.heap.objs.size, _, I1, rfl, ⟨_, x, rfl, I.hok.fresh (Nat.le_refl _), rfl, fun ys hy => by rw [I.tuple_inj hy hq]; exact hx⟩, ⟨⟨y, ?_⟩, hit'.at fun o q => (sb.2 it (Ne.symm hne)).trans q, hne⟩, fun b hb => ?_⟩
    · have e1 : ((i + 1 : Nat) : Int) = (i : Int) + 1 := by omega
      rw [e1]; exact he'
    · have hb' : b < s.heap.objs.size := by
        have e' : b = e ∨ b = it := by simpa using hb
        rcases e' with z | z
        · rw [z]; exact hel
        · rw [z]; exact hil
      rw [upd_ne (Nat.ne_of_lt hb')]
      exact (hf b hb).1
  done := by
    intro X hP hw hK hc i pins s σ H E I hf st hg
    subst hP hw hK
    obtain ⟨⟨old, he⟩, hit, hne⟩ := st
    obtain ⟨xs, hq, hx⟩ := hg
    obtain ⟨its, rv, p, hz⟩ := I.tuple hq
    obtain ⟨f0, f1, f2, f3, f4, f5⟩ := hf it (by simp)
    have hl := rv.length
    have hi : i = its.toArray.size := by simp; omega
    subst hi
    exact wpAny_pyNext_enum_endD (Draws.tuple (prog := X.prog) (w := X.w) (A := X.A.in1) (I.ok.hd hc) it a hae its.toArray) he ⟨hit, p⟩ fun h' eb => ⟨rfl, I.turned (t' := s.toks) (fun b o hb q => eb b o hb q) f0 f1 f3 f4 f5⟩
  self := fun A i s Q E st h => let ⟨⟨_, he⟩, _⟩ := st; wpAny_pyIter_enum he h
/-- enumerate(e), a list or a tuple -/
def iEnumZ (K : PySem.W.Frag) (ta : TA) : TI := fun σ H R => ta σ H fun vs H1 => ∃ a xs, vs = [.ref a] ∧ ((SqL K H1 a xs ∧ R (Ite K a) H1) ∨ (SqT K H1 a xs ∧ R (IteT K a) H1))
theorem pi_enumZ {X : Cx} {e : Expr} {ta : TA} {p pos tpos : Pos} {elts : List Expr} {kk : Nat} (hg : Gl X "enumerate") (hm : X.mg "enumerate" = none) (ha : PA X [e] ta) (hs : starEach [e] X.env = [(false, eval e X.env)] := by rfl) :
    PI X (.Tuple elts kk tpos) (.Call (.Name "enumerate" p) [e] [] pos) (iEnumZ X.K ta) := by
  refine ⟨fun pins s σ H R I h => ?_⟩
  refine Call_ (ld_blt I hg hm boot_enumerate (PyProof.Rows.callWith_type1 (thn (ha.run pos pins s σ H _ I h) fun us s1 ⟨vs, H1, I1, r1, q1⟩ => ?_) hs rfl))
  obtain ⟨a, xs, ex, q⟩ := q1
  subst ex
  have two : ∀ b, b ∈ [s1.heap.objs.size + 1, s1.heap.objs.size] → FpOk X pins H1 b := fun b hb => by
    have e' : b = s1.heap.objs.size + 1 ∨ b = s1.heap.objs.size := by simpa using hb
    have hle : s1.heap.objs.size ≤ b := by
      rcases e' with z | z
      · rw [z]; exact Nat.le_add_right _ _
      · rw [z]; exact Nat.le_refl _
    exact I1.fpOk hle (I1.hok.fresh hle)
  cases r1 with
  | cons r rr =>
    cases rr
    cases r
    rcases q with ⟨hq, q⟩ | ⟨hq, q⟩
    · obtain ⟨its, rv, p', hz⟩ := I1.list hq
      refine call_enumerate_list p'.isList fun h' he hit hsz hk => wpAny_pyIter_enum he ?_
      have I2 : Inv X pins σ H1 { s1 with heap := h' } := I1.kept (t' := s1.toks) hk
      exact ⟨s1.heap.objs.size + 1, [s1.heap.objs.size + 1, s1.heap.objs.size], _, _, H1, rfl, I2, turn_enum a (s1.heap.objs.size + 1) s1.heap.objs.size, ⟨⟨.none, he⟩, hit, Nat.succ_ne_self _⟩, two, q⟩
    · obtain ⟨its, rv, p', hz⟩ := I1.tuple hq
      have la : a < s1.heap.objs.size := by obtain ⟨o, ho, _⟩ := id p'; exact Heap.lt_size ho
      refine call_enumerate_tuple (show s1.heap.IsTuple a its.toArray from p') fun h' he hit hsz hk => wpAny_pyIter_enum he ?_
      have I2 : Inv X pins σ H1 { s1 with heap := h' } := I1.kept (t' := s1.toks) hk
      exact ⟨s1.heap.objs.size + 1, [s1.heap.objs.size + 1, s1.heap.objs.size], _, _, H1, rfl, I2, turn_enumT a (s1.heap.objs.size + 1) s1.heap.objs.size (Nat.ne_of_lt la) (Nat.ne_of_lt (Nat.lt_succ_of_lt la)), ⟨⟨.none, he⟩, hit, Nat.succ_ne_self _⟩, two, q⟩
/-- a list or a tuple -/
def iSeq (K : PySem.W.Frag) (tl : TE) : TI := fun σ H R => tl σ H fun x H1 => ∃ a xs, x = .ref a ∧ ((SqL K H1 a xs ∧ R (Itl K a) H1) ∨ (SqT K H1 a xs ∧ R (Itt K a) H1))
theorem pi_seq {X : Cx} {tg l : Expr} {tl : TE} (hl : PE X l tl) : PI X tg l (iSeq X.K tl) := by
  refine ⟨fun pins s σ H R I h => ?_⟩
  refine thn (hl.run pins s σ H _ I h) fun v s1 ⟨x, H1, I1, r1, q1⟩ => ?_
  obtain ⟨a, xs, e, q⟩ := q1
  subst e
  cases r1
  have one : ∀ b, b ∈ [s1.heap.objs.size] → FpOk X pins H1 b := fun b hb => by
    have e : b = s1.heap.objs.size := by simpa using hb
    subst e
    exact I1.fpOk (Nat.le_refl _) (I1.hok.fresh (Nat.le_refl _))
  rcases q with ⟨hq, q⟩ | ⟨hq, q⟩
  · obtain ⟨its, rv, p, hz⟩ := I1.list hq
    refine wpAny_pyIter_list p.isList ?_
    exact ⟨s1.heap.objs.size, [s1.heap.objs.size], _, _, H1, rfl, I1.kept (t' := s1.toks) fun b o e => Heap.get?_push_of_some _ e, turn_list a _, ⟨_, Heap.get?_push_size _ rfl, rfl, rfl⟩, one, q⟩
  · obtain ⟨its, rv, p, hz⟩ := I1.tuple hq
    refine wpAny_pyIter_tuple (show s1.heap.IsTuple a its.toArray from p) ?_
    exact ⟨s1.heap.objs.size, [s1.heap.objs.size], _, _, H1, rfl, I1.kept (t' := s1.toks) fun b o e => Heap.get?_push_of_some _ e, turn_tuple a _, ⟨_, Heap.get?_push_size _ rfl, rfl, rfl⟩, one, q⟩

/-! ### walks upon trees -/
structure Walk (K : PySem.W.Frag) (J : It) (G : Hp) (ds : List D) : Prop where
  go : ∀ (H : Hp) (i : Nat), (∀ a o, G a = some o → H a = some o) → i < ds.length → J.go i H
  yl : ∀ (H : Hp) (i : Nat) (x : V) (H' : Hp) (d : D), (∀ a o, G a = some o → H a = some o) → ds[i]? = some d → J.yld i H x H' →
    (H' = H ∧ Dp K G x d) ∨ ∃ T o, H T = none ∧ H' = upd H T o ∧ ∀ G', (∀ a o, G a = some o → G' a = some o) → G' T = some o → Dp K G' x d
  st : ∀ (H : Hp), (∀ a o, G a = some o → H a = some o) → J.stop ds.length H
theorem Walk.mono {K : PySem.W.Frag} {J : It} {G G' : Hp} {ds : List D} (w : Walk K J G ds) (h : ∀ a o, G a = some o → G' a = some o) : Walk K J G' ds where
  go := fun H i e l => w.go H i (fun a o z => e a o (h a o z)) l
  yl := fun H i x H' d e l y => by
    rcases w.yl H i x H' d (fun a o z => e a o (h a o z)) l y with ⟨e1, e2⟩ | ⟨T, o, e1, e2, e3⟩
    · exact .inl ⟨e1, dp_mono h e2⟩
    · exact .inr ⟨T, o, e1, e2, fun G2 hg ht => e3 G2 (fun a o z => hg a o (h a o z)) ht⟩
  st := fun H e => w.st H fun a o z => e a o (h a o z)
abbrev rW (K : PySem.W.Frag) : RR It (List D) := fun _ _ _ _ G J ds => Walk K J G ds
def IX (X : Cx) (P : Pm) (O : Own) (tg iter : Expr) (T : Rho → Out Rho (List D)) : Prop := PI X tg iter (tX X P O (rW X.K) T)
section
variable {X : Cx} {P : Pm} {O : Own}
theorem pi_mono {tg e : Expr} {t t' : TI} (h : PI X tg e t) (m : ∀ σ H Q, t' σ H Q → t σ H Q) : PI X tg e t' := ⟨fun pins s σ H Q I q => h.run pins s σ H Q I (m σ H Q q)⟩
theorem walk_list {K : PySem.W.Frag} {G : Hp} {a : Addr} {xs : List V} {ds : List D} (q : SqL K G a xs) (p : DpAll K G xs ds) : Walk K (Itl K a) G ds where
  go := fun H i e l => ⟨xs, xs[i]'(by rw [L2.DpAll.len p]; exact l), sqL_mono e q, by simp⟩
  yl := fun H i x H' d e l ⟨h1, h2⟩ => by
    obtain ⟨v, hv, hd⟩ := L2.DpAll.get' p l
    have z := h2 xs (sqL_mono e q)
    rw [hv] at z
    exact .inl ⟨h1, Option.some.inj z ▸ hd⟩
  st := fun H e => ⟨xs, sqL_mono e q, by rw [L2.DpAll.len p]; exact Nat.le_refl _⟩
theorem walk_tup {K : PySem.W.Frag} {G : Hp} {a : Addr} {xs : List V} {ds : List D} (q : SqT K G a xs) (p : DpAll K G xs ds) : Walk K (Itt K a) G ds where
  go := fun H i e l => ⟨xs, xs[i]'(by rw [L2.DpAll.len p]; exact l), sqT_mono e q, by simp⟩
  yl := fun H i x H' d e l ⟨h1, h2⟩ => by
    obtain ⟨v, hv, hd⟩ := L2.DpAll.get' p l
    have z := h2 xs (sqT_mono e q)
    rw [hv] at z
    exact .inl ⟨h1, Option.some.inj z ▸ hd⟩
  st := fun H e => ⟨xs, sqT_mono e q, by rw [L2.DpAll.len p]; exact Nat.le_refl _⟩
/-- over a list or a tuple -/
def seqT (T : Rho → Out Rho D) : Rho → Out Rho (List D) := fun ρ => (T ρ).bind fun d ρ1 => .of (itemsD d) ρ1
theorem ix_seqZ {tg e : Expr} {T : Rho → Out Rho D} (h : EX X P O e T) : IX X P O tg e (seqT T) := by
  refine pi_mono (pi_seq h) fun σ H Q ⟨ρ, G, F, rr, h⟩ => ?_
  refine tX_bind' (R := rE X.K) rr h fun x H1 d ρ1 G1 r1 e1 p1 h1 => ?_
  cases z : itemsD d with
  | none => rw [z] at h1; exact h1.elim
  | some ds =>
    rw [z] at h1
    cases p1 with
    | lst q p => cases z; exact ⟨_, _, rfl, .inl ⟨sqL_mono r1.gr q, h1 _ H1 G1 r1 (Ext.refl _ _) (walk_list q p)⟩⟩
    | tup q p => cases z; exact ⟨_, _, rfl, .inr ⟨sqT_mono r1.gr q, h1 _ H1 G1 r1 (Ext.refl _ _) (walk_tup q p)⟩⟩
    | _ => cases z
/-- ranges -/
def rng (lo hi : Int) : List D := (List.range (hi - lo).toNat).map fun (i : Nat) => .int (lo + (i : Int))
theorem rng_len (lo hi : Int) : (rng lo hi).length = (hi - lo).toNat := by simp [rng]
theorem rng_get (lo hi : Int) (i : Nat) : (rng lo hi)[i]? = if i < (hi - lo).toNat then some (.int (lo + (i : Int))) else none := by
  unfold rng
  rw [List.getElem?_map]
  by_cases h : i < (hi - lo).toNat
  · rw [if_pos h, List.getElem?_range h] <;> rfl
  · rw [if_neg h, List.getElem?_eq_none (by simpa using h)] <;> rfl
theorem walk_rng {K : PySem.W.Frag} {G : Hp} (lo hi : Int) : Walk K (Itr lo (hi - lo).toNat) G (rng lo hi) where
  go := fun H i e l => by rw [rng_len] at l; exact l
  yl := fun H i x H' d e l ⟨h1, h2⟩ => by
    rw [rng_get] at l
    split at l
    · cases l
      subst h2
      exact .inl ⟨h1, .int _⟩
    · cases l
  st := fun H e => by rw [rng_len]; exact Nat.le_refl _
/-- told by natural numbers, so that the kernel does not reckon -/
def okR (i j : Int) : Bool := decide (i.natAbs < 2 ^ 62 ∧ j.natAbs < 2 ^ 62)
theorem okR_of {i j : Int} (h : okR i j = true) : -(2 ^ 62) ≤ i ∧ i < 2 ^ 62 ∧ -(2 ^ 62) ≤ j ∧ j < 2 ^ 62 := by
  unfold okR at h
  have := of_decide_eq_true h
  omega
def rng1D : List D → Option (List D)
  | [.int j] => if okR 0 j = true then some (rng 0 j) else none
  | _ => none
def rng2D : List D → Option (List D)
  | [.int i, .int j] => if okR i j = true then some (rng i j) else none
  | _ => none
def rngT (g : List D → Option (List D)) (Ta : Rho → Out Rho (List D)) : Rho → Out Rho (List D) := fun ρ => (Ta ρ).bind fun ds ρ1 => .of (g ds) ρ1
theorem ix_rng1 {tg a : Expr} {T : Rho → Out Rho (List D)} {p pos : Pos} (hm : X.mg "range" = none) (ha : AX X P O [a] T) (hg : Gl X "range" := by rfl) (hs : starEach [a] X.env = [(false, eval a X.env)] := by rfl) : IX X P O tg (.Call (.Name "range" p) [a] [] pos) (rngT rng1D T) := by
  refine pi_mono (pi_range1 hg hm ha hs) fun σ H Q ⟨ρ, G, F, rr, h⟩ => ?_
  refine tX_bind' (R := rA X.K) rr h fun vs H1 ds ρ1 G1 r1 e1 p1 h1 => ?_
  cases z : rng1D ds with
  | none => rw [z] at h1; exact h1.elim
  | some es =>
    rw [z] at h1
    unfold rng1D at z
    split at z
    · split at z
      · rename_i j hk
        cases z
        obtain ⟨x, rfl, hx⟩ := dpAll1 p1
        cases hx
        obtain ⟨_, _, k1, k2⟩ := okR_of hk
        refine ⟨_, rfl, k1, k2, ?_⟩
        have w := walk_rng (K := X.K) (G := G1) 0 j
        rw [Int.sub_zero] at w
        exact h1 _ H1 G1 r1 (Ext.refl _ _) w
      · cases z
    · cases z
theorem ix_rng2 {tg a b : Expr} {T : Rho → Out Rho (List D)} {p pos : Pos} (hm : X.mg "range" = none) (ha : AX X P O [a, b] T) (hg : Gl X "range" := by rfl) (hs : starEach [a, b] X.env = [(false, eval a X.env), (false, eval b X.env)] := by rfl) (hs2 : starEach [b] X.env = [(false, eval b X.env)] := by rfl) : IX X P O tg (.Call (.Name "range" p) [a, b] [] pos) (rngT rng2D T) := by
  refine pi_mono (pi_range2 hg hm ha hs hs2) fun σ H Q ⟨ρ, G, F, rr, h⟩ => ?_
  refine tX_bind' (R := rA X.K) rr h fun vs H1 ds ρ1 G1 r1 e1 p1 h1 => ?_
  cases z : rng2D ds with
  | none => rw [z] at h1; exact h1.elim
  | some es =>
    rw [z] at h1
    unfold rng2D at z
    split at z
    · split at z
      · rename_i i j hk
        cases z
        obtain ⟨x, y, rfl, hx, hy⟩ := dpAll2 p1
        cases hx
        cases hy
        exact ⟨_, _, rfl, okR_of hk, h1 _ H1 G1 r1 (Ext.refl _ _) (walk_rng i j)⟩
      · cases z
    · cases z
/-- enumerate -/
def enumFrom (k : Nat) : List D → List D
  | [] => []
  | d :: ds => .tuple [.int (k : Int), d] :: enumFrom (k + 1) ds
theorem enumFrom_len : ∀ (ds : List D) (k : Nat), (enumFrom k ds).length = ds.length
  | [], _ => rfl
  | _ :: ds, k => by simp [enumFrom, enumFrom_len ds]
theorem enumFrom_get : ∀ (ds : List D) (k i : Nat), (enumFrom k ds)[i]? = (ds[i]?).map fun d => .tuple [.int ((k + i : Nat) : Int), d]
  | [], _, _ => by simp [enumFrom]
  | d :: ds, k, 0 => by simp [enumFrom]
  | d :: ds, k, i + 1 => by
    simp only [enumFrom, List.getElem?_cons_succ]
    rw [enumFrom_get ds (k + 1) i]
    have e : k + 1 + i = k + (i + 1) := by omega
    rw [e]
def enumD : List D → Option (List D)
  | [d] => (itemsD d).map (enumFrom 0)
  | _ => none
theorem dp_pair {K : PySem.W.Frag} {G G' : Hp} {T : Addr} {x y : V} {d e : D} (h : ∀ a o, G a = some o → G' a = some o) (hT : G' T = some (.tup [x, y])) (hx : Dp K G x d) (hy : Dp K G y e) : Dp K G' (.ref T) (.tuple [d, e]) :=
  .tup (SqT.of hT) (.cons (dp_mono h hx) (.cons (dp_mono h hy) .nil))
theorem walk_enumL {K : PySem.W.Frag} {G : Hp} {a : Addr} {xs : List V} {ds : List D} (q : SqL K G a xs) (p : DpAll K G xs ds) : Walk K (Ite K a) G (enumFrom 0 ds) where
  go := fun H i e l => by
    rw [enumFrom_len] at l
    exact ⟨xs, xs[i]'(by rw [L2.DpAll.len p]; exact l), sqL_mono e q, by simp⟩
  yl := fun H i x H' d e l ⟨T, y, h1, h2, h3, h4⟩ => by
    rw [enumFrom_get] at l
    obtain ⟨d0, hd0, ed⟩ := Option.map_eq_some_iff.mp l
    subst ed h1
    obtain ⟨v, hv, hd⟩ := L2.DpAll.get' p hd0
    have z := h4 xs (sqL_mono e q)
    rw [hv] at z
    cases z
    refine .inr ⟨T, _, h2, h3, fun G' hg ht => ?_⟩
    have e0 : (0 + i : Nat) = i := by omega
    rw [e0]
    exact dp_pair hg ht (.int _) hd
  st := fun H e => by rw [enumFrom_len]; exact ⟨xs, sqL_mono e q, by rw [L2.DpAll.len p]; exact Nat.le_refl _⟩
theorem walk_enumT {K : PySem.W.Frag} {G : Hp} {a : Addr} {xs : List V} {ds : List D} (q : SqT K G a xs) (p : DpAll K G xs ds) : Walk K (IteT K a) G (enumFrom 0 ds) where
  go := fun H i e l => by
    rw [enumFrom_len] at l
    exact ⟨xs, xs[i]'(by rw [L2.DpAll.len p]; exact l), sqT_mono e q, by simp⟩
  yl := fun H i x H' d e l ⟨T, y, h1, h2, h3, h4⟩ => by
    rw [enumFrom_get] at l
    obtain ⟨d0, hd0, ed⟩ := Option.map_eq_some_iff.mp l
    subst ed h1
    obtain ⟨v, hv, hd⟩ := L2.DpAll.get' p hd0
    have z := h4 xs (sqT_mono e q)
    rw [hv] at z
    cases z
    refine .inr ⟨T, _, h2, h3, fun G' hg ht => ?_⟩
    have e0 : (0 + i : Nat) = i := by omega
    rw [e0]
    exact dp_pair hg ht (.int _) hd
  st := fun H e => by rw [enumFrom_len]; exact ⟨xs, sqT_mono e q, by rw [L2.DpAll.len p]⟩
theorem ix_enum {e : Expr} {T : Rho → Out Rho (List D)} {p pos tpos : Pos} {elts : List Expr} {kk : Nat} (hm : X.mg "enumerate" = none) (ha : AX X P O [e] T) (hg : Gl X "enumerate" := by rfl) (hs : starEach [e] X.env = [(false, eval e X.env)] := by rfl) :
    IX X P O (.Tuple elts kk tpos) (.Call (.Name "enumerate" p) [e] [] pos) (rngT enumD T) := by
  refine pi_mono (pi_enumZ hg hm ha hs) fun σ H Q ⟨ρ, G, F, rr, h⟩ => ?_
  refine tX_bind' (R := rA X.K) rr h fun vs H1 ds ρ1 G1 r1 e1 p1 h1 => ?_
  cases z : enumD ds with
  | none => rw [z] at h1; exact h1.elim
  | some es =>
    rw [z] at h1
    unfold enumD at z
    split at z
    · rename_i d
      obtain ⟨l, hl, e2⟩ := Option.map_eq_some_iff.mp z
      subst e2
      obtain ⟨x, rfl, hx⟩ := dpAll1 p1
      cases hx with
      | lst q p => cases hl; exact ⟨_, _, rfl, .inl ⟨sqL_mono r1.gr q, h1 _ H1 G1 r1 (Ext.refl _ _) (walk_enumL q p)⟩⟩
      | tup q p => cases hl; exact ⟨_, _, rfl, .inr ⟨sqT_mono r1.gr q, h1 _ H1 G1 r1 (Ext.refl _ _) (walk_enumT q p)⟩⟩
      | _ => cases hl
    · cases z
/-- zip of two lists, of two tuples -/
def zipW (xs ys : List D) : List D := (xs.zip ys).map fun p => .tuple [p.1, p.2]
def zipD : List D → Option (List D)
  | [.list xs, .list ys] => some (zipW xs ys)
  | [.tuple xs, .tuple ys] => some (zipW xs ys)
  | _ => none
theorem zipW_get (xs ys : List D) (i : Nat) (d : D) (h : (zipW xs ys)[i]? = some d) : ∃ x y, xs[i]? = some x ∧ ys[i]? = some y ∧ d = .tuple [x, y] := by
  unfold zipW at h
  rw [List.getElem?_map] at h
  obtain ⟨p, hp, e⟩ := Option.map_eq_some_iff.mp h
  obtain ⟨h1, h2⟩ := List.getElem?_zip_eq_some.mp hp
  exact ⟨p.1, p.2, h1, h2, e.symm⟩
theorem zipW_len (xs ys : List D) : (zipW xs ys).length = min xs.length ys.length := by simp [zipW]
theorem walk_zipL {K : PySem.W.Frag} {G : Hp} {a b : Addr} {xs ys : List V} {ds es : List D} (q : SqL K G a xs) (p : DpAll K G xs ds) (q' : SqL K G b ys) (p' : DpAll K G ys es) : Walk K (Itz K a b) G (zipW ds es) where
  go := fun H i e l => by
    rw [zipW_len] at l
    exact ⟨xs, ys, xs[i]'(by rw [L2.DpAll.len p]; omega), ys[i]'(by rw [L2.DpAll.len p']; omega), sqL_mono e q, sqL_mono e q', by simp, by simp⟩
  yl := fun H i x H' d e l ⟨T, u, v, h1, h2, h3, h4, h5⟩ => by
    obtain ⟨d1, d2, g1, g2, ed⟩ := zipW_get _ _ _ _ l
    subst ed h1
    obtain ⟨u', hu, hd1⟩ := L2.DpAll.get' p g1
    obtain ⟨v', hv, hd2⟩ := L2.DpAll.get' p' g2
    have z := h4 xs (sqL_mono e q)
    have z' := h5 ys (sqL_mono e q')
    rw [hu] at z
    rw [hv] at z'
    cases z
    cases z'
    exact .inr ⟨T, _, h2, h3, fun G' hg ht => dp_pair hg ht hd1 hd2⟩
  st := fun H e => by
    rw [zipW_len]
    exact ⟨xs, ys, sqL_mono e q, sqL_mono e q', by rw [L2.DpAll.len p, L2.DpAll.len p']; omega⟩
theorem walk_zipT {K : PySem.W.Frag} {G : Hp} {a b : Addr} {xs ys : List V} {ds es : List D} (q : SqT K G a xs) (p : DpAll K G xs ds) (q' : SqT K G b ys) (p' : DpAll K G ys es) : Walk K (RZ.ItzT K a b) G (zipW ds es) where
  go := fun H i e l => by
    rw [zipW_len] at l
    exact ⟨xs, ys, xs[i]'(by rw [L2.DpAll.len p]; omega), ys[i]'(by rw [L2.DpAll.len p']; omega), sqT_mono e q, sqT_mono e q', by simp, by simp⟩
  yl := fun H i x H' d e l ⟨T, u, v, h1, h2, h3, h4, h5⟩ => by
    obtain ⟨d1, d2, g1, g2, ed⟩ := zipW_get _ _ _ _ l
    subst ed h1
    obtain ⟨u', hu, hd1⟩ := L2.DpAll.get' p g1
    obtain ⟨v', hv, hd2⟩ := L2.DpAll.get' p' g2
    have z := h4 xs (sqT_mono e q)
    have z' := h5 ys (sqT_mono e q')
    rw [hu] at z
    rw [hv] at z'
    cases z
    cases z'
    exact .inr ⟨T, _, h2, h3, fun G' hg ht => dp_pair hg ht hd1 hd2⟩
  st := fun H e => by
    rw [zipW_len]
    exact ⟨xs, ys, sqT_mono e q, sqT_mono e q', by rw [L2.DpAll.len p, L2.DpAll.len p']; omega⟩
theorem ix_zip {e e2 : Expr} {T : Rho → Out Rho (List D)} {p pos tpos : Pos} {elts : List Expr} {kk : Nat} (hm : X.mg "zip" = none) (ha : AX X P O [e, e2] T) (hg : Gl X "zip" := by rfl) (hs : starEach [e, e2] X.env = (false, eval e X.env) :: starEach [e2] X.env := by rfl) (hpl : (backTo pos (starEach [e2] X.env)).any (·.1) = false := by rfl) :
    IX X P O (.Tuple elts kk tpos) (.Call (.Name "zip" p) [e, e2] [] pos) (rngT zipD T) := by
  refine pi_mono (RZ.pi_zipA hg hm ha hs hpl) fun σ H Q ⟨ρ, G, F, rr, h⟩ => ?_
  refine tX_bind' (R := rA X.K) rr h fun vs H1 ds ρ1 G1 r1 e1 p1 h1 => ?_
  cases z : zipD ds with
  | none => rw [z] at h1; exact h1.elim
  | some es =>
    rw [z] at h1
    unfold zipD at z
    split at z
    · cases z
      obtain ⟨x, y, rfl, hx, hy⟩ := dpAll2 p1
      cases hx with
      | lst q p =>
        cases hy with
        | lst q' p' => exact ⟨_, _, _, _, rfl, .inl ⟨sqL_mono r1.gr q, sqL_mono r1.gr q', h1 _ H1 G1 r1 (Ext.refl _ _) (walk_zipL q p q' p')⟩⟩
    · cases z
      obtain ⟨x, y, rfl, hx, hy⟩ := dpAll2 p1
      cases hx with
      | tup q p =>
        cases hy with
        | tup q' p' => exact ⟨_, _, _, _, rfl, .inr ⟨sqT_mono r1.gr q, sqT_mono r1.gr q', h1 _ H1 G1 r1 (Ext.refl _ _) (walk_zipT q p q' p')⟩⟩
    · cases z
end
end Z

/-! file ZComp -/
set_option Elab.async false
set_option linter.all false
set_option autoImplicit false
set_option maxRecDepth 100000
set_option maxHeartbeats 4000000
/-! targets and comprehensions -/
namespace Z
open PySem PySem.Spec PyProof.Rows L2

/-! ### targets -/
/-- assign d: which slots, what becomes of them -/
def tG (X : Cx) (P : Pm) (O : Own) (g : D → Rho → Option Rho) (is : List Nat) : TG := fun v σ H Q => ∃ ρ G F d ρ', Rel X.K F P.fx O σ H ρ G ∧ Dp X.K G v d ∧ g d ρ = some ρ' ∧
  ∀ σ', (∀ j, j ∉ is → σ'[j]? = σ[j]?) → σ'.length = σ.length → Rel X.K F P.fx O σ' H ρ' G → Q σ' H
def tGs (X : Cx) (P : Pm) (O : Own) (g : List D → Rho → Option Rho) (is : List Nat) : TGs := fun vs σ H Q => ∃ ρ G F ds ρ', Rel X.K F P.fx O σ H ρ G ∧ DpAll X.K G vs ds ∧ g ds ρ = some ρ' ∧
  ∀ σ', (∀ j, j ∉ is → σ'[j]? = σ[j]?) → σ'.length = σ.length → Rel X.K F P.fx O σ' H ρ' G → Q σ' H
def GX (X : Cx) (P : Pm) (O : Own) (tg : Expr) (g : D → Rho → Option Rho) (is : List Nat) : Prop := PG X tg (tG X P O g is)
def GXs (X : Cx) (P : Pm) (O : Own) (tgs : List Expr) (g : List D → Rho → Option Rho) (is : List Nat) : Prop := PGs X tgs (tGs X P O g is)
section
variable {X : Cx} {P : Pm} {O : Own}
theorem pg_mono {e : Expr} {t t' : TG} (h : PG X e t) (m : ∀ v σ H Q, t' v σ H Q → t v σ H Q) : PG X e t' := ⟨fun pins s σ H v u Q I r q => h.run pins s σ H v u Q I r (m v σ H Q q)⟩
theorem pgs_mono {e : List Expr} {t t' : TGs} (h : PGs X e t) (m : ∀ v σ H Q, t' v σ H Q → t v σ H Q) : PGs X e t' := ⟨fun pins s σ H v u Q I r q => h.run pins s σ H v u Q I r (m v σ H Q q)⟩
def setG (i : Nat) : D → Rho → Option Rho := fun d ρ => some (ρ.set i (some d))
def nilG : List D → Rho → Option Rho
  | [], ρ => some ρ
  | _, _ => none
def consG (g : D → Rho → Option Rho) (gs : List D → Rho → Option Rho) : List D → Rho → Option Rho
  | d :: ds, ρ => (g d ρ).bind fun ρ1 => gs ds ρ1
  | [], _ => none
def tupG (n : Nat) (gs : List D → Rho → Option Rho) : D → Rho → Option Rho
  | .tuple ds, ρ => if ds.length = n then gs ds ρ else none
  | _, _ => none
theorem gx_name (i : Nat) {x : Str} {pos : Pos} (hN : X.N.Nodup) (hO : ok O i = none := by rfl) (hi : X.N[i]? = some x := by rfl) (hx : Loc X.env.scope x := by first | exact Or.inl rfl | exact Or.inr rfl)
    (hf : X.fn x = true ∨ X.env.scope.names.lookup x = some .local := by first | exact .inl rfl | exact .inr rfl) : GX X P O (.Name x pos) (setG i) [i] := by
  refine pg_mono (pg_name hN hi hx hf) fun v σ H Q ⟨ρ, G, F, d, ρ', r, hd, e, q⟩ => ?_
  cases e
  refine q _ (fun j hj => ?_) (by rw [List.length_set]) (r.set hO hd)
  exact List.getElem?_set_ne (fun z => hj (by simp [z]))
theorem gxs_nil : GXs X P O [] nilG [] := by
  refine pgs_mono pgs_nil fun vs σ H Q ⟨ρ, G, F, ds, ρ', r, hd, e, q⟩ => ?_
  cases ds with
  | nil =>
    cases e
    cases hd
    exact ⟨rfl, q σ (fun _ _ => rfl) rfl r⟩
  | cons => cases e
theorem gxs_cons {e : Expr} {es : List Expr} {g : D → Rho → Option Rho} {gs : List D → Rho → Option Rho} {is js : List Nat} (h1 : GX X P O e g is) (h2 : GXs X P O es gs js)
    (hs : (assignEach (e :: es) X.env).map (·.2) = assign e X.env :: (assignEach es X.env).map (·.2) := by rfl) : GXs X P O (e :: es) (consG g gs) (is ++ js) := by
  refine pgs_mono (pgs_cons h1 h2 hs) fun vs σ H Q ⟨ρ, G, F, ds, ρ', r, hd, ee, q⟩ => ?_
  cases hd with
  | nil => cases ee
  | cons a b =>
    obtain ⟨ρ1, h3, h4⟩ := Option.bind_eq_some_iff.mp ee
    refine ⟨_, _, rfl, ρ, G, F, _, ρ1, r, a, h3, fun σ' k l r' => ?_⟩
    refine ⟨ρ1, G, F, _, ρ', r', b, h4, fun σ2 k2 l2 r2 => ?_⟩
    exact q σ2 (fun j hj => by
      rw [k2 j (fun z => hj (List.mem_append_right _ z)), k j (fun z => hj (List.mem_append_left _ z))]) (l2.trans l) r2
theorem gx_tup {es : List Expr} {k n : Nat} {pos : Pos} {gs : List D → Rho → Option Rho} {is : List Nat} (hc : X.calm = true) (h : GXs X P O es gs is) (hn : (assignEach es X.env).length = n := by rfl) (hst : (assignEach es X.env).findIdx? (·.1) = none := by rfl) :
    GX X P O (.Tuple es k pos) (tupG n gs) is := by
  refine pg_mono (pg_tup hc h hn hst) fun v σ H Q ⟨ρ, G, F, d, ρ', r, hd, e, q⟩ => ?_
  cases hd with
  | tup a b =>
    unfold tupG at e
    dsimp only at e
    split at e
    · rename_i hl
      exact ⟨_, _, rfl, sqT_mono r.gr a, by rw [L2.DpAll.len b]; exact hl, ρ, G, F, _, ρ', r, b, e, q⟩
    · cases e
  | _ => cases e
end

/-! ### comprehensions -/
def wipeR (ρ : Rho) : List Nat → Rho
  | [] => ρ
  | v :: vs => (wipeR ρ vs).set v none
def putBack (ρ0 : Rho) (ρ : Rho) : List Nat → Rho
  | [] => ρ
  | v :: vs => (putBack ρ0 ρ vs).set v ((ρ0[v]?).join)
theorem wipeR_len (ρ : Rho) : ∀ vs, (wipeR ρ vs).length = ρ.length
  | [] => rfl
  | v :: vs => by unfold wipeR; rw [List.length_set, wipeR_len ρ vs]
theorem putBack_len (ρ0 ρ : Rho) : ∀ vs, (putBack ρ0 ρ vs).length = ρ.length
  | [] => rfl
  | v :: vs => by unfold putBack; rw [List.length_set, putBack_len ρ0 ρ vs]
theorem wipeR_get {ρ : Rho} {i : Nat} {d : D} : ∀ {vs : List Nat}, (wipeR ρ vs)[i]? = some (some d) → ρ[i]? = some (some d) ∧ i ∉ vs
  | [], h => ⟨h, by simp⟩
  | v :: vs, h => by
    unfold wipeR at h
    by_cases hi : v = i
    · subst hi
      by_cases hv : v < (wipeR ρ vs).length
      · rw [List.getElem?_set_self hv] at h; cases h
      · rw [List.getElem?_eq_none (by simpa using hv)] at h; cases h
    · rw [List.getElem?_set_ne hi] at h
      obtain ⟨a, b⟩ := wipeR_get h
      exact ⟨a, by simp [b, Ne.symm hi]⟩
theorem wipe_get {σ : L2.St} {i : Nat} : ∀ {vs : List Nat}, i ∉ vs → (wipe σ vs)[i]? = σ[i]?
  | [], _ => rfl
  | v :: vs, h => by
    unfold wipe
    have h1 : v ≠ i := fun z => h (by simp [z])
    have h2 : i ∉ vs := fun z => h (by simp [z])
    rw [List.getElem?_set_ne h1, wipe_get h2]
theorem wipeR_get' {ρ : Rho} {i : Nat} : ∀ {vs : List Nat}, i ∉ vs → (wipeR ρ vs)[i]? = ρ[i]?
  | [], _ => rfl
  | v :: vs, h => by
    unfold wipeR
    have h1 : v ≠ i := fun z => h (by simp [z])
    have h2 : i ∉ vs := fun z => h (by simp [z])
    rw [List.getElem?_set_ne h1, wipeR_get' h2]
theorem putBack_out {ρ0 ρ : Rho} {i : Nat} : ∀ {vs : List Nat}, i ∉ vs → (putBack ρ0 ρ vs)[i]? = ρ[i]?
  | [], _ => rfl
  | v :: vs, h => by
    unfold putBack
    have h1 : v ≠ i := fun z => h (by simp [z])
    have h2 : i ∉ vs := fun z => h (by simp [z])
    rw [List.getElem?_set_ne h1, putBack_out h2]
theorem putBack_in {ρ0 ρ : Rho} {i : Nat} {d : D} : ∀ {vs : List Nat}, i ∈ vs → (putBack ρ0 ρ vs)[i]? = some (some d) → ρ0[i]? = some (some d)
  | v :: vs, hi, h => by
    unfold putBack at h
    by_cases z : v = i
    · subst z
      by_cases hv : v < (putBack ρ0 ρ vs).length
      · rw [List.getElem?_set_self hv] at h
        have h' : (ρ0[v]?).join = some d := Option.some.inj h
        cases e : ρ0[v]? with
        | none => rw [e] at h'; cases h'
        | some u => rw [e] at h'; exact congrArg some h'
      · rw [List.getElem?_eq_none (by simpa using hv)] at h; cases h
    · rw [List.getElem?_set_ne z] at h
      have hi' : i ∈ vs := by
        rcases List.mem_cons.mp hi with e | e
        · exact absurd e.symm z
        · exact e
      exact putBack_in hi' h
/-- wipe depends on the slots that stay alone -/
theorem wipe_ext {σ τ : L2.St} {vs : List Nat} (hl : τ.length = σ.length) (h : ∀ j, j ∉ vs → τ[j]? = σ[j]?) : wipe τ vs = wipe σ vs := by
  apply List.ext_getElem?
  intro j
  by_cases hj : j ∈ vs
  · have none_at : ∀ (σ : L2.St) (vs : List Nat), j ∈ vs → (wipe σ vs)[j]? = if j < σ.length then some none else none := by
      intro σ vs
      induction vs with
      | nil => intro h; cases h
      | cons v vs ih =>
        intro hm
        unfold wipe
        by_cases z : v = j
        · subst z
          by_cases hv : v < σ.length
          · rw [List.getElem?_set_self (by rw [wipe_length]; exact hv), if_pos hv]
          · rw [if_neg hv, List.getElem?_eq_none (by rw [List.length_set, wipe_length]; omega)]
        · rw [List.getElem?_set_ne z]
          have hm' : j ∈ vs := by
            rcases List.mem_cons.mp hm with e | e
            · exact absurd e.symm z
            · exact e
          exact ih hm'
    rw [none_at τ vs hj, none_at σ vs hj, hl]
  · rw [wipe_get hj, wipe_get hj, h j hj]

def Out.bindN {r α β : Type} (o : Out r α) (k : α → r → Out r β) : Out r β := match o with
  | .ok a s => k a s
  | .exc _ _ _ => .bad
  | .bad => .bad
@[simp] theorem bindN_ok {r α β : Type} (a : α) (s : r) (k : α → r → Out r β) : (Out.ok a s).bindN k = k a s := rfl
@[simp] theorem bindN_exc {r α β : Type} (c : Str) (fs : List (Str × D)) (s : r) (k : α → r → Out r β) : (Out.exc c fs s).bindN k = .bad := rfl
@[simp] theorem bindN_bad {r α β : Type} (k : α → r → Out r β) : (Out.bad : Out r α).bindN k = .bad := rfl
/-- the turns of a comprehension -/
def lcLoop (vs : List Nat) (g : D → Rho → Option Rho) (tt : Rho → Out Rho Bool) (te : Rho → Out Rho D) : List D → List D → Rho → Out Rho (List D)
  | [], acc, ρ => .ok acc ρ
  | d :: ds, acc, ρ => match g d (wipeR ρ vs) with
    | none => .bad
    | some ρ1 => (tt ρ1).bindN fun b ρ2 => if b = true then (te ρ2).bindN fun y ρ3 => if acc.length < sizeLine then lcLoop vs g tt te ds (acc ++ [y]) ρ3 else .bad else lcLoop vs g tt te ds acc ρ2
def lcT (vs : List Nat) (Ti : Rho → Out Rho (List D)) (g : D → Rho → Option Rho) (tt : Rho → Out Rho Bool) (te : Rho → Out Rho D) : Rho → Out Rho D := fun ρ => (Ti ρ).bind fun ds ρ1 => (lcLoop vs g tt te ds [] ρ1).bindN fun l ρ2 => .ok (.list l) (putBack ρ1 ρ2 vs)
def Pm.quiet (P : Pm) : Pm := ⟨P.fx, fun _ _ _ _ => False⟩
def TXs (X : Cx) (P : Pm) (O : Own) (es : List Expr) (T : Rho → Out Rho Bool) : Prop := PTs X es (tX X P O rT T)
def yesT : Rho → Out Rho Bool := fun ρ => .ok true ρ
section
variable {X : Cx} {P : Pm} {O : Own}
theorem pts_mono {es : List Expr} {t t' : TT} (h : PTs X es t) (m : ∀ σ H Q, t' σ H Q → t σ H Q) : PTs X es t' := ⟨fun pins s σ H Q I q => h.run pins s σ H Q I (m σ H Q q)⟩
theorem txs_nil : TXs X P O [] yesT := pts_mono pts_nil fun σ H Q ⟨ρ, G, F, r, h⟩ => h true H G r (Ext.refl _ _) rfl
theorem txs_one {e : Expr} {T : Rho → Out Rho Bool} (h : TX X P O e T) : TXs X P O [e] T := pts_one h
theorem Ext.frame {F F' G G' : Hp} (h : ∀ a, F' a ≠ none → F a ≠ none) (e : Ext F G G') : Ext F' G G' := ⟨e.1, fun a n => e.2 a (h a n)⟩
theorem Rel.wiped {K : PySem.W.Frag} {F H G : Hp} {fx : List (Nat × Addr)} {σ : L2.St} {ρ : Rho} (r : Rel K F fx O σ H ρ G) {vs : List Nat} (hO : ∀ i ∈ vs, ok O i = none) : Rel K F fx O (wipe σ vs) H (wipeR ρ vs) G where
  fr := r.fr
  gr := r.gr
  sh := fun i d e n => by
    obtain ⟨e1, e2⟩ := wipeR_get e
    obtain ⟨v, q, p⟩ := r.sh i d e1 n
    exact ⟨v, by rw [wipe_get e2]; exact q, p⟩
  ow := fun i d k e n => by
    obtain ⟨e1, e2⟩ := wipeR_get e
    obtain ⟨a, q, p⟩ := r.ow i d k e1 n
    exact ⟨a, by rw [wipe_get e2]; exact q, p⟩
  dj := fun i j d e k l a h1 h2 n1 n2 s1 s2 => by
    obtain ⟨e1, e2⟩ := wipeR_get h1
    obtain ⟨f1, f2⟩ := wipeR_get h2
    rw [wipe_get e2] at s1
    rw [wipe_get f2] at s2
    exact r.dj i j d e k l a e1 f1 n1 n2 s1 s2
  fx := fun p hp => by
    obtain ⟨⟨k, h1⟩, ⟨d, h2⟩, h3⟩ := r.fx p hp
    have ni : p.1 ∉ vs := fun z => by rw [hO p.1 z] at h1; cases h1
    exact ⟨⟨k, h1⟩, ⟨d, by rw [wipeR_get' ni]; exact h2⟩, by rw [wipe_get ni]; exact h3⟩
  len := by rw [wipeR_len, wipe_length]; exact r.len
/-- back in the def's slots -/
theorem Rel.unwiped {K : PySem.W.Frag} {F H H0 G G0 : Hp} {fx : List (Nat × Addr)} {σ : L2.St} {ρ ρ0 : Rho} {vs : List Nat} {F0 : Hp} (r0 : Rel K F0 fx O σ H0 ρ0 G0) (r : Rel K F fx O (wipe σ vs) H (wipeR ρ vs) G) (e : ∀ a o, G0 a = some o → G a = some o) (hO : ∀ i ∈ vs, ok O i = none) :
    Rel K F fx O σ H (putBack ρ0 ρ vs) G where
  fr := r.fr
  gr := r.gr
  sh := fun i d h n => by
    by_cases hi : i ∈ vs
    · obtain ⟨v, q, p⟩ := r0.sh i d (putBack_in hi h) n
      exact ⟨v, q, dp_mono e p⟩
    · rw [putBack_out hi] at h
      obtain ⟨v, q, p⟩ := r.sh i d (by rw [wipeR_get' hi]; exact h) n
      rw [wipe_get hi] at q
      exact ⟨v, q, p⟩
  ow := fun i d k h n => by
    have hi : i ∉ vs := fun z => by rw [hO i z] at n; cases n
    rw [putBack_out hi] at h
    obtain ⟨a, q, p⟩ := r.ow i d k (by rw [wipeR_get' hi]; exact h) n
    rw [wipe_get hi] at q
    exact ⟨a, q, p⟩
  dj := fun i j d e k l a h1 h2 n1 n2 s1 s2 => by
    have hi : i ∉ vs := fun z => by rw [hO i z] at n1; cases n1
    have hj : j ∉ vs := fun z => by rw [hO j z] at n2; cases n2
    rw [putBack_out hi] at h1
    rw [putBack_out hj] at h2
    exact r.dj i j d e k l a (by rw [wipeR_get' hi]; exact h1) (by rw [wipeR_get' hj]; exact h2) n1 n2 (by rw [wipe_get hi]; exact s1) (by rw [wipe_get hj]; exact s2)
  fx := fun p hp => by
    obtain ⟨⟨k, h1⟩, ⟨d, h2⟩, h3⟩ := r.fx p hp
    have ni : p.1 ∉ vs := fun z => by rw [hO p.1 z] at h1; cases h1
    rw [wipe_get ni] at h3
    rw [wipeR_get' ni] at h2
    exact ⟨⟨k, h1⟩, ⟨d, by rw [putBack_out ni]; exact h2⟩, h3⟩
  len := by
    have l := r.len
    rw [wipeR_len, wipe_length] at l
    rw [putBack_len]
    exact l
theorem upd_sub {F : Hp} {p : Addr} {o : HO} (h : F p = none) : ∀ a u, F a = some u → upd F p o a = some u := fun a u e => by rw [upd_ne (ne_of_none e h)]; exact e
theorem upd_sub' {F : Hp} {p : Addr} {o : HO} : ∀ a, F a ≠ none → upd F p o a ≠ none := fun a n => by
  by_cases z : a = p
  · subst z; rw [upd_same]; exact fun q => nomatch q
  · rw [upd_ne z]; exact n
/-- the object put aside changes -/
theorem Rel.poke {K : PySem.W.Frag} {F H G : Hp} {fx : List (Nat × Addr)} {σ : L2.St} {ρ : Rho} {p : Addr} {o o' : HO} (r : Rel K (upd F p o) fx O σ H ρ G) (hG : G p = none) : Rel K (upd F p o') fx O σ (upd H p o') ρ G where
  fr := fun a u e => by
    by_cases z : a = p
    · subst z; rw [upd_same] at e ⊢; exact e
    · rw [upd_ne z] at e ⊢; exact r.fr a u (by rw [upd_ne z]; exact e)
  gr := fun a u e => by rw [upd_ne (ne_of_none e hG)]; exact r.gr a u e
  sh := r.sh
  ow := fun i d k e n => by
    obtain ⟨a, q, w, f, g⟩ := r.ow i d k e n
    have z : a ≠ p := fun z => by subst z; rw [upd_same] at f; cases f
    exact ⟨a, q, w.mono (fun _ _ x => x) (upd_ne z), by rw [upd_ne z] at f ⊢; exact f, g⟩
  dj := r.dj
  fx := r.fx
  len := r.len
theorem Fin.quiet {α β γ δ : Type} {K : PySem.W.Frag} {mg : Str → Option Value} {σ σ2 : L2.St} {F F2 : Hp} {R : RR β α} {S : RR δ γ} {G : Hp} {o : Out Rho α} {k : α → Rho → Out Rho γ} {Q : δ → Hp → Prop} {Q' : β → Hp → Prop}
    (h : Fin K mg P O σ F S G (o.bindN k) Q) (hF : ∀ a, F a ≠ none → F2 a ≠ none)
    (c : ∀ v H' a ρ' G', Rel K F2 P.fx O σ2 H' ρ' G' → Ext F2 G G' → R F2 σ2 ρ' H' G' v a → Fin K mg P O σ F S G' (k a ρ') Q → Q' v H') : Fin K mg P.quiet O σ2 F2 R G o Q' := by
  cases o with
  | ok a ρ' => exact fun v H' G' r e d => c v H' a ρ' G' r e d (Fin.ext (Ext.frame hF e) h)
  | exc _ _ _ => exact h.elim
  | bad => exact h.elim
theorem lc_read {g : D → Rho → Option Rho} {vs : List Nat} {Ti : Rho → Out Rho (List D)} {Tt : Rho → Out Rho Bool} {Te : Rho → Out Rho D} (hO : ∀ i ∈ vs, ok O i = none) (Xb : Cx) (hK : Xb.K = X.K) (hmg : Xb.mg = X.mg) {σ : L2.St} {H : Hp} {Q : VK}
    (h : tX X P O (rF X.K O .lst) (lcT vs Ti g Tt Te) σ H Q) : tLc (tX X P O (rW X.K) Ti) (tG Xb P.quiet O g vs) (tX Xb P.quiet O rT Tt) (tX Xb P.quiet O (rE Xb.K) Te) vs σ H Q := by
  obtain ⟨ρ, G, F, rr, h⟩ := h
  refine tX_bind' (R := rW X.K) rr h fun J H1 ds ρ1 G1 r1 e1 w1 h1 => fun D hD => ?_
  have hFD : F D = none := by
    cases e : F D with
    | none => rfl
    | some u => rw [r1.fr D u e] at hD; cases hD
  have hGD : G1 D = none := by
    cases e : G1 D with
    | none => rfl
    | some u => rw [r1.gr D u e] at hD; cases hD
  -- the list put aside
  have r2 : Rel X.K (upd F D (.lst [])) P.fx O (wipe σ vs) (upd H1 D (.lst [])) (wipeR ρ1 vs) G1 := by
    have s := (r1.wiped hO).side (o := .lst []) hD
    refine ⟨fun a u e => ?_, s.gr, s.sh, fun i d k e n => ?_, s.dj, s.fx, s.len⟩
    · by_cases z : a = D
      · subst z; rw [upd_same] at e ⊢; exact e
      · rw [upd_ne z] at e; exact s.fr a u e
    · obtain ⟨a, q, w, f, gg⟩ := s.ow i d k e n
      have ne := (r1.wiped hO).own_ne hD e n q
      exact ⟨a, q, w, by rw [upd_ne ne]; exact f, gg⟩
  have eX : ∀ {α β : Type} (R : RR β α) (T : Rho → Out Rho α), tX Xb P.quiet O R T = tX X P.quiet O R T := fun R T => by
    unfold tX
    rw [hK, hmg]
  have eG : tG Xb P.quiet O g vs = tG X P.quiet O g vs := by
    unfold tG
    rw [hK]
  rw [eX, eX, eG, hK]
  refine ⟨fun i m H' => ∃ (ρ' : Rho) (G' : Hp) (av : List V) (ad : List Z.D), m = ds.length - i ∧ i ≤ ds.length ∧ Rel X.K (upd F D (.lst av)) P.fx O (wipe σ vs) H' (wipeR ρ' vs) G' ∧ G' D = none ∧ Ext F G1 G' ∧ DpAll X.K G' av ad ∧
    Fin X.K X.mg P O σ F (rF X.K O .lst) G' ((lcLoop vs g Tt Te (ds.drop i) ad ρ').bindN fun l ρ2 => .ok (.list l) (putBack ρ1 ρ2 vs)) Q, ⟨ds.length, ρ1, G1, [], [], by simp, Nat.zero_le _, r2, hGD, Ext.refl _ _, .nil, h1⟩, ?_⟩
  rintro i m H' ⟨ρ', G', av, ad, rfl, hi, r', hG', e', hd', f'⟩
  have hH' : H' D = some (.lst av) := r'.fr D _ upd_same
  have w' := w1.mono e'.1
  by_cases hlt : i < ds.length
  · refine .inr ⟨w'.go H' i r'.gr hlt, fun H2 => ∃ m', m' < ds.length - i ∧ ∃ (ρ' : Rho) (G' : Hp) (av : List V) (ad : List Z.D), m' = ds.length - (i + 1) ∧ i + 1 ≤ ds.length ∧ Rel X.K (upd F D (.lst av)) P.fx O (wipe σ vs) H2 (wipeR ρ' vs) G' ∧ G' D = none ∧ Ext F G1 G' ∧ DpAll X.K G' av ad ∧
      Fin X.K X.mg P O σ F (rF X.K O .lst) G' ((lcLoop vs g Tt Te (ds.drop (i + 1)) ad ρ').bindN fun l ρ2 => .ok (.list l) (putBack ρ1 ρ2 vs)) Q, fun H2 h => h, fun x H2 y => ?_⟩
    obtain ⟨d, hd⟩ : ∃ d, ds[i]? = some d := ⟨ds[i], by simp [hlt]⟩
    have hdr : ds.drop i = d :: ds.drop (i + 1) := by
      rw [List.drop_eq_getElem_cons hlt]
      congr 1
      have := List.getElem?_eq_getElem hlt
      rw [this] at hd
      exact Option.some.inj hd
    rw [hdr] at f'
    unfold lcLoop at f'
    cases hg : g d (wipeR ρ' vs) with
    | none => rw [hg] at f'; exact f'.elim
    | some ρ2 =>
      rw [hg] at f'
      -- the item has come
      have came : ∃ G2, Rel X.K (upd F D (.lst av)) P.fx O (wipe σ vs) H2 (wipeR ρ' vs) G2 ∧ Ext (upd F D (.lst av)) G' G2 ∧ Dp X.K G2 x d := by
        rcases w'.yl H' i x H2 d r'.gr hd y with ⟨rfl, p⟩ | ⟨T, o, hT, rfl, p⟩
        · exact ⟨G', r', Ext.refl _ _, p⟩
        · obtain ⟨r3, e3⟩ := r'.alloc (o := o) hT
          exact ⟨_, r3, e3, p _ e3.1 upd_same⟩
      obtain ⟨G2, r3, e3, p3⟩ := came
      have subF : ∀ a, F a ≠ none → upd F D (.lst av) a ≠ none := upd_sub'
      have hG2 : G2 D = none := e3.2 D (by rw [upd_same]; exact fun q => nomatch q) hG'
      refine ⟨wipeR ρ' vs, G2, upd F D (.lst av), d, ρ2, r3, p3, hg, fun σ2 k2 l2 r4 => ?_⟩
      have ew : wipe σ2 vs = wipe σ vs := wipe_ext (by rw [l2, wipe_length]) fun j hj => by rw [k2 j hj, wipe_get hj]
      refine ⟨ew, ρ2, G2, upd F D (.lst av), r4, ?_⟩
      have f2 := Fin.ext (Ext.frame subF e3) f'
      have assoc : ∀ {α β γ : Type} (o : Out Rho α) (k : α → Rho → Out Rho β) (k2 : β → Rho → Out Rho γ), (o.bindN k).bindN k2 = o.bindN fun a s => (k a s).bindN k2 := fun o k k2 => by cases o <;> rfl
      dsimp only at f2
      rw [assoc] at f2
      refine Fin.quiet f2 subF fun b H3 b' ρ3 G3 r5 e5 eb f5 => ?_
      cases eb
      have hG3 : G3 D = none := e5.2 D (by rw [upd_same]; exact fun q => nomatch q) hG2
      cases b with
      | false =>
        rw [if_neg Bool.false_ne_true] at f5 ⊢
        have r6 := r5.wiped hO
        rw [ew] at r6
        exact ⟨_, by omega, ρ3, G3, av, ad, rfl, hlt, r6, hG3, e'.trans ((Ext.frame subF e3).trans (Ext.frame subF e5)), dpAll_mono e5.1 (dpAll_mono e3.1 hd'), f5⟩
      | true =>
        rw [if_pos rfl] at f5 ⊢
        refine ⟨ρ3, G3, upd F D (.lst av), r5, ?_⟩
        rw [assoc] at f5
        refine Fin.quiet f5 subF fun z H4 zd ρ4 G4 r7 e7 hz f7 => ?_
        have hG4 : G4 D = none := e7.2 D (by rw [upd_same]; exact fun q => nomatch q) hG3
        have hl4 : av.length = ad.length := L2.DpAll.len hd'
        by_cases hs : ad.length < sizeLine
        · rw [if_pos hs] at f7
          refine ⟨av, r7.fr D _ upd_same, by rw [hl4]; exact hs, ?_⟩
          have r8 := (r7.wiped hO).poke (o' := .lst (av ++ [z])) hG4
          rw [ew] at r8
          exact ⟨_, by omega, ρ4, G4, av ++ [z], ad ++ [zd], rfl, hlt, r8, hG4, e'.trans ((Ext.frame subF e3).trans ((Ext.frame subF e5).trans (Ext.frame subF e7))),
            (dpAll_mono e7.1 (dpAll_mono e5.1 (dpAll_mono e3.1 hd'))).append (.cons hz .nil), f7⟩
        · rw [if_neg hs] at f7; exact f7.elim
  · have ei : i = ds.length := by omega
    subst ei
    rw [List.drop_length] at f'
    refine .inl ⟨w'.st H' r'.gr, ?_⟩
    have r9 : Rel X.K F P.fx O σ H' (putBack ρ1 ρ' vs) G' := (Rel.unwiped r1 r' e'.1 hO).frame (upd_sub hFD)
    refine f' (.ref D) H' G' r9 (Ext.refl _ _) ⟨D, rfl, ⟨av, ad, rfl, hH', hd'⟩, hFD, hG', fun j e l hj ho hs => ?_⟩
    have hjv : j ∉ vs := fun z => by rw [hO j z] at ho; cases ho
    rw [putBack_out hjv] at hj
    obtain ⟨a, q, _, fa, _⟩ := r'.ow j e l (by rw [wipeR_get' hjv]; exact hj) ho
    rw [wipe_get hjv, hs] at q
    cases q
    rw [upd_same] at fa
    cases fa
theorem fx_lc {elt tg iter : Expr} {ifs : List Expr} {scope : Scope} {own : List (Str × Nat)} {pos : Pos} {Ti : Rho → Out Rho (List D)} {g : D → Rho → Option Rho} {Tt : Rho → Out Rho Bool} {Te : Rho → Out Rho D} (hc : X.calm = true) (hN : X.N.Nodup) (hi : IX X P O tg iter Ti) (ok' : BlkOk X.N X.env.scope scope own) (hO : ∀ i ∈ own.map (·.2), ok O i = none)
    (hg : ∀ (s : Shared) (H : Hp) (C : Addr) (cl : List (Str × Addr)) (fp : List Addr), GX (X.blk s H scope (compEnvC scope cl C X.env) fp) P.quiet O tg g (own.map (·.2))) (ht : ∀ (s : Shared) (H : Hp) (C : Addr) (cl : List (Str × Addr)) (fp : List Addr), TXs (X.blk s H scope (compEnvC scope cl C X.env) fp) P.quiet O ifs Tt)
    (he : ∀ (s : Shared) (H : Hp) (C : Addr) (cl : List (Str × Addr)) (fp : List Addr), EX (X.blk s H scope (compEnvC scope cl C X.env) fp) P.quiet O elt Te) (hs : ∀ x, foldedSetIterable iter X.env x = pure x := by intro _; rfl) :
    FX X P O .lst (.ListComp elt [⟨tg, iter, ifs, 0⟩] scope pos) (lcT (own.map (·.2)) Ti g Tt Te) :=
  pe_mono (pe_lc (own := own) (g := tG X P.quiet O g (List.map Prod.snd own)) (tt := tX X P.quiet O rT Tt) (te := tX X P.quiet O (rE X.K) Te) hc hN hi ok' (fun s H C cl fp => hg s H C cl fp) (fun s H C cl fp => ht s H C cl fp) (fun s H C cl fp => he s H C cl fp) hs) fun σ H Q h => lc_read hO X rfl rfl h
end
end Z

/-! file ZStmt -/
set_option Elab.async false
set_option linter.all false
set_option autoImplicit false
set_option maxRecDepth 100000
set_option maxHeartbeats 4000000
/-! statements upon trees -/
namespace Z
open PySem PySem.Spec PyProof.Rows L2

inductive Flw where
  | nx | bk | ct
  | rt (d : D)
/-- the exits of a statement: who owns at a break | continue, at an exception; whether what is returned is fresh -/
structure Lp where
  lp : Own
  ex : Own → Prop
  rk : Option OKd
def RetR (K : PySem.W.Frag) (Or : Own) (rk : Option OKd) : RR V D := match rk with
  | none => rE K
  | some k => rF K Or k
def FinS (K : PySem.W.Frag) (mg : Str → Option Value) (P : Pm) (L : Lp) (O' : Own) (F G : Hp) (o : Out Rho Flw) (E : Ends) : Prop := match o with
  | .ok .nx ρ' => ∀ σ' H' G', Rel K F P.fx O' σ' H' ρ' G' → Ext F G G' → E.nx σ' H'
  | .ok .bk ρ' => ∀ σ' H' G', Rel K F P.fx L.lp σ' H' ρ' G' → Ext F G G' → E.bk σ' H'
  | .ok .ct ρ' => ∀ σ' H' G', Rel K F P.fx L.lp σ' H' ρ' G' → Ext F G G' → E.ct σ' H'
  | .ok (.rt d) ρ' => ∀ v σ' H' G' Or, L.ex Or → Rel K F P.fx Or σ' H' ρ' G' → Ext F G G' → RetR K Or L.rk F σ' ρ' H' G' v d → E.rt v H'
  | .exc c fs ρ' => ∀ σ' cls de H' G' Ox, L.ex Ox → Rel K F P.fx Ox σ' H' ρ' G' → Ext F G G' → ExcR K mg G' c fs cls de → P.W cls de σ' H'
  | .bad => False
def tS (X : Cx) (P : Pm) (L : Lp) (O O' : Own) (T : Rho → Out Rho Flw) : TS := fun E σ H => ∃ ρ G F, Rel X.K F P.fx O σ H ρ G ∧ FinS X.K X.mg P L O' F G (T ρ) E
def SX (X : Cx) (P : Pm) (L : Lp) (O O' : Own) (st : Stmt) (T : Rho → Out Rho Flw) : Prop := PS X st (tS X P L O O' T)
def BX (X : Cx) (P : Pm) (L : Lp) (O O' : Own) (st : List Stmt) (T : Rho → Out Rho Flw) : Prop := PSs X st (tS X P L O O' T)
def sqT (Ta Tb : Rho → Out Rho Flw) : Rho → Out Rho Flw := fun ρ => match Ta ρ with
  | .ok .nx ρ1 => Tb ρ1
  | o => o
def nxT : Rho → Out Rho Flw := fun ρ => .ok .nx ρ
section
variable {X : Cx} {P : Pm} {L : Lp} {O O' O1 : Own}
theorem ps_mono {st : Stmt} {t t' : TS} (h : PS X st t) (m : ∀ E σ H, t' E σ H → t E σ H) : PS X st t' := ⟨fun pins s σ H E I q => h.run pins s σ H E I (m E σ H q)⟩
theorem pss_mono {st : List Stmt} {t t' : TS} (h : PSs X st t) (m : ∀ E σ H, t' E σ H → t E σ H) : PSs X st t' := ⟨fun pins s σ H E I q => h.run pins s σ H E I (m E σ H q)⟩
theorem FinS.ext {K : PySem.W.Frag} {mg : Str → Option Value} {F G G' : Hp} {o : Out Rho Flw} {E : Ends} (e : Ext F G G') (h : FinS K mg P L O' F G o E) : FinS K mg P L O' F G' o E := by
  cases o with
  | ok f ρ' =>
    cases f with
    | nx => exact fun σ' H' G2 r e2 => h σ' H' G2 r (e.trans e2)
    | bk => exact fun σ' H' G2 r e2 => h σ' H' G2 r (e.trans e2)
    | ct => exact fun σ' H' G2 r e2 => h σ' H' G2 r (e.trans e2)
    | rt d => exact fun v σ' H' G2 Or hx r e2 => h v σ' H' G2 Or hx r (e.trans e2)
  | exc c fs ρ' => exact fun σ' cls de H' G2 Ox hx r e2 => h σ' cls de H' G2 Ox hx r (e.trans e2)
  | bad => exact h
/-- an expression within a statement -/
theorem FinS.ofE {α β : Type} {K : PySem.W.Frag} {mg : Str → Option Value} {F G : Hp} {σ : L2.St} {R : RR β α} {o : Out Rho α} {k : α → Rho → Out Rho Flw} {E : Ends} (hex : L.ex O) (h : FinS K mg P L O' F G (o.bind k) E) :
    Fin K mg P O σ F R G o (fun v H' => ∃ a ρ' G', Rel K F P.fx O σ H' ρ' G' ∧ Ext F G G' ∧ R F σ ρ' H' G' v a ∧ FinS K mg P L O' F G' (k a ρ') E) := by
  cases o with
  | ok a ρ' => exact fun v H' G2 r e2 d => ⟨a, ρ', G2, r, e2, d, FinS.ext e2 h⟩
  | exc c fs ρ' => exact fun cls de H' G2 r e2 q => h σ cls de H' G2 O hex r e2 q
  | bad => exact h
theorem tX_stmt {α β : Type} {R : RR β α} {T : Rho → Out Rho α} {k : α → Rho → Out Rho Flw} {σ : L2.St} {H : Hp} {E : Ends} {Q' : β → Hp → Prop} (hex : L.ex O) (h : tS X P L O O' (fun ρ => (T ρ).bind k) E σ H)
    (c : ∀ v H' a ρ' G' F, Rel X.K F P.fx O σ H' ρ' G' → R F σ ρ' H' G' v a → FinS X.K X.mg P L O' F G' (k a ρ') E → Q' v H') : tX X P O R T σ H Q' := by
  obtain ⟨ρ, G, F, r, h⟩ := h
  refine ⟨ρ, G, F, r, ?_⟩
  exact Fin.imp (FinS.ofE (R := R) hex h) fun v H' ⟨a, ρ', G', r', e, d, f⟩ => c v H' a ρ' G' F r' d f

/-! ### blocks -/
theorem bx_nil : BX X P L O O [] nxT := pss_mono pss_nil fun E σ H ⟨ρ, G, F, r, h⟩ => h σ H G r (Ext.refl _ _)
theorem bx_cons {st : Stmt} {rest : List Stmt} {Ta Tb : Rho → Out Rho Flw} (h1 : SX X P L O O1 st Ta) (h2 : BX X P L O1 O' rest Tb) : BX X P L O O' (st :: rest) (sqT Ta Tb) := by
  refine pss_mono (pss_cons h1 h2) fun E σ H ⟨ρ, G, F, r, h⟩ => ⟨ρ, G, F, r, ?_⟩
  unfold sqT at h
  cases z : Ta ρ with
  | ok f ρ1 =>
    rw [z] at h
    cases f with
    | nx => exact fun σ' H' G' r' e' => ⟨ρ1, G', F, r', FinS.ext e' h⟩
    | bk => exact h
    | ct => exact h
    | rt d => exact h
  | exc c fs ρ1 => rw [z] at h; exact h
  | bad => rw [z] at h; exact h
theorem bx_one {st : Stmt} {T : Rho → Out Rho Flw} (h1 : SX X P L O O' st T) : BX X P L O O' [st] T := pss_one h1
theorem sx_bad {st : Stmt} : SX X P L O O' st badT := ⟨fun _ _ _ _ _ _ ⟨_, _, _, _, f⟩ => f.elim⟩
theorem bx_bad {st : List Stmt} : BX X P L O O' st badT := ⟨fun _ _ _ _ _ _ ⟨_, _, _, _, f⟩ => f.elim⟩
theorem sx_pass {pos : Pos} : SX X P L O O (.Pass pos) nxT := ps_mono ps_pass fun E σ H ⟨ρ, G, F, r, h⟩ => h σ H G r (Ext.refl _ _)
def bkT : Rho → Out Rho Flw := fun ρ => .ok .bk ρ
def ctT : Rho → Out Rho Flw := fun ρ => .ok .ct ρ
theorem sx_break {pos : Pos} (hl : L.lp = O := by rfl) : SX X P L O O' (.Break pos) bkT := ps_mono ps_break fun E σ H ⟨ρ, G, F, r, h⟩ => h σ H G (hl ▸ r) (Ext.refl _ _)
theorem sx_continue {pos : Pos} (hl : L.lp = O := by rfl) : SX X P L O O' (.Continue pos) ctT := ps_mono ps_continue fun E σ H ⟨ρ, G, F, r, h⟩ => h σ H G (hl ▸ r) (Ext.refl _ _)
/-- a list is given away ahead of a statement -/
theorem tS_freeze {T : Rho → Out Rho Flw} {i : Nat} (hO : i < O.length) (hfx : (P.fx.map (·.1)).contains i = false) (hk : ok O i = some .lst) {E : Ends} {σ : L2.St} {H : Hp} (h : tS X P L O O' T E σ H) : tS X P L (O.set i none) O' T E σ H := by
  obtain ⟨ρ, G, F, r, h⟩ := h
  have hfx' : ∀ p ∈ P.fx, p.1 ≠ i := fun p hp z => by
    have : (P.fx.map (·.1)).contains i = true := by
      rw [List.contains_iff_mem]
      exact List.mem_map.mpr ⟨p, hp, z⟩
    rw [hfx] at this; cases this
  obtain ⟨G', r', e'⟩ := r.freeze hO hfx' (fun k q => by rw [hk] at q; cases q; rfl)
  exact ⟨ρ, G', F, r', FinS.ext e' h⟩
theorem sx_freeze (i : Nat) {st : Stmt} {T : Rho → Out Rho Flw} (h : SX X P L O1 O' st T) (hO1 : O1 = O.set i none := by rfl) (hO : i < O.length := by exact Nat.le_of_ble_eq_true rfl) (hfx : (P.fx.map (·.1)).contains i = false := by rfl) (hk : ok O i = some .lst := by rfl) : SX X P L O O' st T := by
  subst hO1
  exact ps_mono h fun E σ H q => tS_freeze hO hfx hk q
theorem bx_freeze (i : Nat) {st : List Stmt} {T : Rho → Out Rho Flw} (h : BX X P L O1 O' st T) (hO1 : O1 = O.set i none := by rfl) (hO : i < O.length := by exact Nat.le_of_ble_eq_true rfl) (hfx : (P.fx.map (·.1)).contains i = false := by rfl) (hk : ok O i = some .lst := by rfl) : BX X P L O O' st T := by
  subst hO1
  exact pss_mono h fun E σ H q => tS_freeze hO hfx hk q

/-! ### if -/
theorem sx_if {c : Expr} {a b : List Stmt} {Tc : Rho → Out Rho Bool} {Ta Tb : Rho → Out Rho Flw} {pos : Pos} (hc : TX X P O c Tc) (ha : BX X P L O O' a Ta) (hb : BX X P L O O' b Tb) (hex : L.ex O) : SX X P L O O' (.If c a b pos) (ifT Tc Ta Tb) := by
  refine ps_mono (ps_if hc ha hb) fun E σ H h => ?_
  refine tX_stmt (R := rT) hex h fun v H' a ρ' G' F r e f => ?_
  cases e
  cases v with
  | true => exact ⟨ρ', G', F, r, f⟩
  | false => exact ⟨ρ', G', F, r, f⟩

/-! ### assignments -/
theorem hfx_of {fx : List (Nat × Addr)} {i : Nat} (hfx : (fx.map (·.1)).contains i = false) : ∀ p ∈ fx, p.1 ≠ i := fun p hp z => by
  have : (fx.map (·.1)).contains i = true := by
    rw [List.contains_iff_mem]
    exact List.mem_map.mpr ⟨p, hp, z⟩
  rw [hfx] at this; cases this
/-- a slot, whoever owned it, gets a tree -/
theorem Rel.setAny {K : PySem.W.Frag} {F H G : Hp} {fx : List (Nat × Addr)} {σ : L2.St} {ρ : Rho} (r : Rel K F fx O σ H ρ G) {i : Nat} {v : V} {d : D} (hO : i < O.length) (hfx : ∀ p ∈ fx, p.1 ≠ i) (h : Dp K G v d) : Rel K F fx (O.set i none) (σ.set i (some v)) H (ρ.set i (some d)) G where
  fr := r.fr
  gr := r.gr
  sh := fun j e q n => by
    rw [ok_set hO] at n
    by_cases z : i = j
    · subst z
      have hl : i < ρ.length := by
        have := (List.getElem?_eq_some_iff.mp q).1
        simpa using this
      rw [List.getElem?_set_self hl] at q
      cases q
      exact ⟨v, by rw [List.getElem?_set_self (by rw [← r.len]; exact hl)], h⟩
    · rw [if_neg z] at n
      rw [List.getElem?_set_ne z] at q ⊢
      exact r.sh j e q n
  ow := fun j e k q n => by
    rw [ok_set hO] at n
    by_cases z : i = j
    · rw [if_pos z] at n; cases n
    · rw [if_neg z] at n
      rw [List.getElem?_set_ne z] at q ⊢
      exact r.ow j e k q n
  dj := fun j j' e e' k k' a q q' n n' s s' => by
    rw [ok_set hO] at n n'
    by_cases z : i = j
    · rw [if_pos z] at n; cases n
    · by_cases z' : i = j'
      · rw [if_pos z'] at n'; cases n'
      · rw [if_neg z] at n
        rw [if_neg z'] at n'
        rw [List.getElem?_set_ne z] at q s
        rw [List.getElem?_set_ne z'] at q' s'
        exact r.dj j j' e e' k k' a q q' n n' s s'
  fx := fun p hp => by
    obtain ⟨⟨k, e⟩, ⟨d', q'⟩, q⟩ := r.fx p hp
    have z : i ≠ p.1 := fun z => hfx p hp z.symm
    exact ⟨⟨k, by rw [ok_set hO, if_neg z]; exact e⟩, ⟨d', by rw [List.getElem?_set_ne z]; exact q'⟩, by rw [List.getElem?_set_ne z]; exact q⟩
  len := by rw [List.length_set, List.length_set]; exact r.len
def asgT (i : Nat) (T : Rho → Out Rho D) : Rho → Out Rho Flw := fun ρ => (T ρ).bind fun d ρ1 => .ok .nx (ρ1.set i (some d))
/-- name = e -/
theorem sx_set (i : Nat) {x : Str} {e : Expr} {T : Rho → Out Rho D} {pos pos' : Pos} (hN : X.N.Nodup) (he : EX X P O e T) (hex : L.ex O) (hO' : O' = O.set i none := by rfl) (hO : i < O.length := by exact Nat.le_of_ble_eq_true rfl) (hfx : (P.fx.map (·.1)).contains i = false := by rfl) (hi : X.N[i]? = some x := by rfl) (hx : Loc X.env.scope x := by first | exact Or.inl rfl | exact Or.inr rfl)
    (hs : swapsWith e (some (.Name x pos')) pos.line X.env = pure false := by rfl) (hf : X.fn x = true ∨ X.env.scope.names.lookup x = some .local := by first | exact .inl rfl | exact .inr rfl) : SX X P L O O' (.Assign [.Name x pos'] e pos) (asgT i T) := by
  subst hO'
  refine ps_mono (ps_set hN hi hx he hs hf) fun E σ H h => ?_
  exact tX_stmt (R := rE X.K) hex h fun v H' a ρ' G' F r e f => f _ H' G' (r.setAny hO (hfx_of hfx) e) (Ext.refl _ _)
/-- name = a fresh object -/
theorem sx_own (i : Nat) {x : Str} {e : Expr} {k : OKd} {T : Rho → Out Rho D} {pos pos' : Pos} (hN : X.N.Nodup) (he : FX X P O k e T) (hex : L.ex O) (hO' : O' = O.set i (some k) := by rfl) (hO : i < O.length := by exact Nat.le_of_ble_eq_true rfl) (hfx : (P.fx.map (·.1)).contains i = false := by rfl) (hi : X.N[i]? = some x := by rfl) (hx : Loc X.env.scope x := by first | exact Or.inl rfl | exact Or.inr rfl)
    (hs : swapsWith e (some (.Name x pos')) pos.line X.env = pure false := by rfl) (hf : X.fn x = true ∨ X.env.scope.names.lookup x = some .local := by first | exact .inl rfl | exact .inr rfl) : SX X P L O O' (.Assign [.Name x pos'] e pos) (asgT i T) := by
  subst hO'
  refine ps_mono (ps_set hN hi hx he hs hf) fun E σ H h => ?_
  refine tX_stmt (R := rF X.K O k) hex h fun v H' a ρ' G' F r e f => ?_
  obtain ⟨p, rfl, w, hF, hG, hn⟩ := e
  exact f _ H' G' (r.setOwn hO (hfx_of hfx) w hF hG fun j e l _ h1 h2 => hn j e l h1 h2) (Ext.refl _ _)
/-- name = [..], a comprehension on one line -/
theorem sx_lc (i : Nat) {y : Str} {py : Pos} {elt tg iter : Expr} {ifs : List Expr} {scope : Scope} {own : List (Str × Nat)} {pos spos : Pos} {Ti : Rho → Out Rho (List D)} {g : D → Rho → Option Rho} {Tt : Rho → Out Rho Bool} {Te : Rho → Out Rho D} (hc : X.calm = true) (hN : X.N.Nodup) (hex : L.ex O)
    (hi : IX X P O tg iter Ti) (ok' : BlkOk X.N X.env.scope scope own) (hOv : ∀ i ∈ own.map (·.2), ok O i = none)
    (hg : ∀ (s : Shared) (H : Hp) (C : Addr) (cl : List (Str × Addr)) (fp : List Addr), GX (X.blk s H scope (compEnvC scope cl C X.env) fp) P.quiet O tg g (own.map (·.2))) (ht : ∀ (s : Shared) (H : Hp) (C : Addr) (cl : List (Str × Addr)) (fp : List Addr), TXs (X.blk s H scope (compEnvC scope cl C X.env) fp) P.quiet O ifs Tt)
    (he : ∀ (s : Shared) (H : Hp) (C : Addr) (cl : List (Str × Addr)) (fp : List Addr), EX (X.blk s H scope (compEnvC scope cl C X.env) fp) P.quiet O elt Te)
    (hO' : O' = O.set i (some .lst) := by rfl) (hO : i < O.length := by exact Nat.le_of_ble_eq_true rfl) (hfx : (P.fx.map (·.1)).contains i = false := by rfl) (hy : X.N[i]? = some y := by rfl) (hyl : X.env.scope.names.lookup y = some .local := by rfl)
    (hsw : swapsWith (.ListComp elt [⟨tg, iter, ifs, 0⟩] scope pos) (some (.Name y py)) spos.line X.env = pure true := by exact sw_true rfl rfl rfl (by decide +kernel)) (hs : ∀ x, foldedSetIterable iter X.env x = pure x := by intro _; rfl) :
    SX X P L O O' (.Assign [.Name y py] (.ListComp elt [⟨tg, iter, ifs, 0⟩] scope pos) spos) (asgT i (lcT (own.map (·.2)) Ti g Tt Te)) := by
  subst hO'
  have h0 := ps_setLc (own := own) (g := tG X P.quiet O g (List.map Prod.snd own)) (tt := tX X P.quiet O rT Tt) (te := tX X P.quiet O (rE X.K) Te) hc hN hy hyl hsw hi ok' (fun s H C cl fp => hg s H C cl fp) (fun s H C cl fp => ht s H C cl fp) (fun s H C cl fp => he s H C cl fp) hs
  refine ps_mono h0 fun E σ H h => ?_
  refine lc_read (vs := own.map (·.2)) hOv X rfl rfl ?_
  refine tX_stmt (R := rF X.K O .lst) hex h fun v H' a ρ' G' F r e f => ?_
  obtain ⟨p, rfl, w, hF, hG, hn⟩ := e
  exact f _ H' G' (r.setOwn hO (hfx_of hfx) w hF hG fun j e l _ h1 h2 => hn j e l h1 h2) (Ext.refl _ _)
def tgtT (g : D → Rho → Option Rho) (T : Rho → Out Rho D) : Rho → Out Rho Flw := fun ρ => (T ρ).bind fun d ρ1 => match g d ρ1 with
  | some ρ2 => .ok .nx ρ2
  | none => .bad
/-- targets = e -/
theorem sx_tgt {tg e : Expr} {T : Rho → Out Rho D} {g : D → Rho → Option Rho} {is : List Nat} {pos : Pos} (he : EX X P O e T) (hg : GX X P O tg g is) (hex : L.ex O) (hs : swapsWithSole [tg] e pos.line X.env = pure false := by rfl) (hw : swappedStores [tg] e X.env = pure none := by rfl)
    (h1 : (assignEach [tg] X.env).map (·.2) = [assign tg X.env] := by rfl) : SX X P L O O (.Assign [tg] e pos) (tgtT g T) := by
  refine ps_mono (ps_asg he hg hs hw h1) fun E σ H h => ?_
  refine tX_stmt (R := rE X.K) hex h fun v H' a ρ' G' F r e f => ?_
  cases z : g a ρ' with
  | none => rw [z] at f; exact f.elim
  | some ρ2 =>
    rw [z] at f
    exact ⟨ρ', G', F, a, ρ2, r, e, z, fun σ' _ _ r' => f σ' H' G' r' (Ext.refl _ _)⟩

/-! ### return, expressions -/
def retT (T : Rho → Out Rho D) : Rho → Out Rho Flw := fun ρ => (T ρ).bind fun d ρ1 => .ok (.rt d) ρ1
theorem sx_ret {e : Expr} {T : Rho → Out Rho D} {pos : Pos} (he : EX X P O e T) (hex : L.ex O) (hr : L.rk = none := by rfl) : SX X P L O O' (.Return (some e) pos) (retT T) := by
  refine ps_mono (ps_ret he) fun E σ H h => ?_
  refine tX_stmt (R := rE X.K) hex h fun v H' a ρ' G' F r e f => f v σ H' G' O hex r (Ext.refl _ _) ?_
  rw [hr]; exact e
theorem sx_retF {e : Expr} {k : OKd} {T : Rho → Out Rho D} {pos : Pos} (he : FX X P O k e T) (hex : L.ex O) (hr : L.rk = some k := by rfl) : SX X P L O O' (.Return (some e) pos) (retT T) := by
  refine ps_mono (ps_ret he) fun E σ H h => ?_
  refine tX_stmt (R := rF X.K O k) hex h fun v H' a ρ' G' F r e f => f v σ H' G' O hex r (Ext.refl _ _) ?_
  rw [hr]; exact e
theorem sx_retN {pos : Pos} (hex : L.ex O) (hr : L.rk = none := by rfl) : SX X P L O O' (.Return none pos) (fun ρ => .ok (.rt .none) ρ) :=
  ps_mono ps_retN fun E σ H ⟨ρ, G, F, r, h⟩ => h .non σ H G O hex r (Ext.refl _ _) (by rw [hr]; exact .non)
def dropT (T : Rho → Out Rho D) : Rho → Out Rho Flw := fun ρ => (T ρ).bind fun _ ρ1 => .ok .nx ρ1
theorem sx_expr {e : Expr} {T : Rho → Out Rho D} {pos : Pos} (he : EX X P O e T) (hex : L.ex O) (hs : swapsWith e none pos.line X.env = pure false := by rfl) : SX X P L O O (.Expr e pos) (dropT T) := by
  refine ps_mono (ps_expr he hs) fun E σ H h => ?_
  exact tX_stmt (R := rE X.K) hex h fun v H' a ρ' G' F r e f => f σ H' G' r (Ext.refl _ _)

/-! ### loops -/
/-- behind a turn -/
def loopK (o : Out Rho Flw) (k : Rho → Out Rho Flw) : Out Rho Flw := match o with
  | .ok .nx ρ => k ρ
  | .ok .ct ρ => k ρ
  | .ok .bk ρ => .ok .nx ρ
  | .ok (.rt d) ρ => .ok (.rt d) ρ
  | .exc c fs ρ => .exc c fs ρ
  | .bad => .bad
def forT (g : D → Rho → Option Rho) (b : Rho → Out Rho Flw) : List D → Rho → Out Rho Flw
  | [], ρ => .ok .nx ρ
  | d :: ds, ρ => match g d ρ with
    | none => .bad
    | some ρ1 => loopK (b ρ1) (forT g b ds)
def forS (Ti : Rho → Out Rho (List D)) (g : D → Rho → Option Rho) (b : Rho → Out Rho Flw) : Rho → Out Rho Flw := fun ρ => (Ti ρ).bind fun ds ρ1 => forT g b ds ρ1
def Lp.inLoop (L : Lp) (O : Own) : Lp := ⟨O, L.ex, L.rk⟩
theorem FinS.loop {K : PySem.W.Frag} {mg : Str → Option Value} {F G : Hp} {o : Out Rho Flw} {k : Rho → Out Rho Flw} {E : Ends} {N : L2.St → Hp → Prop} (h : FinS K mg P L O F G (loopK o k) E)
    (hN : ∀ ρ' σ' H' G', Rel K F P.fx O σ' H' ρ' G' → Ext F G G' → FinS K mg P L O F G' (k ρ') E → N σ' H') : FinS K mg P (L.inLoop O) O F G o { E with nx := N, ct := N, bk := E.nx } := by
  cases o with
  | ok f ρ' =>
    cases f with
    | nx => exact fun σ' H' G2 r e => hN ρ' σ' H' G2 r e (FinS.ext e h)
    | ct => exact fun σ' H' G2 r e => hN ρ' σ' H' G2 r e (FinS.ext e h)
    | bk => exact h
    | rt d => exact h
  | exc c fs ρ' => exact h
  | bad => exact h
theorem sx_for {tg iter : Expr} {body : List Stmt} {Ti : Rho → Out Rho (List D)} {g : D → Rho → Option Rho} {is : List Nat} {Tb : Rho → Out Rho Flw} {pos : Pos} (hp : PassesOwn (model X.prog X.w) X.A X.env X.xe) (hc : X.calm = true) (hi : IX X P O tg iter Ti) (hg : GX X P O tg g is) (hb : BX X P (L.inLoop O) O O body Tb) (hex : L.ex O)
    (hs : ∀ x, foldedSetIterable iter X.env x = pure x := by intro _; rfl) : SX X P L O O (.For tg iter body [] pos) (forS Ti g Tb) := by
  refine ps_mono (ps_for hp hc hi hg hb hs) fun E σ H h => ?_
  refine tX_stmt (R := rW X.K) hex h fun J H1 ds ρ1 G1 F r1 w1 f1 => ?_
  refine ⟨fun i m σ H => ∃ ρ G, m = ds.length - i ∧ i ≤ ds.length ∧ Rel X.K F P.fx O σ H ρ G ∧ Ext F G1 G ∧ FinS X.K X.mg P L O F G (forT g Tb (ds.drop i) ρ) E, ⟨ds.length, ρ1, G1, by simp, Nat.zero_le _, r1, Ext.refl _ _, f1⟩, ?_⟩
  rintro i m σ2 H2 ⟨ρ, G, rfl, hi', r, e, f⟩
  have w := w1.mono e.1
  by_cases hlt : i < ds.length
  · refine .inr ⟨w.go H2 i r.gr hlt, fun σ' H' => ∃ m', m' < ds.length - i ∧ ∃ ρ G, m' = ds.length - (i + 1) ∧ i + 1 ≤ ds.length ∧ Rel X.K F P.fx O σ' H' ρ G ∧ Ext F G1 G ∧ FinS X.K X.mg P L O F G (forT g Tb (ds.drop (i + 1)) ρ) E, fun _ _ h => h, fun x H3 y => ?_⟩
    obtain ⟨d, hd⟩ : ∃ d, ds[i]? = some d := ⟨ds[i], by simp [hlt]⟩
    have hdr : ds.drop i = d :: ds.drop (i + 1) := by
      rw [List.drop_eq_getElem_cons hlt]
      congr 1
      have := List.getElem?_eq_getElem hlt
      rw [this] at hd
      exact Option.some.inj hd
    rw [hdr] at f
    unfold forT at f
    cases hg' : g d ρ with
    | none => rw [hg'] at f; exact f.elim
    | some ρ2 =>
      rw [hg'] at f
      have came : ∃ G2, Rel X.K F P.fx O σ2 H3 ρ G2 ∧ Ext F G G2 ∧ Dp X.K G2 x d := by
        rcases w.yl H2 i x H3 d r.gr hd y with ⟨rfl, p⟩ | ⟨T, o, hT, rfl, p⟩
        · exact ⟨G, r, Ext.refl _ _, p⟩
        · obtain ⟨r3, e3⟩ := r.alloc (o := o) hT
          exact ⟨_, r3, e3, p _ e3.1 upd_same⟩
      obtain ⟨G2, r3, e3, p3⟩ := came
      refine ⟨ρ, G2, F, d, ρ2, r3, p3, hg', fun σ3 _ _ r4 => ⟨ρ2, G2, F, r4, ?_⟩⟩
      refine FinS.loop (FinS.ext e3 f) fun ρ4 σ4 H4 G4 r5 e5 f5 => ?_
      exact ⟨_, by omega, ρ4, G4, rfl, hlt, r5, e.trans (e3.trans e5), f5⟩
  · have ei : i = ds.length := by omega
    subst ei
    rw [List.drop_length] at f
    exact .inl ⟨w.st H2 r.gr, f σ2 H2 G r (Ext.refl _ _)⟩
def whT (tc : Rho → Out Rho Bool) (tb : Rho → Out Rho Flw) : Nat → Rho → Out Rho Flw
  | 0, _ => .bad
  | n + 1, ρ => (tc ρ).bind fun b ρ1 => if b = true then loopK (tb ρ1) (whT tc tb n) else .ok .nx ρ1
theorem sx_while (n : Nat) {c : Expr} {body : List Stmt} {Tc : Rho → Out Rho Bool} {Tb : Rho → Out Rho Flw} {pos : Pos} (hp : PassesOwn (model X.prog X.w) X.A X.env X.xe) (hc : TX X P O c Tc) (hb : BX X P (L.inLoop O) O O body Tb) (hex : L.ex O) : SX X P L O O (.While c body [] pos) (whT Tc Tb n) := by
  refine ps_mono (ps_while hp hc hb) fun E σ H ⟨ρ, G, F, r, f⟩ => ?_
  refine ⟨fun m σ H => ∃ ρ' G', Rel X.K F P.fx O σ H ρ' G' ∧ Ext F G G' ∧ FinS X.K X.mg P L O F G' (whT Tc Tb m ρ') E, ⟨n, ρ, G, r, Ext.refl _ _, f⟩, ?_⟩
  rintro m σ2 H2 ⟨ρ2, G2, r2, e2, f2⟩
  cases m with
  | zero => exact f2.elim
  | succ m =>
    unfold whT at f2
    refine ⟨ρ2, G2, F, r2, Fin.imp (FinS.ofE (R := rT) hex f2) fun v H' ⟨a, ρ', G', r3, e3, d, f3⟩ => ?_⟩
    cases d
    cases v with
    | true =>
      rw [if_pos rfl] at f3
      refine ⟨fun σ' H' => ∃ ρ4 G4, Rel X.K F P.fx O σ' H' ρ4 G4 ∧ Ext F G G4 ∧ FinS X.K X.mg P L O F G4 (whT Tc Tb m ρ4) E, fun σ' H' ⟨ρ4, G4, h1, h2, h3⟩ => ⟨m, Nat.lt_succ_self m, ρ4, G4, h1, h2, h3⟩, ρ', G', F, r3, FinS.loop f3 fun ρ4 σ4 H4 G4 r5 e5 f5 => ?_⟩
      exact ⟨ρ4, G4, r5, e2.trans (e3.trans e5), f5⟩
    | false =>
      rw [if_neg (by decide)] at f3
      exact f3 σ2 H' G' r3 (Ext.refl _ _)
end
end Z

/-! file ZOwn -/
set_option Elab.async false
set_option linter.all false
set_option autoImplicit false
set_option maxRecDepth 100000
set_option maxHeartbeats 4000000
/-! reads and writes of owned lists, chains, isinstance, sums, parallel stores -/
namespace Z
open PySem PySem.Spec PyProof.Rows L2

/-- the tree in a slot -/
def getS (i : Nat) (ρ : Rho) : Option D := (ρ[i]?).join
theorem getS_some {i : Nat} {ρ : Rho} {d : D} (h : getS i ρ = some d) : ρ[i]? = some (some d) := by
  unfold getS at h
  cases e : ρ[i]? with
  | none => rw [e] at h; cases h
  | some u => rw [e] at h; exact congrArg some h
section
variable {X : Cx} {P : Pm} {L : Lp} {O O' O1 : Own}
theorem Rel.list {K : PySem.W.Frag} {F H G : Hp} {fx : List (Nat × Addr)} {σ : L2.St} {ρ : Rho} (r : Rel K F fx O σ H ρ G) {i : Nat} {d : D} {v : V} (h : getS i ρ = some d) (n : ok O i = some .lst) (q : σ[i]? = some (some v)) :
    ∃ a xs ds, v = .ref a ∧ d = .list ds ∧ H a = some (.lst xs) ∧ DpAll K G xs ds ∧ Dp K H v d := by
  obtain ⟨a, q', ⟨xs, ds, e, hH, hd⟩, _, _⟩ := r.ow i d .lst (getS_some h) n
  rw [q] at q'
  injection q' with q1
  injection q1 with q2
  subst q2
  subst e
  exact ⟨a, xs, ds, rfl, rfl, hH, hd, .lst (SqL.of hH) (dpAll_mono r.gr hd)⟩
theorem Rel.bound {K : PySem.W.Frag} {F H G : Hp} {fx : List (Nat × Addr)} {σ : L2.St} {ρ : Rho} {k : OKd} (r : Rel K F fx O σ H ρ G) {i : Nat} {d : D} (h : getS i ρ = some d) (n : ok O i = some k) : ∃ a, σ[i]? = some (some (.ref a)) := by
  obtain ⟨a, q, _⟩ := r.ow i d k (getS_some h) n
  exact ⟨a, q⟩
/-! ### an owned list on the left -/
def binO (i : Nat) (g : D → D → Option D) (Tb : Rho → Out Rho D) : Rho → Out Rho D := fun ρ => match getS i ρ with
  | none => .bad
  | some _ => (Tb ρ).bind fun e ρ2 => match getS i ρ2 with
    | none => .bad
    | some d => .of (g d e) ρ2
theorem tX_binO {i : Nat} {r : R2} {g : D → D → Option D} {Tb : Rho → Out Rho D} {σ : L2.St} {H : Hp} {Q : VK} (n : ok O i = some .lst)
    (hs : ∀ {H : Hp} {ρ : Rho} {G F : Hp} {a : Addr} {xs : List V} {ds : List D} {y : V} {e f : D}, Rel X.K F P.fx O σ H ρ G → H a = some (.lst xs) → DpAll X.K G xs ds → Dp X.K H (.ref a) (.list ds) → Dp X.K G y e → g (.list ds) e = some f →
      (∀ v H' G', Rel X.K F P.fx O σ H' ρ G' → Ext F G G' → Dp X.K G' v f → Q v H') → r (.ref a) y H Q)
    (h : tX X P O (rE X.K) (binO i g Tb) σ H Q) : tOp r (tVar i) (tX X P O (rE X.K) Tb) σ H Q := by
  obtain ⟨ρ, G, F, rr, h⟩ := h
  unfold binO at h
  cases z : getS i ρ with
  | none => rw [z] at h; exact h.elim
  | some d0 =>
    rw [z] at h
    obtain ⟨a, qa⟩ := rr.bound z n
    refine ⟨.ref a, qa, ?_⟩
    refine tX_bind' (R := rE X.K) rr h fun y H2 e ρ2 G2 r2 e2 p2 h2 => ?_
    cases z2 : getS i ρ2 with
    | none => rw [z2] at h2; exact h2.elim
    | some d =>
      simp only [z2] at h2
      obtain ⟨a', xs, ds, ea, rfl, hH, hd, hp⟩ := r2.list z2 n qa
      cases ea
      cases z3 : g (.list ds) e with
      | none => rw [z3] at h2; exact h2.elim
      | some f =>
        rw [z3] at h2
        exact hs r2 hH hd hp p2 z3 h2
theorem ex_cmpO (i : Nat) {op : CmpOp} {g : D → D → Option D} (ho : OpR X (compareOp op) (rD X.K g)) (hg : ∀ d e f, g d e = some f → ∃ v, flatD f = some v) {x : Str} {b : Expr} {Tb : Rho → Out Rho D} {p pos : Pos} (hb : EX X P O b Tb) (hm : behindInMarks op b = false)
    (n : ok O i = some .lst := by rfl) (hN : X.N[i]? = some x := by rfl) (hv : Vis X.env.scope x := by first | exact Or.inl rfl | exact Or.inr (Or.inl rfl) | exact Or.inr (Or.inr rfl)) (hd : (x == ("__debug__" : Str)) = false := by decide) (hcd : (x == ("__classdict__" : Str)) = false := by decide) :
    EX X P O (.Compare (.Name x p) [op] [b] pos) (binO i g Tb) :=
  pe_mono (pe_cmpR ho (pe_var hN hv hd hcd) hb hm) fun σ H Q h => tX_binO n (fun {H ρ G F a xs ds y e f} r _ _ hx hy hf h => by
    obtain ⟨v, hv⟩ := hg _ e f hf
    exact ⟨_, e, f, v, hx, dp_mono r.gr hy, hf, hv, h v H G r (Ext.refl _ _) (flat_dp hv)⟩) h
theorem ex_ixO (i : Nat) {x : Str} {b : Expr} {Tb : Rho → Out Rho D} {p pos : Pos} (hb : EX X P O b Tb) (hs : PlainIx b := by exact fun _ _ => rfl)
    (n : ok O i = some .lst := by rfl) (hN : X.N[i]? = some x := by rfl) (hv : Vis X.env.scope x := by first | exact Or.inl rfl | exact Or.inr (Or.inl rfl) | exact Or.inr (Or.inr rfl)) (hd : (x == ("__debug__" : Str)) = false := by decide) (hcd : (x == ("__classdict__" : Str)) = false := by decide) :
    EX X P O (.Subscript (.Name x p) b pos) (binO i idxD Tb) :=
  pe_mono (pe_ix ix_list (pe_var hN hv hd hcd) hb hs) fun σ H Q h => tX_binO n (fun {H ρ G F a xs ds y e f} r hH hd hx hy hf h => by
    unfold idxD at hf
    cases e with
    | int j =>
      cases hy
      obtain ⟨v, h1, h2⟩ := atI_dp hd (show atI ds j = some f from hf)
      exact ⟨_, _, _, v, rfl, rfl, SqL.of hH, h1, h v H G r (Ext.refl _ _) h2⟩
    | _ => cases hf) h
/-- a built-in on one owned list -/
def callO (i : Nat) (g : List D → Option D) : Rho → Out Rho D := fun ρ => match getS i ρ with
  | none => .bad
  | some d => .of (g [d]) ρ
theorem ax_own1 (i : Nat) {x : Str} {p : Pos} (hN : X.N[i]? = some x := by rfl) (hv : Vis X.env.scope x := by first | exact Or.inl rfl | exact Or.inr (Or.inl rfl) | exact Or.inr (Or.inr rfl)) (hd : (x == ("__debug__" : Str)) = false := by decide) (hcd : (x == ("__classdict__" : Str)) = false := by decide)
    (hs : starEach [.Name x p] X.env = (false, eval (.Name x p) X.env) :: starEach [] X.env := by rfl) : PA X [.Name x p] (tCons (tVar i) tNil) := pa_cons (pe_var hN hv hd hcd) pa_nil hs
theorem ex_callO (i : Nat) {id : String} {r : List V → Hp → VK → Prop} {g : List D → Option D} (hc : CallR X (.builtin id) r)
    (hsem : ∀ {σ : L2.St} {H : Hp} {ρ : Rho} {G F : Hp} {a : Addr} {xs : List V} {ds : List D} {f : D} {Q : VK}, Rel X.K F P.fx O σ H ρ G → H a = some (.lst xs) → DpAll X.K G xs ds → Dp X.K H (.ref a) (.list ds) → g [.list ds] = some f →
      (∀ v H' G', Rel X.K F P.fx O σ H' ρ G' → Ext F G G' → Dp X.K G' v f → Q v H') → r [.ref a] H Q) {x y : Str} {p p2 pos : Pos} (hm : X.mg x = none) (hv : bootBuiltins x = some (.builtin id)) (ha : PA X [.Name y p2] (tCons (tVar i) tNil))
    (n : ok O i = some .lst := by rfl) (hg : Gl X x := by rfl) (hn : x ≠ "__name__" := by decide) (hdb : (x == ("__debug__" : Str)) = false := by decide)
    (he : starEach [.Name y p2] X.env = (false, eval (.Name y p2) X.env) :: starEach [] X.env := by rfl) (hpl : (backTo pos (starEach [] X.env)).any (·.1) = false := by rfl) : EX X P O (.Call (.Name x p) [.Name y p2] [] pos) (callO i g) :=
  pe_mono (pe_callB hc hg hm hv ha hn hdb he hpl) fun σ H Q ⟨ρ, G, F, rr, h⟩ => by
    unfold callO at h
    cases z : getS i ρ with
    | none => rw [z] at h; exact h.elim
    | some d =>
      rw [z] at h
      obtain ⟨a, qa⟩ := rr.bound z n
      obtain ⟨a', xs, ds, ea, rfl, hH, hd, hp⟩ := rr.list z n qa
      cases ea
      refine ⟨.ref a, qa, ?_⟩
      show r [.ref a] H Q
      simp only at h
      cases z3 : g [.list ds] with
      | none => rw [z3] at h; exact h.elim
      | some f => rw [z3] at h; exact hsem rr hH hd hp z3 h
theorem ex_callTyO (i : Nat) {id : String} {r : List V → Hp → VK → Prop} {g : List D → Option D} (hc : CallR X (.type id) r)
    (hsem : ∀ {σ : L2.St} {H : Hp} {ρ : Rho} {G F : Hp} {a : Addr} {xs : List V} {ds : List D} {f : D} {Q : VK}, Rel X.K F P.fx O σ H ρ G → H a = some (.lst xs) → DpAll X.K G xs ds → Dp X.K H (.ref a) (.list ds) → g [.list ds] = some f →
      (∀ v H' G', Rel X.K F P.fx O σ H' ρ G' → Ext F G G' → Dp X.K G' v f → Q v H') → r [.ref a] H Q) {x y : Str} {p p2 pos : Pos} (hm : X.mg x = none) (hv : bootBuiltins x = some (.type id)) (ha : PA X [.Name y p2] (tCons (tVar i) tNil))
    (n : ok O i = some .lst := by rfl) (hg : Gl X x := by rfl) (hn : x ≠ "__name__" := by decide) (hdb : (x == ("__debug__" : Str)) = false := by decide)
    (he : starEach [.Name y p2] X.env = (false, eval (.Name y p2) X.env) :: starEach [] X.env := by rfl) (hpl : (backTo pos (starEach [] X.env)).any (·.1) = false := by rfl) : EX X P O (.Call (.Name x p) [.Name y p2] [] pos) (callO i g) :=
  pe_mono (pe_callTy hc hg hm hv ha hn hdb he hpl) fun σ H Q ⟨ρ, G, F, rr, h⟩ => by
    unfold callO at h
    cases z : getS i ρ with
    | none => rw [z] at h; exact h.elim
    | some d =>
      rw [z] at h
      obtain ⟨a, qa⟩ := rr.bound z n
      obtain ⟨a', xs, ds, ea, rfl, hH, hd, hp⟩ := rr.list z n qa
      cases ea
      refine ⟨.ref a, qa, ?_⟩
      show r [.ref a] H Q
      simp only at h
      cases z3 : g [.list ds] with
      | none => rw [z3] at h; exact h.elim
      | some f => rw [z3] at h; exact hsem rr hH hd hp z3 h
theorem own_rDN {g : List D → Option D} (hg : ∀ ds f, g ds = some f → ∃ v, flatD f = some v) : ∀ {σ : L2.St} {H : Hp} {ρ : Rho} {G F : Hp} {a : Addr} {xs : List V} {ds : List D} {f : D} {Q : VK}, Rel X.K F P.fx O σ H ρ G → H a = some (.lst xs) → DpAll X.K G xs ds → Dp X.K H (.ref a) (.list ds) → g [.list ds] = some f →
      (∀ v H' G', Rel X.K F P.fx O σ H' ρ G' → Ext F G G' → Dp X.K G' v f → Q v H') → rDN X.K g [.ref a] H Q := fun {σ H ρ G F a xs ds f Q} r _ _ hx hf h => by
  obtain ⟨v, hv⟩ := hg _ f hf
  exact ⟨_, f, v, .cons hx .nil, hf, hv, h v H G r (Ext.refl _ _) (flat_dp hv)⟩
theorem own_tupC : ∀ {σ : L2.St} {H : Hp} {ρ : Rho} {G F : Hp} {a : Addr} {xs : List V} {ds : List D} {f : D} {Q : VK}, Rel X.K F P.fx O σ H ρ G → H a = some (.lst xs) → DpAll X.K G xs ds → Dp X.K H (.ref a) (.list ds) → tupC [.list ds] = some f →
      (∀ v H' G', Rel X.K F P.fx O σ H' ρ G' → Ext F G G' → Dp X.K G' v f → Q v H') → rTupC X.K [.ref a] H Q := fun {σ H ρ G F a xs ds f Q} r hH hd hx hf h => by
  cases hf
  refine ⟨_, _, rfl, .inl ⟨SqL.of hH, fun l hl => ?_⟩⟩
  obtain ⟨r2, e2⟩ := r.alloc hl
  exact h _ _ _ r2 e2 (.tup (SqT.of upd_same) (dpAll_mono e2.1 hd))

/-! ### append, item store -/
def appT (i : Nat) (Ta : Rho → Out Rho D) : Rho → Out Rho Flw := fun ρ => match getS i ρ with
  | none => .bad
  | some _ => (Ta ρ).bind fun d ρ1 => match getS i ρ1 with
    | some (.list ds) => if ds.length < sizeLine then .ok .nx (ρ1.set i (some (.list (ds ++ [d])))) else .bad
    | _ => .bad
theorem sx_append (i : Nat) {x : Str} {e : Expr} {p apos cpos pos : Pos} {Ta : Rho → Out Rho D} (he : EX X P O e Ta) (hex : L.ex O) (n : ok O i = some .lst := by rfl)
    (hN : X.N[i]? = some x := by rfl) (hv : Vis X.env.scope x := by first | exact Or.inl rfl | exact Or.inr (Or.inl rfl) | exact Or.inr (Or.inr rfl)) (hd : (x == ("__debug__" : Str)) = false := by decide) (hcd : (x == ("__classdict__" : Str)) = false := by decide)
    (hs : starEach [e] X.env = (false, eval e X.env) :: starEach [] X.env := by rfl) (hline : (apos.endLine == cpos.line) = true := by rfl)
    (hbase : attributeBase (.Name x p) "append" X.env (eval (.Name x p) X.env) = eval (.Name x p) X.env := by rfl)
    (hfew : ((backTo cpos (starEach [e] X.env)).all (fun x => !x.1) && (backToKw cpos (keywordEach [] X.env)).all (fun x => x.1.isSome)
      && decide ([e].length + ([] : List Keyword).length + (if ([] : List Keyword).isEmpty then 0 else 1) < 30)) = true := by rfl)
    (hsw : swapsWith (.Call (.Attribute (.Name x p) "append" apos) [e] [] cpos) none pos.line X.env = pure false := by rfl) :
    SX X P L O O (.Expr (.Call (.Attribute (.Name x p) "append" apos) [e] [] cpos) pos) (appT i Ta) := by
  have h0 := pe_bm (X := X) PySem.F.plainAttrs_list PySem.F.slot_list_append PySem.F.type_list_append (mt_append) (pe_var hN hv hd hcd) (pa_cons he pa_nil hs) hbase hfew hline hs
  refine ps_mono (ps_expr h0 hsw) fun E σ H ⟨ρ, G, F, r, h⟩ => ?_
  unfold appT at h
  cases z : getS i ρ with
  | none => rw [z] at h; exact h.elim
  | some d0 =>
    rw [z] at h
    obtain ⟨a, qa⟩ := r.bound z n
    obtain ⟨a', xs0, ds0, ea, _, hH0, _, _⟩ := r.list z n qa
    cases ea
    refine ⟨.ref a, qa, .inl ⟨rfl, _, SqL.of hH0⟩, ?_⟩
    refine ⟨ρ, G, F, r, Fin.imp (FinS.ofE (R := rE X.K) hex h) fun v H1 ⟨d, ρ1, G1, r1, e1, dv, f1⟩ => ?_⟩
    cases z1 : getS i ρ1 with
    | none => rw [z1] at f1; exact f1.elim
    | some d1 =>
      obtain ⟨a', xs, ds, ea, rfl, hH, hd1, _⟩ := r1.list z1 n qa
      cases ea
      rw [z1] at f1
      simp only at f1
      by_cases hl : ds.length < sizeLine
      · rw [if_pos hl] at f1
        refine ⟨a, xs, v, rfl, rfl, hH, by rw [L2.DpAll.len hd1]; exact hl, ?_⟩
        refine f1 σ _ G1 (r1.mutate (getS_some z1) n qa ⟨_, _, rfl, upd_same, hd1.append (.cons dv .nil)⟩) (Ext.refl _ _)
      · rw [if_neg hl] at f1; exact f1.elim
def stT (i : Nat) (Tk Te : Rho → Out Rho D) : Rho → Out Rho Flw := fun ρ => (Te ρ).bind fun d ρ1 => match getS i ρ1 with
  | none => .bad
  | some _ => (Tk ρ1).bind fun k ρ2 => match getS i ρ2, k with
    | some (.list ds), .int k => match ixN ds.length k with
      | some j => .ok .nx (ρ2.set i (some (.list (ds.set j d))))
      | none => .bad
    | _, _ => .bad
theorem sx_store (i : Nat) {x : Str} {k e : Expr} {p spos pos : Pos} {Tk Te : Rho → Out Rho D} (hk : EX X P O k Tk) (he : EX X P O e Te) (hex : L.ex O) (n : ok O i = some .lst := by rfl)
    (hN : X.N[i]? = some x := by rfl) (hv : Vis X.env.scope x := by first | exact Or.inl rfl | exact Or.inr (Or.inl rfl) | exact Or.inr (Or.inr rfl)) (hd : (x == ("__debug__" : Str)) = false := by decide) (hcd : (x == ("__classdict__" : Str)) = false := by decide)
    (hs : swapsWithSole [.Subscript (.Name x p) k spos] e pos.line X.env = pure false := by rfl) (hw : swappedStores [.Subscript (.Name x p) k spos] e X.env = pure none := by rfl)
    (h1 : (assignEach [.Subscript (.Name x p) k spos] X.env).map (·.2) = [assign (.Subscript (.Name x p) k spos) X.env] := by rfl)
    (ha : ∀ v, assign (.Subscript (.Name x p) k spos) X.env v = (do
      let ov ← holding [v] (eval (.Name x p) X.env)
      let iv ← holding [v, ov] (eval k X.env)
      standAt spos
      holding [v, ov, iv] (setItem ov iv v)
      release [v, ov, iv] []) := by intro _; rfl) : SX X P L O O (.Assign [.Subscript (.Name x p) k spos] e pos) (stT i Tk Te) := by
  refine ps_mono (ps_asg he (pg_sub (pe_var hN hv hd hcd) hk set_list ha) hs hw h1) fun E σ H ⟨ρ, G, F, r, h⟩ => ?_
  refine ⟨ρ, G, F, r, Fin.imp (FinS.ofE (R := rE X.K) hex h) fun v H1 ⟨d, ρ1, G1, r1, e1, dv, f1⟩ => ?_⟩
  cases z : getS i ρ1 with
  | none => rw [z] at f1; exact f1.elim
  | some d0 =>
    rw [z] at f1
    obtain ⟨a, qa⟩ := r1.bound z n
    refine ⟨.ref a, qa, ?_⟩
    refine ⟨ρ1, G1, F, r1, Fin.imp (FinS.ofE (R := rE X.K) hex f1) fun kv H2 ⟨kd, ρ2, G2, r2, e2, dk, f2⟩ => ?_⟩
    cases z2 : getS i ρ2 with
    | none => rw [z2] at f2; exact f2.elim
    | some d2 =>
      obtain ⟨a', xs, ds, ea, rfl, hH, hd2, _⟩ := r2.list z2 n qa
      cases ea
      rw [z2] at f2
      cases kd with
      | int m =>
        cases dk
        simp only at f2
        cases z3 : ixN ds.length m with
        | none => rw [z3] at f2; exact f2.elim
        | some j =>
          rw [z3] at f2
          refine ⟨a, xs, m, j, rfl, rfl, hH, by rw [L2.DpAll.len hd2]; exact z3, ?_⟩
          exact f2 σ _ G2 (r2.mutate (getS_some z2) n qa ⟨_, _, rfl, upd_same, hd2.set j (dp_mono e2.1 dv)⟩) (Ext.refl _ _)
      | _ => exact f2.elim

/-! ### chains -/
def chainT (g g' : D → D → Option D) (Ta Tb Tc : Rho → Out Rho D) : Rho → Out Rho D := fun ρ => (Ta ρ).bind fun a ρ1 => (Tb ρ1).bind fun b ρ2 => match g a b with
  | some (.bool true) => (Tc ρ2).bind fun c ρ3 => .of (g' b c) ρ3
  | some (.bool false) => .ok (.bool false) ρ2
  | _ => .bad
theorem tx_chainZ {g g' : D → D → Option D} (hg' : ∀ d e f, g' d e = some f → ∃ v, flatD f = some v) {Ta Tb Tc : Rho → Out Rho D} {σ : L2.St} {H : Hp} {Q : VK} (h : tX X P O (rE X.K) (chainT g g' Ta Tb Tc) σ H Q) :
    tChain (rD X.K g) (rD X.K g') (tX X P O (rE X.K) Ta) (tX X P O (rE X.K) Tb) (tX X P O (rE X.K) Tc) σ H Q := by
  obtain ⟨ρ, G, F, rr, h⟩ := h
  refine tX_bind' (R := rE X.K) rr h fun x H1 d ρ1 G1 r1 e1 p1 h1 => ?_
  refine tX_bind' (R := rE X.K) r1 h1 fun y H2 e ρ2 G2 r2 e2 p2 h2 => ?_
  cases z : g d e with
  | none => rw [z] at h2; exact h2.elim
  | some f =>
    rw [z] at h2
    cases f with
    | bool b =>
      refine ⟨d, e, .bool b, .bl b, dp_mono r2.gr (dp_mono e2.1 p1), dp_mono r2.gr p2, z, rfl, b, rfl, ?_⟩
      cases b with
      | true =>
        rw [if_pos rfl]
        refine tX_bind' (R := rE X.K) r2 h2 fun w H3 c ρ3 G3 r3 e3 p3 h3 => ?_
        cases z' : g' e c with
        | none => rw [z'] at h3; exact h3.elim
        | some f =>
          rw [z'] at h3
          obtain ⟨v, hv⟩ := hg' _ _ f z'
          exact ⟨e, c, f, v, dp_mono r3.gr (dp_mono e3.1 p2), dp_mono r3.gr p3, z', hv, h3 v H3 G3 r3 (Ext.refl _ _) (flat_dp hv)⟩
      | false =>
        rw [if_neg Bool.false_ne_true]
        exact h2 _ H2 G2 r2 (Ext.refl _ _) (.bl false)
    | _ => exact h2.elim
theorem ex_chain {op op' : CmpOp} {g g' : D → D → Option D} (ho : OpR X (compareOp op) (rD X.K g)) (ho' : OpR X (compareOp op') (rD X.K g')) (hg' : ∀ d e f, g' d e = some f → ∃ v, flatD f = some v) {a b c : Expr} {Ta Tb Tc : Rho → Out Rho D} {pos : Pos} (ha : EX X P O a Ta) (hb : EX X P O b Tb) (hc : EX X P O c Tc)
    (hm : lastMarks [op, op'] [b, c] = false := by with_unfolding_all rfl) : EX X P O (.Compare a [op, op'] [b, c] pos) (chainT g g' Ta Tb Tc) :=
  pe_mono (pe_chain ho ho' ha hb hc hm) fun _ _ _ h => tx_chainZ hg' h
theorem tx_chain {op op' : CmpOp} {g g' : D → D → Option D} (ho : OpR X (compareOp op) (rD X.K g)) (ho' : OpR X (compareOp op') (rD X.K g')) (hg' : ∀ d e f, g' d e = some f → ∃ v, flatD f = some v) {a b c : Expr} {Ta Tb Tc : Rho → Out Rho D} {pos : Pos} (ha : EX X P O a Ta) (hb : EX X P O b Tb) (hc : EX X P O c Tc)
    (hm : lastMarks [op, op'] [b, c] = false := by with_unfolding_all rfl) : TX X P O (.Compare a [op, op'] [b, c] pos) (isB (chainT g g' Ta Tb Tc)) :=
  pt_mono (pt_chain ho ho' ha hb hc hm) fun _ _ _ h => tx_chainZ hg' (tT_of h)

/-! ### isinstance -/
def tyD : D → Option String
  | .none => some "NoneType"
  | .bool _ => some "bool"
  | .int _ => some "int"
  | .str _ => some "str"
  | .list _ => some "list"
  | .tuple _ => some "tuple"
  | .dict _ => none
theorem dp_ty {K : PySem.W.Frag} {H : Hp} {v : V} {d : D} {t : String} (h : Dp K H v d) (e : tyD d = some t) : TyX K H v (.type t) := by
  cases h with
  | non => cases e; exact .base .non
  | bl b => cases e; exact .base (.bl b)
  | int b => cases e; exact .base (.int b)
  | str b => cases e; exact .base (.str b)
  | lst q _ =>
    cases e
    rcases q with (q | ⟨o, q⟩) | ⟨o, its, n, q, c, _⟩
    · exact .base (.lst q)
    · exact .base (.frz q)
    · exact .kList q c
  | tup q _ =>
    cases e
    rcases q with (q | ⟨o, q⟩) | ⟨o, its, n, q, c, _⟩
    · exact .base (.tup q)
    · exact .fTuple q
    · exact .kTuple q c
/-- which types are instances of which (of the built-in ones that the trees know) -/
def subTy (a b : String) : Bool := a == b || (a == "bool" && b == "int") || b == "object"
def knownTy : List String := ["NoneType", "bool", "int", "str", "list", "tuple"]
theorem kitB_known : ∀ a ∈ knownTy, ∀ b ∈ knownTy.tail, kitB a b = some (subTy a b) := by decide +kernel
theorem tyD_known {d : D} {t : String} (h : tyD d = some t) : t ∈ knownTy := by
  cases d <;> simp [tyD] at h <;> subst h <;> decide
/-- isinstance(x, t) for one of bool, int, str, list, tuple -/
def isiD (b : String) (d : D) : Option D := (tyD d).map fun t => .bool (subTy t b)
def isiT (b : String) (T : Rho → Out Rho D) : Rho → Out Rho D := fun ρ => (T ρ).bind fun d ρ1 => .of (isiD b d) ρ1
theorem ex_isi {b : String} {e : Expr} {T : Rho → Out Rho D} {x : Str} {p p2 pos : Pos} (he : EX X P O e T) (hb : b ∈ knownTy.tail) (hm : X.mg "isinstance" = none) (hm2 : X.mg x = none) (hv2 : bootBuiltins x = some (.type b)) (hg2 : Gl X x := by rfl)
    (hg : Gl X "isinstance" := by rfl) (hdb2 : (x == ("__debug__" : Str)) = false := by decide) (hnn2 : x ≠ "__name__" := by decide)
    (hs : starEach [e, .Name x p2] X.env = (false, eval e X.env) :: starEach [.Name x p2] X.env := by rfl) (hs2 : starEach [.Name x p2] X.env = (false, eval (.Name x p2) X.env) :: starEach [] X.env := by rfl) (hpl : (backTo pos (starEach [.Name x p2] X.env)).any (·.1) = false := by rfl) :
    EX X P O (.Call (.Name "isinstance" p) [e, .Name x p2] [] pos) (isiT b T) := by
  have hty : PE X (.Name x p2) (tC (.ty b)) := pe_bltn hg2 hm2 hv2 (show L2.RelV (.ty b) (.type b) from rfl) hnn2 hdb2
  refine pe_mono (pe_callB call_isi hg hm (by rfl) (pa_cons he (pa_cons hty pa_nil hs2) hs) (by decide) (by decide) hs hpl) fun σ H Q ⟨ρ, G, F, rr, h⟩ => ?_
  refine tX_bind' (R := rE X.K) rr h fun v H1 d ρ1 G1 r1 e1 p1 h1 => ?_
  show rIsi X.K [v, .ty b] H1 Q
  unfold isiD at h1
  cases z : tyD d with
  | none => rw [z] at h1; exact h1.elim
  | some t =>
    rw [z] at h1
    exact ⟨v, .ty b, .type t, .type b, subTy t b, rfl, .ty b, dp_ty (dp_mono r1.gr p1) z, kit_ty (kitB_known t (tyD_known z) b hb), h1 _ H1 G1 r1 (Ext.refl _ _) (.bl _)⟩

/-! ### sum -/
def sumD : List D → Option D
  | [.list ds] => (intsOf ds).map fun ns => .int ns.sum
  | [.tuple ds] => (intsOf ds).map fun ns => .int ns.sum
  | _ => none
theorem sumD_flat (ds : List D) (f : D) (h : sumD ds = some f) : ∃ v, flatD f = some v := by
  unfold sumD at h
  split at h
  · obtain ⟨b, _, e⟩ := Option.map_eq_some_iff.mp h
    subst e; exact ⟨_, rfl⟩
  · obtain ⟨b, _, e⟩ := Option.map_eq_some_iff.mp h
    subst e; exact ⟨_, rfl⟩
  · cases h
theorem call_sumZ (hc : X.calm = true) : CallR X (.builtin "sum") (rDN X.K sumD) := by
  intro pins s σ H xs us Q I r ⟨ds, f, v, hd, hf, hv, q⟩
  unfold sumD at hf
  split at hf
  · obtain ⟨ns, hb, e⟩ := Option.map_eq_some_iff.mp hf
    subst e; cases hv
    obtain ⟨x, rfl, hx⟩ := dpAll1 hd
    cases hx with
    | lst a b =>
      rw [intsOf_eq hb] at b
      exact cr_sum hc pins s σ H _ us Q I r ⟨_, ns, rfl, by rw [← L2.DpAll.ints b]; exact a, q⟩
  · obtain ⟨ns, hb, e⟩ := Option.map_eq_some_iff.mp hf
    subst e; cases hv
    obtain ⟨x, rfl, hx⟩ := dpAll1 hd
    cases hx with
    | tup a b =>
      rw [intsOf_eq hb] at b
      obtain ⟨its, rv, hl, _⟩ := I.tuple a
      rw [L2.DpAll.ints b] at rv
      rw [Vals.ref1 r]
      have hi := rv.ints
      obtain ⟨ys, hx⟩ := hi.allInts.items
      have hn : numsOf its.toArray.toList = ns := by rw [show its.toArray.toList = its from rfl, hi.numsOf]
      rw [hx] at hl hn
      rw [nums_intItems] at hn
      refine PySem.W.ktm_sumG (I.ok.hd hc) hl fun h' tk t' hk => ?_
      rw [preSum_eq, List.take_of_length_le (by simp), hn]
      exact ⟨.int _, H, I.kept hk, ⟨_, rfl⟩, q⟩
  · cases hf
/-! ### list(x), fresh -/
def lstC : D → Option D
  | .list ds => some (.list ds)
  | .tuple ds => some (.list ds)
  | _ => none
theorem fx_list {e : Expr} {T : Rho → Out Rho D} {p pos : Pos} (he : EX X P O e T) (hm : X.mg "list" = none) (hg : Gl X "list" := by rfl) (hs : starEach [e] X.env = (false, eval e X.env) :: starEach [] X.env := by rfl) (hpl : (backTo pos (starEach [] X.env)).any (·.1) = false := by rfl) :
    FX X P O .lst (.Call (.Name "list" p) [e] [] pos) (fun ρ => (T ρ).bind fun d ρ1 => .of (lstC d) ρ1) := by
  refine pe_mono (pe_callTy call_list_of hg hm (by rfl) (pa_cons he pa_nil hs) (by decide) (by decide) hs hpl) fun σ H Q ⟨ρ, G, F, rr, h⟩ => ?_
  refine tX_bind' (R := rE X.K) rr h fun v H1 d ρ1 G1 r1 e1 p1 h1 => ?_
  show ∃ p ys, [v] = [V.ref p] ∧ _
  cases d with
  | list ds =>
    cases p1 with
    | lst q p => exact ⟨_, _, rfl, .inl (sqL_mono r1.gr q), fun l hl => h1 _ _ _ (r1.side hl) (Ext.refl _ _) (fresh_at r1 hl p)⟩
  | tuple ds =>
    cases p1 with
    | tup q p => exact ⟨_, _, rfl, .inr (sqT_mono r1.gr q), fun l hl => h1 _ _ _ (r1.side hl) (Ext.refl _ _) (fresh_at r1 hl p)⟩
  | _ => exact h1.elim
end
end Z

/-! file ZCall -/
set_option Elab.async false
set_option linter.all false
set_option autoImplicit false
set_option maxRecDepth 100000
set_option maxHeartbeats 4000000
/-! defs: what they promise over trees; calls -/
namespace Z
open PySem PySem.Spec PyProof.Rows L2

/-- the arguments of a promise -/
structure ArgZ (K : PySem.W.Frag) (H G F : Hp) (ks : List (Option OKd)) (vs : List V) (ds : List D) : Prop where
  l1 : ks.length = vs.length
  l2 : vs.length = ds.length
  sh : ∀ (i : Nat) (d : D), ks[i]? = some none → ds[i]? = some d → ∃ v, vs[i]? = some v ∧ Dp K G v d
  ow : ∀ (i : Nat) (k : OKd) (d : D), ks[i]? = some (some k) → ds[i]? = some d → ∃ a : Addr, vs[i]? = some (.ref a) ∧ OwnAt K H G k a d ∧ F a = none ∧ G a = none
  dj : ∀ (i j : Nat) (k l : OKd) (a : Addr), ks[i]? = some (some k) → ks[j]? = some (some l) → vs[i]? = some (.ref a) → vs[j]? = some (.ref a) → i = j
/-- what the owned ones are behind a call -/
def OutZ (K : PySem.W.Frag) (H G : Hp) : List (Option OKd) → List V → List D → Prop
  | [], [], [] => True
  | none :: ks, _ :: vs, os => OutZ K H G ks vs os
  | some k :: ks, v :: vs, o :: os => (∃ a, v = .ref a ∧ OwnAt K H G k a o ∧ G a = none) ∧ OutZ K H G ks vs os
  | _, _, _ => False
/-- what is returned -/
def RetZ (K : PySem.W.Frag) (rk : Option OKd) (F H G : Hp) (ks : List (Option OKd)) (vs : List V) (v : V) (d : D) : Prop := match rk with
  | none => Dp K G v d
  | some k => ∃ p, v = .ref p ∧ OwnAt K H G k p d ∧ F p = none ∧ G p = none ∧ ∀ (i : Nat) (l : OKd), ks[i]? = some (some l) → vs[i]? ≠ some (V.ref p)
def PostZ (K : PySem.W.Frag) (mg : Str → Option Value) (ks : List (Option OKd)) (rk : Option OKd) (F G : Hp) (vs : List V) (o : Out (List D) D) (Q : VK) (E : XK) : Prop := match o with
  | .ok d os => ∀ v H' G', (∀ a o, F a = some o → H' a = some o) → (∀ a o, G' a = some o → H' a = some o) → Ext F G G' → OutZ K H' G' ks vs os → RetZ K rk F H' G' ks vs v d → Q v H'
  | .exc c fs os => ∀ cls de H' G', (∀ a o, F a = some o → H' a = some o) → (∀ a o, G' a = some o → H' a = some o) → Ext F G G' → OutZ K H' G' ks vs os → ExcR K mg G' c fs cls de → E cls de H'
  | .bad => False
def spZ (K : PySem.W.Frag) (mg : Str → Option Value) (ks : List (Option OKd)) (rk : Option OKd) (S : List D → Out (List D) D) : Sp := fun vs H Q E =>
  ∃ ds G F, (∀ a o, F a = some o → H a = some o) ∧ (∀ a o, G a = some o → H a = some o) ∧ ArgZ K H G F ks vs ds ∧ PostZ K mg ks rk F G vs (S ds) Q E

/-! ### the caller -/
def JAll (K : PySem.W.Frag) (σ : L2.St) (G : Hp) : List (Option Nat) → List V → List D → Prop
  | [], [], [] => True
  | none :: js, v :: vs, d :: ds => Dp K G v d ∧ JAll K σ G js vs ds
  | some i :: js, v :: vs, _ :: ds => σ[i]? = some (some v) ∧ JAll K σ G js vs ds
  | _, _, _ => False
def rJ (K : PySem.W.Frag) (js : List (Option Nat)) : RR (List V) (List D) := fun _ σ _ _ G vs ds => JAll K σ G js vs ds
def AJ (X : Cx) (P : Pm) (O : Own) (es : List Expr) (js : List (Option Nat)) (T : Rho → Out Rho (List D)) : Prop := PA X es (tX X P O (rJ X.K js) T)
theorem JAll.mono {K : PySem.W.Frag} {σ : L2.St} {G G' : Hp} (h : ∀ a o, G a = some o → G' a = some o) : ∀ {js : List (Option Nat)} {vs : List V} {ds : List D}, JAll K σ G js vs ds → JAll K σ G' js vs ds
  | [], [], [], _ => trivial
  | none :: js, v :: vs, d :: ds, ⟨a, b⟩ => ⟨dp_mono h a, JAll.mono h b⟩
  | some i :: js, v :: vs, d :: ds, ⟨a, b⟩ => ⟨a, JAll.mono (js := js) h b⟩
  | [], [], _ :: _, q | [], _ :: _, _, q | none :: _, [], _, q | none :: _, _ :: _, [], q | some _ :: _, [], _, q | some _ :: _, _ :: _, [], q => q.elim
/-- the trees of owned arguments are read last -/
def fillJ : List (Option Nat) → List D → Rho → Option (List D)
  | [], [], _ => some []
  | none :: js, d :: ds, ρ => (fillJ js ds ρ).map (d :: ·)
  | some i :: js, _ :: ds, ρ => (getS i ρ).bind fun d => (fillJ js ds ρ).map (d :: ·)
  | _, _, _ => none
def putJ : List (Option Nat) → List D → Rho → Rho
  | none :: js, os, ρ => putJ js os ρ
  | some i :: js, o :: os, ρ => putJ js os (ρ.set i (some o))
  | _, _, ρ => ρ
def distinctJ : List (Option Nat) → Bool
  | [] => true
  | none :: js => distinctJ js
  | some i :: js => !js.contains (some i) && distinctJ js
theorem distinctJ_at : ∀ {js : List (Option Nat)} {m m' i : Nat}, distinctJ js = true → js[m]? = some (some i) → js[m']? = some (some i) → m = m'
  | [], m, m', i, _, h, _ => by simp at h
  | j :: js, 0, 0, i, _, _, _ => rfl
  | none :: js, 0, m' + 1, i, _, h, _ => by simp at h
  | none :: js, m + 1, 0, i, _, _, h => by simp at h
  | none :: js, m + 1, m' + 1, i, hd, h, h' => congrArg (· + 1) (distinctJ_at (js := js) hd (by simpa using h) (by simpa using h'))
  | some k :: js, 0, m' + 1, i, hd, h, h' => by
    simp at h h'
    subst h
    simp [distinctJ] at hd
    exact absurd (List.mem_iff_getElem?.mpr ⟨_, h'⟩) hd.1
  | some k :: js, m + 1, 0, i, hd, h, h' => by
    simp at h h'
    subst h'
    simp [distinctJ] at hd
    exact absurd (List.mem_iff_getElem?.mpr ⟨_, h⟩) hd.1
  | some k :: js, m + 1, m' + 1, i, hd, h, h' => by
    simp [distinctJ] at hd
    exact congrArg (· + 1) (distinctJ_at (js := js) hd.2 (by simpa using h) (by simpa using h'))
section
variable {X : Cx} {P : Pm} {L : Lp} {O O' O1 : Own}
theorem aj_nil : AJ X P O [] [] nilT := pa_mono pa_nil fun σ H Q ⟨ρ, G, F, r, h⟩ => h [] H G r (Ext.refl _ _) trivial
theorem aj_cons {e : Expr} {es : List Expr} {js : List (Option Nat)} {Ta : Rho → Out Rho D} {Tb : Rho → Out Rho (List D)} (ha : EX X P O e Ta) (hb : AJ X P O es js Tb) (hs : starEach (e :: es) X.env = (false, eval e X.env) :: starEach es X.env := by rfl) : AJ X P O (e :: es) (none :: js) (consT Ta Tb) := by
  refine pa_mono (pa_cons ha hb hs) fun σ H Q ⟨ρ, G, F, rr, h⟩ => ?_
  refine tX_bind' (R := rE X.K) rr h fun x H1 d ρ1 G1 r1 e1 p1 h1 => ?_
  refine tX_bind' (R := rJ X.K js) r1 h1 fun xs H2 ds ρ2 G2 r2 e2 p2 h2 => ?_
  exact h2 (x :: xs) H2 G2 r2 (Ext.refl _ _) ⟨dp_mono e2.1 p1, p2⟩
def ownT (i : Nat) (Tb : Rho → Out Rho (List D)) : Rho → Out Rho (List D) := fun ρ => match getS i ρ with
  | none => .bad
  | some _ => (Tb ρ).bind fun ds ρ2 => .ok (.none :: ds) ρ2
theorem aj_own (i : Nat) {k : OKd} {x : Str} {p : Pos} {es : List Expr} {js : List (Option Nat)} {Tb : Rho → Out Rho (List D)} (hb : AJ X P O es js Tb) (n : ok O i = some k := by rfl)
    (hN : X.N[i]? = some x := by rfl) (hv : Vis X.env.scope x := by first | exact Or.inl rfl | exact Or.inr (Or.inl rfl) | exact Or.inr (Or.inr rfl)) (hd : (x == ("__debug__" : Str)) = false := by decide) (hcd : (x == ("__classdict__" : Str)) = false := by decide)
    (hs : starEach (.Name x p :: es) X.env = (false, eval (.Name x p) X.env) :: starEach es X.env := by rfl) : AJ X P O (.Name x p :: es) (some i :: js) (ownT i Tb) := by
  refine pa_mono (pa_cons (pe_var hN hv hd hcd) hb hs) fun σ H Q ⟨ρ, G, F, rr, h⟩ => ?_
  unfold ownT at h
  cases z : getS i ρ with
  | none => rw [z] at h; exact h.elim
  | some d0 =>
    rw [z] at h
    obtain ⟨a, qa⟩ := rr.bound z n
    refine ⟨.ref a, qa, ?_⟩
    refine tX_bind' (R := rJ X.K js) rr h fun xs H2 ds ρ2 G2 r2 e2 p2 h2 => ?_
    exact h2 (.ref a :: xs) H2 G2 r2 (Ext.refl _ _) ⟨qa, p2⟩
/-- which kinds stand where -/
def kindsJ (O : Own) (js : List (Option Nat)) : List (Option (Option OKd)) := js.map fun j => j.map (ok O)
def kindsK (ks : List (Option OKd)) : List (Option (Option OKd)) := ks.map (Option.map some)
theorem kinds_at {ks : List (Option OKd)} {js : List (Option Nat)} (h : kindsJ O js = kindsK ks) {m : Nat} : (js[m]?).map (fun j => j.map (ok O)) = (ks[m]?).map (Option.map some) := by
  have := congrArg (fun l => l[m]?) h
  simpa [kindsJ, kindsK] using this
theorem kinds_own {ks : List (Option OKd)} {js : List (Option Nat)} (h : kindsJ O js = kindsK ks) {m : Nat} {k : OKd} (e : ks[m]? = some (some k)) : ∃ i : Nat, js[m]? = some (some i) ∧ ok O i = some k := by
  have q := kinds_at h (m := m)
  rw [e] at q
  cases z : js[m]? with
  | none => rw [z] at q; cases q
  | some j =>
    rw [z] at q
    cases j with
    | none => cases q
    | some i => exact ⟨i, rfl, Option.some.inj (Option.some.inj q)⟩
theorem kinds_none {ks : List (Option OKd)} {js : List (Option Nat)} (h : kindsJ O js = kindsK ks) {m : Nat} (e : ks[m]? = some none) : js[m]? = some none := by
  have q := kinds_at h (m := m)
  rw [e] at q
  cases z : js[m]? with
  | none => rw [z] at q; cases q
  | some j =>
    rw [z] at q
    cases j with
    | none => rfl
    | some i => cases q
theorem kinds_slot {ks : List (Option OKd)} {js : List (Option Nat)} (h : kindsJ O js = kindsK ks) {i : Nat} (e : some i ∈ js) : ∃ (m : Nat) (k : OKd), js[m]? = some (some i) ∧ ks[m]? = some (some k) ∧ ok O i = some k := by
  obtain ⟨m, hm⟩ := List.mem_iff_getElem?.mp e
  have q := kinds_at h (m := m)
  rw [hm] at q
  cases z : ks[m]? with
  | none => rw [z] at q; cases q
  | some u =>
    rw [z] at q
    cases u with
    | none => cases q
    | some k => exact ⟨m, k, hm, z, Option.some.inj (Option.some.inj q)⟩
theorem JAll.at {K : PySem.W.Frag} {σ : L2.St} {G : Hp} : ∀ {js : List (Option Nat)} {vs : List V} {ds ds' : List D} {ρ : Rho}, JAll K σ G js vs ds → fillJ js ds ρ = some ds' → js.length = vs.length ∧ vs.length = ds'.length ∧
    ∀ (m : Nat) (d : D), ds'[m]? = some d → ∃ v, vs[m]? = some v ∧ (js[m]? = some none → Dp K G v d) ∧ ∀ i, js[m]? = some (some i) → σ[i]? = some (some v) ∧ getS i ρ = some d
  | [], [], [], ds', ρ, _, h => by
    cases h
    exact ⟨rfl, rfl, fun m d e => by simp at e⟩
  | none :: js, v :: vs, d :: ds, ds', ρ, ⟨a, b⟩, h => by
    obtain ⟨es, h1, h2⟩ := Option.map_eq_some_iff.mp (show (fillJ js ds ρ).map (d :: ·) = some ds' from h)
    subst h2
    obtain ⟨l1, l2, q⟩ := JAll.at b h1
    refine ⟨congrArg (· + 1) l1, congrArg (· + 1) l2, fun m d' e => ?_⟩
    cases m with
    | zero =>
      simp at e
      subst e
      exact ⟨v, rfl, fun _ => a, fun i z => by simp at z⟩
    | succ m => simpa using q m d' (by simpa using e)
  | some i :: js, v :: vs, d :: ds, ds', ρ, ⟨a, b⟩, h => by
    obtain ⟨d0, h0, h⟩ := Option.bind_eq_some_iff.mp (show (getS i ρ).bind (fun d => (fillJ js ds ρ).map (d :: ·)) = some ds' from h)
    obtain ⟨es, h1, h2⟩ := Option.map_eq_some_iff.mp h
    subst h2
    obtain ⟨l1, l2, q⟩ := JAll.at b h1
    refine ⟨congrArg (· + 1) l1, congrArg (· + 1) l2, fun m d' e => ?_⟩
    cases m with
    | zero =>
      simp at e
      subst e
      exact ⟨v, rfl, fun z => by simp at z, fun j z => by simp at z; subst z; exact ⟨a, h0⟩⟩
    | succ m => simpa using q m d' (by simpa using e)
  | [], [], _ :: _, _, _, q, _ | [], _ :: _, _, _, _, q, _ | none :: _, [], _, _, _, q, _ | none :: _, _ :: _, [], _, _, q, _ | some _ :: _, [], _, _, _, q, _ | some _ :: _, _ :: _, [], _, _, q, _ => q.elim
theorem putJ_len : ∀ (js : List (Option Nat)) (os : List D) (ρ : Rho), (putJ js os ρ).length = ρ.length
  | [], _, _ => rfl
  | none :: js, os, ρ => putJ_len js os ρ
  | some i :: js, [], ρ => rfl
  | some i :: js, o :: os, ρ => by
    show (putJ js os (ρ.set i (some o))).length = _
    rw [putJ_len js os, List.length_set]
theorem putJ_bound {i : Nat} : ∀ {js : List (Option Nat)} {os : List D} {ρ : Rho}, (∃ d, ρ[i]? = some (some d)) → ∃ d, (putJ js os ρ)[i]? = some (some d)
  | [], _, _, h => h
  | none :: js, os, ρ, h => putJ_bound (js := js) h
  | some j :: js, [], ρ, h => h
  | some j :: js, o :: os, ρ, ⟨d, h⟩ => by
    refine putJ_bound (js := js) (os := os) (ρ := ρ.set j (some o)) ?_
    by_cases z : j = i
    · subst z; exact ⟨o, List.getElem?_set_self (List.getElem?_eq_some_iff.mp h).1⟩
    · exact ⟨d, by rw [List.getElem?_set_ne z]; exact h⟩
/-- the slots behind a call -/
theorem putJ_at {K : PySem.W.Frag} {σ : L2.St} {H' G G' : Hp} {i : Nat} {d : D} : ∀ {js : List (Option Nat)} {ks : List (Option OKd)} {vs : List V} {ds os : List D} {ρ : Rho}, kindsJ O js = kindsK ks → JAll K σ G js vs ds → OutZ K H' G' ks vs os → (putJ js os ρ)[i]? = some (some d) →
    (ρ[i]? = some (some d) ∧ some i ∉ js) ∨ (some i ∈ js ∧ ∃ a k, σ[i]? = some (some (.ref a)) ∧ ok O i = some k ∧ OwnAt K H' G' k a d ∧ G' a = none)
  | [], ks, vs, ds, os, ρ, _, _, _, h => .inl ⟨h, by simp⟩
  | none :: js, [], _, _, _, _, hk, _, _, _ => by cases hk
  | some _ :: js, [], _, _, _, _, hk, _, _, _ => by cases hk
  | none :: js, some k :: ks, _, _, _, _, hk, _, _, _ => by simp [kindsJ, kindsK] at hk
  | none :: js, none :: ks, v :: vs, d0 :: ds, os, ρ, hk, ⟨_, b⟩, ho, h => by
    have hk' : kindsJ O js = kindsK ks := by simpa [kindsJ, kindsK] using hk
    rcases putJ_at hk' b ho h with ⟨h1, h2⟩ | ⟨h1, h2⟩
    · exact .inl ⟨h1, by simpa using h2⟩
    · exact .inr ⟨by simp [h1], h2⟩
  | some j :: js, none :: ks, _, _, _, _, hk, _, _, _ => by simp [kindsJ, kindsK] at hk
  | some j :: js, some k :: ks, v :: vs, d0 :: ds, o :: os, ρ, hk, ⟨a0, b⟩, ⟨⟨a, ev, w, g⟩, ho⟩, h => by
    have hk' : ok O j = some k ∧ kindsJ O js = kindsK ks := by simpa [kindsJ, kindsK] using hk
    rcases putJ_at hk'.2 b ho (show (putJ js os (ρ.set j (some o)))[i]? = some (some d) from h) with ⟨h1, h2⟩ | ⟨h1, h2⟩
    · by_cases z : j = i
      · subst z
        have hl : j < ρ.length := by
          have := (List.getElem?_eq_some_iff.mp h1).1
          simpa using this
        rw [List.getElem?_set_self hl] at h1
        cases h1
        subst ev
        exact .inr ⟨by simp, a, k, a0, hk'.1, w, g⟩
      · rw [List.getElem?_set_ne z] at h1
        refine .inl ⟨h1, ?_⟩
        simp only [List.mem_cons, not_or]
        exact ⟨fun e => z (Option.some.inj e).symm, h2⟩
    · exact .inr ⟨by simp [h1], h2⟩
  | some j :: js, some k :: ks, v :: vs, d0 :: ds, [], ρ, hk, _, ho, h => ho.elim
  | none :: _, none :: _, [], _, _, _, _, q, _, _ | none :: _, none :: _, _ :: _, [], _, _, _, q, _, _ | some _ :: _, some _ :: _, [], _, _, _, _, q, _, _ | some _ :: _, some _ :: _, _ :: _, [], _, _, _, q, _, _ => q.elim
open Classical in
/-- the caller's heap without what is handed over -/
noncomputable def lessJ (σ : L2.St) (js : List (Option Nat)) (H : Hp) : Hp := fun a => if (∃ i, some i ∈ js ∧ σ[i]? = some (some (.ref a))) then none else H a
theorem less_some {σ : L2.St} {js : List (Option Nat)} {H : Hp} {a : Addr} {o : HO} (h : lessJ σ js H a = some o) : H a = some o := by
  unfold lessJ at h
  split at h
  · cases h
  · exact h
theorem less_in {σ : L2.St} {js : List (Option Nat)} {H : Hp} {a : Addr} {i : Nat} (h : some i ∈ js) (q : σ[i]? = some (some (.ref a))) : lessJ σ js H a = none := by
  unfold lessJ
  rw [if_pos ⟨i, h, q⟩]
theorem less_out {σ : L2.St} {js : List (Option Nat)} {H : Hp} {a : Addr} (h : ∀ i, some i ∈ js → σ[i]? ≠ some (some (.ref a))) : lessJ σ js H a = H a := by
  unfold lessJ
  rw [if_neg (fun ⟨i, h1, h2⟩ => h i h1 h2)]
section
variable {K : PySem.W.Frag} {F H G : Hp} {fx : List (Nat × Addr)} {σ : L2.St} {ρ : Rho} {js : List (Option Nat)} {ks : List (Option OKd)} {vs : List V} {ds ds' : List D}
theorem argZ_of (r : Rel K F fx O σ H ρ G) (hk : kindsJ O js = kindsK ks) (hj : distinctJ js = true) (ha : JAll K σ G js vs ds) (hf : fillJ js ds ρ = some ds') : ArgZ K H G (lessJ σ js H) ks vs ds' := by
  obtain ⟨l1, l2, q⟩ := ha.at hf
  have lk : ks.length = js.length := by
    have := congrArg List.length hk
    simpa [kindsJ, kindsK] using this.symm
  refine ⟨lk.trans l1, l2, fun m d e ed => ?_, fun m k d e ed => ?_, fun m m' k l a e e' h h' => ?_⟩
  · obtain ⟨v, hv, h1, _⟩ := q m d ed
    exact ⟨v, hv, h1 (kinds_none hk e)⟩
  · obtain ⟨v, hv, _, h2⟩ := q m d ed
    obtain ⟨i, hi, ho⟩ := kinds_own hk e
    obtain ⟨h3, h4⟩ := h2 i hi
    obtain ⟨a, qa, w, f, g⟩ := r.ow i d k (getS_some h4) ho
    rw [h3] at qa
    cases qa
    exact ⟨a, hv, w, less_in (List.mem_iff_getElem?.mpr ⟨_, hi⟩) h3, g⟩
  · obtain ⟨i, hi, ho⟩ := kinds_own hk e
    obtain ⟨i', hi', ho'⟩ := kinds_own hk e'
    have t1 : ∃ d, ds'[m]? = some d := by
      have : m < ds'.length := by have := (List.getElem?_eq_some_iff.mp h).1; omega
      exact ⟨_, List.getElem?_eq_getElem this⟩
    have t2 : ∃ d, ds'[m']? = some d := by
      have : m' < ds'.length := by have := (List.getElem?_eq_some_iff.mp h').1; omega
      exact ⟨_, List.getElem?_eq_getElem this⟩
    obtain ⟨d, hd⟩ := t1
    obtain ⟨d', hd'⟩ := t2
    obtain ⟨v, hv, _, h2⟩ := q m d hd
    obtain ⟨v', hv', _, h2'⟩ := q m' d' hd'
    rw [h] at hv; cases hv
    rw [h'] at hv'; cases hv'
    obtain ⟨s1, s2⟩ := h2 i hi
    obtain ⟨s1', s2'⟩ := h2' i' hi'
    have ei := r.dj i i' d d' k l a (getS_some s2) (getS_some s2') ho ho' s1 s1'
    subst ei
    exact distinctJ_at hj hi hi'
/-- behind a call -/
theorem Rel.behind (r : Rel K F fx O σ H ρ G) (hk : kindsJ O js = kindsK ks) (ha : JAll K σ G js vs ds) (hf : fillJ js ds ρ = some ds') {H' G' : Hp} {os : List D} (hF : ∀ a o, lessJ σ js H a = some o → H' a = some o) (hG : ∀ a o, G' a = some o → H' a = some o)
    (e : Ext (lessJ σ js H) G G') (ho : OutZ K H' G' ks vs os) : Rel K F fx O σ H' (putJ js os ρ) G' ∧ Ext F G G' := by
  obtain ⟨l1, l2, q⟩ := ha.at hf
  -- a slot that is handed over is bound
  have bnd : ∀ i, some i ∈ js → ∃ d, ρ[i]? = some (some d) := fun i hi => by
    obtain ⟨m, hm⟩ := List.mem_iff_getElem?.mp hi
    have : m < ds'.length := by have := (List.getElem?_eq_some_iff.mp hm).1; omega
    obtain ⟨v, _, _, h2⟩ := q m _ (List.getElem?_eq_getElem this)
    exact ⟨_, getS_some (h2 i hm).2⟩
  have kin : ∀ i, some i ∈ js → ∃ k, ok O i = some k := fun i hi => by
    obtain ⟨_, k, _, _, h⟩ := kinds_slot hk hi
    exact ⟨k, h⟩
  -- what is not handed over stays
  have stay : ∀ a, (∀ i, some i ∈ js → σ[i]? ≠ some (some (.ref a))) → lessJ σ js H a = H a := fun a h => less_out h
  have outF : ∀ a, F a ≠ none → ∀ i, some i ∈ js → σ[i]? ≠ some (some (.ref a)) := fun a h i hi z => by
    obtain ⟨d, hd⟩ := bnd i hi
    obtain ⟨k, hk'⟩ := kin i hi
    obtain ⟨b, qb, _, f, _⟩ := r.ow i d k hd hk'
    rw [z] at qb; cases qb
    exact h f
  have back : ∀ i d, (putJ js os ρ)[i]? = some (some d) → ∃ d0, ρ[i]? = some (some d0) := fun i d h => by
    rcases putJ_at hk ha ho h with ⟨h1, _⟩ | ⟨h1, _⟩
    · exact ⟨d, h1⟩
    · exact bnd i h1
  have e' : Ext F G G' := ⟨e.1, fun a h n => e.2 a (by
    rw [stay a (outF a h)]
    cases z : F a with
    | none => exact absurd z h
    | some o => rw [r.fr a o z]; exact fun x => by cases x) n⟩
  refine ⟨⟨fun a o h => hF a o (by rw [stay a (outF a (by rw [h]; exact fun x => by cases x))]; exact r.fr a o h), hG, fun i d h n => ?_, fun i d k h n => ?_, fun i j d d' k l a h h' n n' s s' => ?_, fun p hp => ?_, ?_⟩, e'⟩
  · rcases putJ_at hk ha ho h with ⟨h1, _⟩ | ⟨_, a, k, _, z, _⟩
    · obtain ⟨v, h2, h3⟩ := r.sh i d h1 n
      exact ⟨v, h2, dp_mono e.1 h3⟩
    · rw [n] at z; cases z
  · rcases putJ_at hk ha ho h with ⟨h1, h2⟩ | ⟨hi, a, k', s, z, w, g⟩
    · obtain ⟨a, qa, w, f, g⟩ := r.ow i d k h1 n
      have ho' : ∀ j, some j ∈ js → σ[j]? ≠ some (some (.ref a)) := fun j hj s => by
        obtain ⟨d', hd'⟩ := bnd j hj
        obtain ⟨l, hl⟩ := kin j hj
        have := r.dj i j d d' k l a h1 hd' n hl qa s
        subst this
        exact h2 hj
      have hs := stay a ho'
      obtain ⟨o, hoa⟩ := w.there
      have hH' : H' a = H a := by rw [hoa]; exact hF a o (by rw [hs]; exact hoa)
      exact ⟨a, qa, w.mono e.1 hH', f, e.2 a (by rw [hs, hoa]; exact fun x => by cases x) g⟩
    · rw [n] at z; cases z
      obtain ⟨d0, hd0⟩ := bnd i hi
      obtain ⟨b, qb, _, f, _⟩ := r.ow i d0 k hd0 n
      rw [s] at qb; cases qb
      exact ⟨a, s, w, f, g⟩
  · obtain ⟨d0, h0⟩ := back i d h
    obtain ⟨d0', h0'⟩ := back j d' h'
    exact r.dj i j d0 d0' k l a h0 h0' n n' s s'
  · obtain ⟨h1, h2, h3⟩ := r.fx p hp
    exact ⟨h1, putJ_bound h2, h3⟩
  · rw [putJ_len]; exact r.len
end
/-- a call over trees -/
def callT (js : List (Option Nat)) (S : List D → Out (List D) D) (Ta : Rho → Out Rho (List D)) : Rho → Out Rho D := fun ρ => (Ta ρ).bind fun ds ρ1 => match fillJ js ds ρ1 with
  | none => .bad
  | some ds' => match S ds' with
    | .ok d os => .ok d (putJ js os ρ1)
    | .exc c fs os => .exc c fs (putJ js os ρ1)
    | .bad => .bad
/-- the promise holds at the call -/
theorem sp_call {js : List (Option Nat)} {ks : List (Option OKd)} {rk : Option OKd} {S : List D → Out (List D) D} {σ : L2.St} {H G F : Hp} {ρ : Rho} {vs : List V} {ds : List D} {Q : VK}
    (hk : kindsJ O js = kindsK ks) (hj : distinctJ js = true) (r : Rel X.K F P.fx O σ H ρ G) (ha : JAll X.K σ G js vs ds)
    (h : Fin X.K X.mg P O σ F (RetR X.K O rk) G (match fillJ js ds ρ with | none => .bad | some ds' => match S ds' with | .ok d os => .ok d (putJ js os ρ) | .exc c fs os => .exc c fs (putJ js os ρ) | .bad => .bad) Q) :
    spZ X.K X.mg ks rk S vs H Q (WE P.W σ) := by
  cases hf : fillJ js ds ρ with
  | none => rw [hf] at h; exact h.elim
  | some ds' =>
    rw [hf] at h
    refine ⟨ds', G, lessJ σ js H, fun a o e => less_some e, r.gr, argZ_of r hk hj ha hf, ?_⟩
    cases hS : S ds' with
    | ok d os =>
      simp only [hS] at h
      intro v H' G' hF hG e ho hr
      obtain ⟨r', e'⟩ := r.behind hk ha hf hF hG e ho
      refine h v H' G' r' e' ?_
      cases rk with
      | none => exact hr
      | some k =>
        obtain ⟨p, rfl, w, f, g, hn⟩ := hr
        have nin : ∀ i, some i ∈ js → σ[i]? ≠ some (some (.ref p)) := fun i hi s => by
          obtain ⟨m, l, hm, hl, _⟩ := kinds_slot hk hi
          obtain ⟨l1, l2, q⟩ := ha.at hf
          have lt : m < ds'.length := by have := (List.getElem?_eq_some_iff.mp hm).1; omega
          obtain ⟨v, hv, _, h2⟩ := q m _ (List.getElem?_eq_getElem lt)
          have := (h2 i hm).1
          rw [s] at this
          cases this
          exact hn m l hl hv
        have hs := less_out (H := H) nin
        rw [hs] at f
        refine ⟨p, rfl, w, ?_, g, fun j x l hb hl s => ?_⟩
        · cases z : F p with
          | none => rfl
          | some o => rw [r.fr p o z] at f; cases f
        · rcases putJ_at hk ha ho hb with ⟨h1, _⟩ | ⟨h1, _⟩
          · exact r.own_ne f h1 hl s rfl
          · exact nin j h1 s
    | exc c fs os =>
      simp only [hS] at h
      intro cls de H' G' hF hG e ho hr
      obtain ⟨r', e'⟩ := r.behind hk ha hf hF hG e ho
      exact h cls de H' G' r' e' hr
    | bad => simp only [hS] at h; exact h.elim
section
variable {k : Nat} {f : Addr} {fd : FuncData} {ps : List Str} {x : Str} {p pos : Pos} {e : Expr} {es : List Expr} {js : List (Option Nat)} {ks : List (Option OKd)} {S : List D → Out (List D) D} {T : Rho → Out Rho (List D)}
theorem px_call {rk : Option OKd} (Fn : FnOk X.prog X.w X.K X.mg X.base (L2.CX X.prog X.w) k f fd ps (spZ X.K X.mg ks rk S)) (hr : Room k X.A) (hm : X.mg x = some (.ref f)) (hkp : PySem.W.keepIn X.K (.ref f) = true) (hb : Binds X.K fd ps []) (tk : Takes X P.W)
    (ha : AJ X P O (e :: es) js T) (hk : kindsJ O js = kindsK ks := by rfl) (hj : distinctJ js = true := by rfl) (hg : Gl X x := by rfl) (hdb : (x == ("__debug__" : Str)) = false := by decide) (he : starEach (e :: es) X.env = (false, eval e X.env) :: starEach es X.env := by rfl) (hpl : (backTo pos (starEach es X.env)).any (·.1) = false := by rfl) :
    PE X (.Call (.Name x p) (e :: es) [] pos) (tX X P O (RetR X.K O rk) (callT js S T)) := by
  refine pe_mono (pe_callS (E := WE P.W) Fn hr hg hm hkp hb (fun σ => passAt tk σ) ha hdb he hpl) fun σ H Q ⟨ρ, G, F, rr, h⟩ => ?_
  refine tX_bind' (R := rJ X.K js) rr h fun vs H1 ds ρ1 G1 r1 e1 p1 h1 => ?_
  exact sp_call hk hj r1 p1 h1
theorem ex_call (Fn : FnOk X.prog X.w X.K X.mg X.base (L2.CX X.prog X.w) k f fd ps (spZ X.K X.mg ks none S)) (hr : Room k X.A) (hm : X.mg x = some (.ref f)) (hkp : PySem.W.keepIn X.K (.ref f) = true) (hb : Binds X.K fd ps []) (tk : Takes X P.W)
    (ha : AJ X P O (e :: es) js T) (hk : kindsJ O js = kindsK ks := by rfl) (hj : distinctJ js = true := by rfl) (hg : Gl X x := by rfl) (hdb : (x == ("__debug__" : Str)) = false := by decide) (he : starEach (e :: es) X.env = (false, eval e X.env) :: starEach es X.env := by rfl) (hpl : (backTo pos (starEach es X.env)).any (·.1) = false := by rfl) :
    EX X P O (.Call (.Name x p) (e :: es) [] pos) (callT js S T) := px_call Fn hr hm hkp hb tk ha hk hj hg hdb he hpl
theorem fx_call {kd : OKd} (Fn : FnOk X.prog X.w X.K X.mg X.base (L2.CX X.prog X.w) k f fd ps (spZ X.K X.mg ks (some kd) S)) (hr : Room k X.A) (hm : X.mg x = some (.ref f)) (hkp : PySem.W.keepIn X.K (.ref f) = true) (hb : Binds X.K fd ps []) (tk : Takes X P.W)
    (ha : AJ X P O (e :: es) js T) (hk : kindsJ O js = kindsK ks := by rfl) (hj : distinctJ js = true := by rfl) (hg : Gl X x := by rfl) (hdb : (x == ("__debug__" : Str)) = false := by decide) (he : starEach (e :: es) X.env = (false, eval e X.env) :: starEach es X.env := by rfl) (hpl : (backTo pos (starEach es X.env)).any (·.1) = false := by rfl) :
    FX X P O kd (.Call (.Name x p) (e :: es) [] pos) (callT js S T) := px_call Fn hr hm hkp hb tk ha hk hj hg hdb he hpl
end
end
end Z

/-! file ZFun -/
set_option Elab.async false
set_option linter.all false
set_option autoImplicit false
set_option maxRecDepth 100000
set_option maxHeartbeats 4000000
/-! from a body to its def's promise -/
namespace Z
open PySem PySem.Spec PyProof.Rows L2

def rho0 (n : Nat) (ds : List D) : Rho := ds.map some ++ List.replicate (n - ds.length) none
def own0 (n : Nat) (ks : List (Option OKd)) : Own := ks ++ List.replicate (n - ks.length) none
/-- where the owned ones stand -/
def ownIx : Nat → List (Option OKd) → List Nat
  | _, [] => []
  | i, none :: ks => ownIx (i + 1) ks
  | i, some _ :: ks => i :: ownIx (i + 1) ks
def fxOf : Nat → List (Option OKd) → List V → List (Nat × Addr)
  | i, none :: ks, _ :: vs => fxOf (i + 1) ks vs
  | i, some _ :: ks, .ref a :: vs => (i, a) :: fxOf (i + 1) ks vs
  | i, some _ :: ks, _ :: vs => fxOf (i + 1) ks vs
  | _, _, _ => []
def outsOf (is : List Nat) (ρ : Rho) : List D := is.map fun i => (getS i ρ).getD .none
/-- what a def computes -/
def runF (is : List Nat) (n : Nat) (T : Rho → Out Rho Flw) : List D → Out (List D) D := fun ds => match T (rho0 n ds) with
  | .ok (.rt d) ρ => .ok d (outsOf is ρ)
  | .ok .nx ρ => .ok .none (outsOf is ρ)
  | .ok .bk _ => .bad
  | .ok .ct _ => .bad
  | .exc c fs ρ => .exc c fs (outsOf is ρ)
  | .bad => .bad
theorem fxOf_at : ∀ {ks : List (Option OKd)} {vs : List V} {i : Nat} {p : Nat × Addr}, p ∈ fxOf i ks vs → ∃ (m : Nat) (k : OKd), p.1 = i + m ∧ ks[m]? = some (some k) ∧ vs[m]? = some (.ref p.2)
  | [], vs, i, p, h => by cases vs <;> simp [fxOf] at h
  | none :: ks, [], i, p, h => by simp [fxOf] at h
  | some _ :: ks, [], i, p, h => by simp [fxOf] at h
  | none :: ks, v :: vs, i, p, h => by
    obtain ⟨m, k, h1, h2, h3⟩ := fxOf_at (show p ∈ fxOf (i + 1) ks vs from h)
    exact ⟨m + 1, k, by omega, h2, h3⟩
  | some k0 :: ks, v :: vs, i, p, h => by
    have back : p ∈ fxOf (i + 1) ks vs → ∃ (m : Nat) (k : OKd), p.1 = i + m ∧ (some k0 :: ks)[m]? = some (some k) ∧ (v :: vs)[m]? = some (.ref p.2) := fun h => by
      obtain ⟨m, k, h1, h2, h3⟩ := fxOf_at h
      exact ⟨m + 1, k, by omega, h2, h3⟩
    cases v with
    | ref a =>
      rcases List.mem_cons.mp (show p ∈ (i, a) :: fxOf (i + 1) ks vs from h) with h | h
      · subst h
        exact ⟨0, k0, rfl, rfl, rfl⟩
      · exact back h
    | _ => exact back h
theorem fxOf_in : ∀ {ks : List (Option OKd)} {vs : List V} {i m : Nat} {k : OKd} {a : Addr}, ks[m]? = some (some k) → vs[m]? = some (.ref a) → (i + m, a) ∈ fxOf i ks vs
  | [], vs, i, m, k, a, h, _ => by simp at h
  | _ :: _, [], i, m, k, a, _, h => by simp at h
  | none :: ks, v :: vs, i, 0, k, a, h, h' => by simp at h
  | none :: ks, v :: vs, i, m + 1, k, a, h, h' => by
    have q := fxOf_in (i := i + 1) (show ks[m]? = some (some k) from h) (show vs[m]? = some (.ref a) from h')
    rw [show i + (m + 1) = i + 1 + m by omega]
    exact q
  | some k0 :: ks, v :: vs, i, 0, k, a, h, h' => by
    simp at h'
    subst h'
    exact List.mem_cons_self
  | some k0 :: ks, v :: vs, i, m + 1, k, a, h, h' => by
    have q := fxOf_in (i := i + 1) (show ks[m]? = some (some k) from h) (show vs[m]? = some (.ref a) from h')
    rw [show i + (m + 1) = i + 1 + m by omega]
    cases v with
    | ref b => exact List.mem_cons_of_mem _ q
    | _ => exact q
theorem rho0_get {n : Nat} {ds : List D} {i : Nat} {d : D} (h : (rho0 n ds)[i]? = some (some d)) : ds[i]? = some d := by
  unfold rho0 at h
  by_cases hl : i < ds.length
  · rw [List.getElem?_append_left (by simpa using hl), List.getElem?_map] at h
    cases e : ds[i]? with
    | none => rw [e] at h; cases h
    | some u => rw [e] at h; cases h; rfl
  · rw [List.getElem?_append_right (by simpa using hl), List.getElem?_replicate] at h
    split at h <;> cases h
theorem rho0_in {n : Nat} {ds : List D} {i : Nat} {d : D} (h : ds[i]? = some d) : (rho0 n ds)[i]? = some (some d) := by
  unfold rho0
  have hl := (List.getElem?_eq_some_iff.mp h).1
  rw [List.getElem?_append_left (by simpa using hl), List.getElem?_map, h] <;> rfl
theorem start_in {N : List Str} {vs : List V} {i : Nat} {v : V} (h : vs[i]? = some v) : (start N vs)[i]? = some (some v) := by
  unfold L2.start
  have hl := (List.getElem?_eq_some_iff.mp h).1
  rw [List.getElem?_append_left (by simpa using hl), List.getElem?_map, h] <;> rfl
theorem start_get {N : List Str} {vs : List V} {i : Nat} {v : V} (h : (start N vs)[i]? = some (some v)) : vs[i]? = some v := by
  unfold L2.start at h
  by_cases hl : i < vs.length
  · rw [List.getElem?_append_left (by simpa using hl), List.getElem?_map] at h
    cases e : vs[i]? with
    | none => rw [e] at h; cases h
    | some u => rw [e] at h; cases h; rfl
  · rw [List.getElem?_append_right (by simpa using hl), List.getElem?_replicate] at h
    split at h <;> cases h
theorem own0_at {n : Nat} {ks : List (Option OKd)} {i : Nat} {k : OKd} (h : ok (own0 n ks) i = some k) : ks[i]? = some (some k) := by
  unfold ok own0 at h
  by_cases hl : i < ks.length
  · rw [List.getElem?_append_left hl] at h
    cases e : ks[i]? with
    | none => rw [e] at h; cases h
    | some u => rw [e] at h; exact congrArg some h
  · rw [List.getElem?_append_right (by omega), List.getElem?_replicate] at h
    split at h <;> cases h
theorem own0_in {n : Nat} {ks : List (Option OKd)} {i : Nat} {k : OKd} (h : ks[i]? = some (some k)) : ok (own0 n ks) i = some k := by
  unfold ok own0
  rw [List.getElem?_append_left (List.getElem?_eq_some_iff.mp h).1, h] <;> rfl
section
variable {K : PySem.W.Frag} {F H G : Hp} {ks : List (Option OKd)} {vs : List V} {ds : List D} {N : List Str}
/-- the state at a body's start -/
theorem start_rel (hF : ∀ a o, F a = some o → H a = some o) (hG : ∀ a o, G a = some o → H a = some o) (A : ArgZ K H G F ks vs ds) : Rel K F (fxOf 0 ks vs) (own0 N.length ks) (start N vs) H (rho0 N.length ds) G where
  fr := hF
  gr := hG
  sh := fun i d h n => by
    have hd := rho0_get h
    have hk : ks[i]? = some none := by
      have hl : i < ks.length := by have := (List.getElem?_eq_some_iff.mp hd).1; rw [A.l1, A.l2]; exact this
      cases e : ks[i]? with
      | none => rw [List.getElem?_eq_getElem hl] at e; cases e
      | some u =>
        cases u with
        | none => rfl
        | some k => rw [own0_in e] at n; cases n
    obtain ⟨v, hv, p⟩ := A.sh i d hk hd
    exact ⟨v, start_in hv, p⟩
  ow := fun i d k h n => by
    obtain ⟨a, hv, w, f, g⟩ := A.ow i k d (own0_at n) (rho0_get h)
    exact ⟨a, start_in hv, w, f, g⟩
  dj := fun i j d e k l a h h' n n' s s' => A.dj i j k l a (own0_at n) (own0_at n') (start_get s) (start_get s')
  fx := fun p hp => by
    obtain ⟨m, k, h1, h2, h3⟩ := fxOf_at hp
    have hm : p.1 = m := by omega
    rw [hm]
    have hl : m < ds.length := by have := (List.getElem?_eq_some_iff.mp h2).1; rw [← A.l2, ← A.l1]; exact this
    exact ⟨⟨k, own0_in h2⟩, ⟨_, rho0_in (List.getElem?_eq_getElem hl)⟩, start_in h3⟩
  len := by unfold rho0 L2.start; simp [A.l2]
theorem outZ_of {G' H' : Hp} {ρ : Rho} : ∀ {ks : List (Option OKd)} {vs : List V} {i : Nat}, ks.length = vs.length → (∀ m k, ks[m]? = some (some k) → ∃ a d, vs[m]? = some (.ref a) ∧ getS (i + m) ρ = some d ∧ OwnAt K H' G' k a d ∧ G' a = none) → OutZ K H' G' ks vs (outsOf (ownIx i ks) ρ)
  | [], [], i, _, _ => trivial
  | [], _ :: _, i, h, _ => by cases h
  | _ :: _, [], i, h, _ => by cases h
  | none :: ks, v :: vs, i, hl, h => by
    show OutZ K H' G' ks vs (outsOf (ownIx (i + 1) ks) ρ)
    refine outZ_of (Nat.succ.inj hl) fun m k e => ?_
    obtain ⟨a, d, h1, h2, h3⟩ := h (m + 1) k e
    exact ⟨a, d, h1, by rw [show i + 1 + m = i + (m + 1) by omega]; exact h2, h3⟩
  | some k0 :: ks, v :: vs, i, hl, h => by
    show (∃ a, v = .ref a ∧ OwnAt K H' G' k0 a ((getS i ρ).getD .none) ∧ G' a = none) ∧ OutZ K H' G' ks vs (outsOf (ownIx (i + 1) ks) ρ)
    refine ⟨?_, outZ_of (Nat.succ.inj hl) fun m k e => ?_⟩
    · obtain ⟨a, d, h1, h2, h3⟩ := h 0 k0 rfl
      rw [show i + 0 = i by omega] at h2
      rw [h2]
      simp at h1
      exact ⟨a, h1, h3⟩
    · obtain ⟨a, d, h1, h2, h3⟩ := h (m + 1) k e
      exact ⟨a, d, h1, by rw [show i + 1 + m = i + (m + 1) by omega]; exact h2, h3⟩
/-- the parameters that own, at an end -/
def exOf (ks : List (Option OKd)) (O : Own) : Prop := ∀ (m : Nat) (k : OKd), ks[m]? = some (some k) → ok O m = some k
theorem outs_end {G' H' : Hp} {ρ : Rho} {σ : L2.St} {Ox : Own} (A : ArgZ K H G F ks vs ds) (hx : exOf ks Ox) (r : Rel K F (fxOf 0 ks vs) Ox σ H' ρ G') : OutZ K H' G' ks vs (outsOf (ownIx 0 ks) ρ) ∧ ∀ (i : Nat) (l : OKd), ks[i]? = some (some l) → ∃ d, ρ[i]? = some (some d) ∧ ok Ox i = some l ∧ ∃ a, vs[i]? = some (.ref a) ∧ σ[i]? = some (some (.ref a)) := by
  have at_ : ∀ (i : Nat) (l : OKd), ks[i]? = some (some l) → ∃ d, ρ[i]? = some (some d) ∧ ok Ox i = some l ∧ ∃ a, vs[i]? = some (.ref a) ∧ σ[i]? = some (some (.ref a)) := fun i l h => by
    have hl : i < ds.length := by have := (List.getElem?_eq_some_iff.mp h).1; rw [← A.l2, ← A.l1]; exact this
    obtain ⟨a, hv, _⟩ := A.ow i l _ h (List.getElem?_eq_getElem hl)
    have hp := fxOf_in (i := 0) h hv
    obtain ⟨_, ⟨d, hd⟩, hs⟩ := r.fx _ hp
    simp only [Nat.zero_add] at hd hs
    exact ⟨d, hd, hx i l h, a, hv, hs⟩
  refine ⟨outZ_of A.l1 fun m k e => ?_, at_⟩
  obtain ⟨d, hd, ho, a, hv, hs⟩ := at_ m k e
  obtain ⟨b, qb, w, _, g⟩ := r.ow m d k hd ho
  rw [hs] at qb; cases qb
  refine ⟨a, d, hv, ?_, w, g⟩
  rw [Nat.zero_add]; unfold getS; rw [hd]; rfl
end
section
variable {P : Program} {w : World} {K : PySem.W.Frag} {mg : Str → Option Value} {base : Heap}
/-- the state a body is proved in -/
structure Bod (X : Cx) (k : Nat) (W : WX) : Prop where
  room : Room k X.A
  calm : X.calm = true
  own : PassesOwn (model X.prog X.w) X.A X.env X.xe
  tk : Takes X W
theorem Bod.hu {X : Cx} {k : Nat} {W : WX} (b : Bod X k W) : X.A.units + 64 < cLine := b.room.units
/-- THE RULE for a def -/
theorem fnZr {x qual : Str} {st : Stmt} {f : Addr} {fd : FuncData} {N ps : List Str} {k : Nat} {ks : List (Option OKd)} {rk : Option OKd} {lp O' : Own} {T : Rho → Out Rho Flw} (F : Fun K x qual st f fd) (S : FnScope N ps (defScope st)) (hl : ks.length = ps.length)
    (hb : ∀ (cdv : Value) (A : Around) (outer : List Env) (s : Shared) (H : Hp) (E : XK) (vs : List V), (∀ (i : Nat) (k : OKd), ks[i]? = some (some k) → ∃ a : Addr, vs[i]? = some (.ref a)) → Bod (cxOf (L2.CX P w) P w K mg base N qual (defScope st) f cdv A outer s H E) k (fun cls d _ H => E cls d H) →
      BX (cxOf (L2.CX P w) P w K mg base N qual (defScope st) f cdv A outer s H E) ⟨fxOf 0 ks vs, fun cls d _ H => E cls d H⟩ ⟨lp, exOf ks, rk⟩ (own0 N.length ks) O' (defBody st) T)
    (hx : rk = none ∨ ∀ ρ0 ρ, T ρ0 ≠ .ok .nx ρ) (hO' : exOf ks O') : FnOk P w K mg base (L2.CX P w) (k + 1) f fd ps (spZ K mg ks rk (runF (ownIx 0 ks) N.length T)) := by
  refine F.okX S (fun vs H Q E ⟨ds, G, F, _, _, A, _⟩ => by rw [← A.l1, hl]) fun cdv A outer s H vs Q E hr ⟨ds, G, F0, hF, hG, AZ, hp⟩ => ?_
  refine ⟨_, hb cdv A outer s H E vs (fun i l h => by
    have hl : i < ds.length := by have := (List.getElem?_eq_some_iff.mp h).1; rw [← AZ.l2, ← AZ.l1]; exact this
    obtain ⟨a, ha, _⟩ := AZ.ow i l _ h (List.getElem?_eq_getElem hl)
    exact ⟨a, ha⟩) ⟨hr, rfl, passes_of rfl, takes_of rfl rfl rfl rfl⟩, rho0 N.length ds, G, F0, start_rel hF hG AZ, ?_⟩
  unfold runF at hp
  cases z : T (rho0 N.length ds) with
  | ok fl ρ' =>
    rw [z] at hp
    cases fl with
    | nx =>
      intro σ' H' G' r e
      obtain ⟨o1, o2⟩ := outs_end AZ hO' r
      refine hp .non H' G' r.fr r.gr e o1 ?_
      rcases hx with rfl | hx
      · exact .non
      · exact absurd z (hx _ _)
    | bk => exact hp.elim
    | ct => exact hp.elim
    | rt d =>
      intro v σ' H' G' Or hxr r e hv
      obtain ⟨o1, o2⟩ := outs_end AZ hxr r
      refine hp v H' G' r.fr r.gr e o1 ?_
      cases rk with
      | none => exact hv
      | some k =>
        obtain ⟨p, rfl, w, f, g, hn⟩ := hv
        refine ⟨p, rfl, w, f, g, fun i l h z => ?_⟩
        obtain ⟨d', hd, ho, a, hva, hs⟩ := o2 i l h
        rw [hva] at z; cases z
        exact hn i d' l hd ho hs
  | exc c fs ρ' =>
    rw [z] at hp
    intro σ' cls de H' G' Ox hxr r e hv
    obtain ⟨o1, _⟩ := outs_end AZ hxr r
    exact hp cls de H' G' r.fr r.gr e o1 hv
  | bad => rw [z] at hp; exact hp.elim
theorem fnZ {x qual : Str} {st : Stmt} {f : Addr} {fd : FuncData} {N ps : List Str} {k : Nat} {ks : List (Option OKd)} {rk : Option OKd} {lp O' : Own} {T : Rho → Out Rho Flw} (F : Fun K x qual st f fd) (S : FnScope N ps (defScope st)) (hl : ks.length = ps.length)
    (hb : ∀ (cdv : Value) (A : Around) (outer : List Env) (s : Shared) (H : Hp) (E : XK) (vs : List V), True → Bod (cxOf (L2.CX P w) P w K mg base N qual (defScope st) f cdv A outer s H E) k (fun cls d _ H => E cls d H) →
      BX (cxOf (L2.CX P w) P w K mg base N qual (defScope st) f cdv A outer s H E) ⟨fxOf 0 ks vs, fun cls d _ H => E cls d H⟩ ⟨lp, exOf ks, rk⟩ (own0 N.length ks) O' (defBody st) T)
    (hx : rk = none ∨ ∀ ρ0 ρ, T ρ0 ≠ .ok .nx ρ) (hO' : exOf ks O') : FnOk P w K mg base (L2.CX P w) (k + 1) f fd ps (spZ K mg ks rk (runF (ownIx 0 ks) N.length T)) :=
  fnZr F S hl (fun cdv A outer s H E vs _ b => hb cdv A outer s H E vs trivial b) hx hO'
/-- a promise told by another function -/
theorem spZ_congr {k : Nat} {f : Addr} {fd : FuncData} {ps : List Str} {ks : List (Option OKd)} {rk : Option OKd} {S S' : List D → Out (List D) D} (F : FnOk P w K mg base (L2.CX P w) k f fd ps (spZ K mg ks rk S)) (h : ∀ ds, S' ds = .bad ∨ S ds = S' ds) : FnOk P w K mg base (L2.CX P w) k f fd ps (spZ K mg ks rk S') :=
  F.imp fun vs H Q E ⟨ds, G, F0, hF, hG, A, p⟩ => ⟨ds, G, F0, hF, hG, A, by
    rcases h ds with e | e
    · rw [e] at p; exact p.elim
    · rw [e]; exact p⟩
end
theorem exOf_none {n : Nat} {O : Own} : exOf (List.replicate n none) O := fun m k h => by
  rw [List.getElem?_replicate] at h
  split at h <;> cases h
end Z

/-! file ZPar -/
set_option Elab.async false
set_option linter.all false
set_option autoImplicit false
set_option maxRecDepth 100000
set_option maxHeartbeats 4000000
/-! a, b = x, y; *a, b = x -/
namespace Z
open PySem PySem.Spec PyProof.Rows L2

/-! ### values, some of them fresh -/
def AFs (K : PySem.W.Frag) (O : Own) (σ : L2.St) (ρ : Rho) (H G : Hp) : List (Option OKd) → Hp → List V → List D → Prop
  | [], _, [], [] => True
  | none :: ks, F, v :: vs, d :: ds => Dp K G v d ∧ AFs K O σ ρ H G ks F vs ds
  | some k :: ks, F, v :: vs, d :: ds => rF K O k F σ ρ H G v d ∧ ∃ p o, v = .ref p ∧ H p = some o ∧ AFs K O σ ρ H G ks (upd F p o) vs ds
  | _, _, _, _ => False
def rAF (K : PySem.W.Frag) (O : Own) (ks : List (Option OKd)) : RR (List V) (List D) := fun F σ ρ H G vs ds => AFs K O σ ρ H G ks F vs ds
def AFX (X : Cx) (P : Pm) (O : Own) (es : List Expr) (ks : List (Option OKd)) (T : Rho → Out Rho (List D)) : Prop := PA X es (tX X P O (rAF X.K O ks) T)
section
variable {K : PySem.W.Frag} {F H G : Hp} {fx : List (Nat × Addr)} {O : Own} {σ : L2.St} {ρ : Rho}
theorem Rel.widen (r : Rel K F fx O σ H ρ G) {p : Addr} {o : HO} (hp : H p = some o) (hn : ∀ j e l, ρ[j]? = some (some e) → ok O j = some l → σ[j]? ≠ some (some (.ref p))) : Rel K (upd F p o) fx O σ H ρ G where
  fr := fun a u h => by
    by_cases z : a = p
    · subst z; rw [upd_same] at h; cases h; exact hp
    · rw [upd_ne z] at h; exact r.fr a u h
  gr := r.gr
  sh := r.sh
  ow := fun i d k h n => by
    obtain ⟨a, q, w, f, g⟩ := r.ow i d k h n
    have ne : a ≠ p := fun z => by subst z; exact hn i d k h n q
    exact ⟨a, q, w, by rw [upd_ne ne]; exact f, g⟩
  dj := r.dj
  fx := r.fx
  len := r.len
theorem upd_frame {F : Hp} {p : Addr} {o : HO} (hF : F p = none) : ∀ a u, F a = some u → upd F p o a = some u := fun a u h => by rw [upd_ne (ne_of_none h hF)]; exact h
theorem upd_some {F : Hp} {p : Addr} {o : HO} : ∀ a, F a ≠ none → upd F p o a ≠ none := fun a h => by
  by_cases z : a = p
  · subst z; rw [upd_same]; exact fun x => by cases x
  · rw [upd_ne z]; exact h
theorem rF_less {F F' : Hp} (h : ∀ a, F a ≠ none → F' a ≠ none) {k : OKd} {v : V} {d : D} (f : rF K O k F' σ ρ H G v d) : rF K O k F σ ρ H G v d := by
  obtain ⟨p, e, w, f, g, n⟩ := f
  refine ⟨p, e, w, ?_, g, n⟩
  cases z : F p with
  | none => rfl
  | some u => exact absurd f (h p (by rw [z]; exact fun x => by cases x))
theorem AFs.less {F F' : Hp} (h : ∀ a, F a ≠ none → F' a ≠ none) : ∀ {ks : List (Option OKd)} {F F' : Hp} {vs : List V} {ds : List D}, (∀ a, F a ≠ none → F' a ≠ none) → AFs K O σ ρ H G ks F' vs ds → AFs K O σ ρ H G ks F vs ds
  | [], _, _, [], [], _, _ => trivial
  | none :: ks, F, F', v :: vs, d :: ds, h, ⟨a, b⟩ => ⟨a, AFs.less (ks := ks) h h b⟩
  | some k :: ks, F, F', v :: vs, d :: ds, h, ⟨a, p, o, e, hp, b⟩ => ⟨rF_less h a, p, o, e, hp, AFs.less (ks := ks) h (fun x hx => by
      by_cases z : x = p
      · subst z; rw [upd_same]; exact fun x => by cases x
      · rw [upd_ne z] at hx ⊢; exact h x hx) b⟩
  | [], _, _, [], _ :: _, _, q | [], _, _, _ :: _, _, _, q | none :: _, _, _, [], _, _, q | none :: _, _, _, _ :: _, [], _, q | some _ :: _, _, _, [], _, _, q | some _ :: _, _, _, _ :: _, [], _, q => q.elim
/-- a value is stored; k: fresh, or not -/
theorem Rel.put (r : Rel K F fx O σ H ρ G) {i : Nat} {k : Option OKd} {v : V} {d : D} (hO : i < O.length) (hfx : ∀ p ∈ fx, p.1 ≠ i) (h : match k with | none => Dp K G v d | some k => rF K O k F σ ρ H G v d) : Rel K F fx (O.set i k) (σ.set i (some v)) H (ρ.set i (some d)) G := by
  cases k with
  | none => exact r.setAny hO hfx h
  | some k =>
    obtain ⟨p, rfl, w, f, g, n⟩ := h
    exact r.setOwn hO hfx w f g fun j e l _ h1 h2 => n j e l h1 h2
/-- what is to be stored next is still there -/
theorem AFs.put {i : Nat} {k : Option OKd} {v : V} {d : D} (hO : i < O.length) (hl : ρ.length = σ.length) : ∀ {ks : List (Option OKd)} {F : Hp} {vs : List V} {ds : List D}, (k ≠ none → ∃ p o, v = .ref p ∧ F p = some o) → AFs K O σ ρ H G ks F vs ds → AFs K (O.set i k) (σ.set i (some v)) (ρ.set i (some d)) H G ks F vs ds
  | [], _, [], [], _, _ => trivial
  | none :: ks, F, w :: vs, e :: ds, hk, ⟨a, b⟩ => ⟨a, AFs.put hO hl (ks := ks) hk b⟩
  | some l :: ks, F, w :: vs, e :: ds, hk, ⟨⟨q, ew, a1, a2, a3, a4⟩, p, o, e1, e2, b⟩ => by
    refine ⟨⟨q, ew, a1, a2, a3, fun j x m hx hm => ?_⟩, p, o, e1, e2, AFs.put hO hl (ks := ks) (fun n => ?_) b⟩
    · rw [ok_set hO] at hm
      by_cases z : i = j
      · subst z
        rw [if_pos rfl] at hm
        rw [List.getElem?_set_self (by have := (List.getElem?_eq_some_iff.mp hx).1; simp at this; omega)]
        obtain ⟨p', o', e', f'⟩ := hk (by rw [hm]; exact fun x => by cases x)
        subst e'
        intro y
        cases y
        rw [a2] at f'
        cases f'
      · rw [if_neg z] at hm
        rw [List.getElem?_set_ne z] at hx ⊢
        exact a4 j x m hx hm
    · obtain ⟨p', o', e', f'⟩ := hk n
      by_cases z : p' = p
      · subst z; exact ⟨p', o, e', upd_same⟩
      · exact ⟨p', o', e', by rw [upd_ne z]; exact f'⟩
  | [], _, [], _ :: _, _, q | [], _, _ :: _, _, _, q | none :: _, _, [], _, _, q | none :: _, _, _ :: _, [], _, q | some _ :: _, _, [], _, _, q | some _ :: _, _, _ :: _, [], _, q => q.elim
/-- one after the other -/
theorem Rel.puts2 (r : Rel K F fx O σ H ρ G) {i j : Nat} {k l : Option OKd} {v w : V} {d e : D} (hi : i < O.length) (hj : j < O.length) (fi : ∀ p ∈ fx, p.1 ≠ i) (fj : ∀ p ∈ fx, p.1 ≠ j) (h : AFs K O σ ρ H G [k, l] F [v, w] [d, e]) :
    Rel K F fx ((O.set i k).set j l) ((σ.set i (some v)).set j (some w)) H ((ρ.set i (some d)).set j (some e)) G := by
  cases k with
  | none =>
    obtain ⟨h1, h2⟩ := h
    have q := AFs.put (O := O) (d := d) (v := v) (k := none) hi r.len (fun n => absurd rfl n) h2
    refine (r.put (k := none) hi fi h1).put (k := l) (by simpa using hj) fj ?_
    cases l with
    | none => exact q.1
    | some l => exact q.1
  | some k =>
    obtain ⟨h1, p, o, rfl, hp, h2⟩ := h
    have hF : F p = none := by obtain ⟨p', e', _, f, _⟩ := h1; cases e'; exact f
    have q := AFs.put (O := O) (d := d) (v := .ref p) (k := some k) hi r.len (fun n => ⟨p, o, rfl, upd_same⟩) h2
    refine (r.put (k := some k) hi fi h1).put (k := l) (by simpa using hj) fj ?_
    cases l with
    | none => exact q.1
    | some l => exact rF_less (fun a => upd_some a) q.1
end
section
variable {X : Cx} {P : Pm} {L : Lp} {O O' O1 : Own}
theorem af_nil : AFX X P O [] [] nilT := pa_mono pa_nil fun σ H Q ⟨ρ, G, F, r, h⟩ => h [] H G r (Ext.refl _ _) trivial
theorem af_cons {e : Expr} {es : List Expr} {ks : List (Option OKd)} {Ta : Rho → Out Rho D} {Tb : Rho → Out Rho (List D)} (ha : EX X P O e Ta) (hb : AFX X P O es ks Tb) (hs : starEach (e :: es) X.env = (false, eval e X.env) :: starEach es X.env := by rfl) : AFX X P O (e :: es) (none :: ks) (consT Ta Tb) := by
  refine pa_mono (pa_cons ha hb hs) fun σ H Q ⟨ρ, G, F, rr, h⟩ => ?_
  refine tX_bind' (R := rE X.K) rr h fun x H1 d ρ1 G1 r1 e1 p1 h1 => ?_
  refine tX_bind' (R := rAF X.K O ks) r1 h1 fun xs H2 ds ρ2 G2 r2 e2 p2 h2 => ?_
  exact h2 (x :: xs) H2 G2 r2 (Ext.refl _ _) ⟨dp_mono e2.1 p1, p2⟩
theorem af_new {e : Expr} {es : List Expr} {k : OKd} {ks : List (Option OKd)} {Ta : Rho → Out Rho D} {Tb : Rho → Out Rho (List D)} (ha : FX X P O k e Ta) (hb : AFX X P O es ks Tb) (hs : starEach (e :: es) X.env = (false, eval e X.env) :: starEach es X.env := by rfl) : AFX X P O (e :: es) (some k :: ks) (consT Ta Tb) := by
  refine pa_mono (pa_cons ha hb hs) fun σ H Q ⟨ρ, G, F, rr, h⟩ => ?_
  refine tX_bind' (R := rF X.K O k) rr h fun x H1 d ρ1 G1 r1 e1 p1 h1 => ?_
  obtain ⟨p, rfl, w, hF, hG, hn⟩ := p1
  obtain ⟨o, ho⟩ := w.there
  refine ⟨ρ1, G1, upd F p o, r1.widen ho hn, ?_⟩
  cases z : Tb ρ1 with
  | ok ds ρ2 =>
    rw [z] at h1
    intro vs H2 G2 r2 e2 a2
    refine h1 (.ref p :: vs) H2 G2 (r2.frame (upd_frame hF)) (e2.frame upd_some) ⟨⟨p, rfl, ?_, hF, ?_, fun j x l hx hl s => ?_⟩, p, o, rfl, r2.fr p o upd_same, a2⟩
    · exact w.mono e2.1 ((r2.fr p o upd_same).trans ho.symm)
    · exact e2.2 p (by rw [upd_same]; exact fun x => by cases x) hG
    · obtain ⟨a, q, _, f, _⟩ := r2.ow j x l hx hl
      rw [s] at q; cases q
      rw [upd_same] at f; cases f
  | exc c fs ρ2 =>
    rw [z] at h1
    intro cls de H2 G2 r2 e2 q
    exact h1 cls de H2 G2 (r2.frame (upd_frame hF)) (e2.frame upd_some) q
  | bad => rw [z] at h1; exact h1.elim
def par2T (i j : Nat) (Ta : Rho → Out Rho (List D)) : Rho → Out Rho Flw := fun ρ => (Ta ρ).bind fun ds ρ1 => match ds with
  | [d, e] => .ok .nx ((ρ1.set i (some d)).set j (some e))
  | _ => .bad
theorem AFs.len {K : PySem.W.Frag} {σ : L2.St} {ρ : Rho} {H G : Hp} : ∀ {ks : List (Option OKd)} {F : Hp} {vs : List V} {ds : List D}, AFs K O σ ρ H G ks F vs ds → vs.length = ds.length ∧ ks.length = vs.length
  | [], _, [], [], _ => ⟨rfl, rfl⟩
  | none :: ks, F, v :: vs, d :: ds, ⟨_, b⟩ => by
    obtain ⟨h1, h2⟩ := AFs.len (ks := ks) b
    exact ⟨congrArg (· + 1) h1, congrArg (· + 1) h2⟩
  | some k :: ks, F, v :: vs, d :: ds, ⟨_, p, o, _, _, b⟩ => by
    obtain ⟨h1, h2⟩ := AFs.len (ks := ks) b
    exact ⟨congrArg (· + 1) h1, congrArg (· + 1) h2⟩
  | [], _, [], _ :: _, q | [], _, _ :: _, _, q | none :: _, _, [], _, q | none :: _, _, _ :: _, [], q | some _ :: _, _, [], _, q | some _ :: _, _, _ :: _, [], q => q.elim
theorem sx_par2 (i j : Nat) {x y : Str} {a b : Expr} {k l : Option OKd} {Ta : Rho → Out Rho (List D)} {px py pt pos : Pos} {kt k2 pt2} (hc : X.calm = true) (hN : X.N.Nodup) (ha : AFX X P O [a, b] [k, l] Ta) (hex : L.ex O)
    (hw : swappedStores [.Tuple [.Name x px, .Name y py] kt pt] (.Tuple [a, b] k2 pt2) X.env = pure (some [x, y])) (hO' : O' = (O.set i k).set j l := by rfl) (hO : i < O.length := by exact Nat.le_of_ble_eq_true rfl) (hO2 : j < O.length := by exact Nat.le_of_ble_eq_true rfl) (hij : i ≠ j := by decide)
    (hfx : (P.fx.map (·.1)).contains i = false := by rfl) (hfx2 : (P.fx.map (·.1)).contains j = false := by rfl) (hi : X.N[i]? = some x := by rfl) (hj : X.N[j]? = some y := by rfl) (hx : X.env.scope.names.lookup x = some .local := by rfl) (hy : X.env.scope.names.lookup y = some .local := by rfl)
    (hs : swapsWithSole [.Tuple [.Name x px, .Name y py] kt pt] (.Tuple [a, b] k2 pt2) pos.line X.env = pure false := by rfl) :
    SX X P L O O' (.Assign [.Tuple [.Name x px, .Name y py] kt pt] (.Tuple [a, b] k2 pt2) pos) (par2T i j Ta) := by
  subst hO'
  refine ps_mono (ps_par hc hN hi hj hij hx hy ha hw hs) fun E σ H h => ?_
  refine tX_stmt (R := rAF X.K O [k, l]) hex h fun vs H1 ds ρ1 G1 F r1 p1 f1 => ?_
  obtain ⟨l1, l2⟩ := AFs.len p1
  match vs, ds, l1, l2 with
  | [v, w], [d, e], _, _ =>
    refine ⟨v, w, rfl, ?_⟩
    exact f1 _ H1 G1 (r1.puts2 hO hO2 (hfx_of hfx) (hfx_of hfx2) p1) (Ext.refl _ _)

/-! ### *a, b = x -/
theorem raw_star {prog : Program} {w : World} {A : Around} {E : Value → Shared → Prop} {s : Shared} {l : Addr} {items : Array Value} {n i : Nat} {Q : List Value → Shared → Prop} (hl : IsTup s.heap l items) (hh : A.handled = none) (hi : i < n) (hn : n ≤ items.size + 1) (hz : items.size ≤ sizeLine)
    (h : ∀ (h' : Heap) (tk : Nat), (∀ b o, s.heap.get? b = some o → h'.get? b = some o) → Q (items.toList.take i ++ [.ref h'.objs.size] ++ (items.toList.drop i).drop (items.size + 1 - n)) { s with heap := h'.push { cls := .type "list", data := .seq ((items.toList.drop i).take (items.size + 1 - n)).toArray }, toks := tk }) :
    wpAny (model prog w) A (unpackItems (.ref l) n (some i)) Q E s := by
  have hlt : l ≠ s.heap.objs.size := by obtain ⟨o, ho, _⟩ := hl; exact Nat.ne_of_lt (Heap.lt_size ho)
  have hll : l < s.heap.objs.size := by obtain ⟨o, ho, _⟩ := hl; exact Heap.lt_size ho
  unfold unpackItems
  refine wpAny_bind ?_
  unfold notIterableAtAll
  refine wpAny_bind (wpAny_specialOf hl.typeIs slot_tuple_iter.lookup ?_)
  refine wpAny_pure ?_
  simp only [Bool.false_eq_true, if_false]
  refine wpAny_bind (wpAny_holding (iter_tuple hl ?_))
  refine wpAny_bind (wpAny_holding (draw_tuple hlt i 0 _ _ ⟨_, Heap.get?_push_size _ rfl, rfl, rfl⟩ (hl.push _) (by omega) fun h₁ hit₁ hs₁ => ?_))
  have hl₁ : IsTup h₁ l items := (hl.push _).extBut hs₁.extBut hlt
  rw [Nat.zero_add] at hit₁
  have hit₁' := hit₁
  obtain ⟨oi, hoi, _⟩ := hit₁'
  have hl₁' := hl₁
  obtain ⟨ol, hol, _⟩ := hl₁'
  rw [List.drop_zero]
  have hfl : (items.toList.take i).length = i := by rw [List.length_take, Array.length_toList]; omega
  rw [if_neg (show ¬ ((items.toList.take i).length < i) by rw [hfl]; omega)]
  refine wpAny_bind (wpAny_holding (PySem.W.kun_collect (s := { s with heap := h₁ }) (T := "tuple_iterator") (.inr (.inr (.inr rfl))) (Walks.tuple (A := A.in1) hh s.heap.objs.size l hlt items) (fun j u st => st.1.typeIs) (k := i) (by omega) ⟨hit₁, hl₁⟩ (Heap.lt_size hoi) (Heap.lt_size hol) (fun h₂ tk hk => ?_) hz))
  have hrl : (items.toList.drop i).length = items.size - i := by rw [List.length_drop, Array.length_toList]
  have hmid : (items.toList.drop i).length - (n - 1 - i) = items.size + 1 - n := by rw [hrl]; omega
  show wpAny _ _ (if (items.toList.drop i).length < n - 1 - i then _ else _) _ _ _
  rw [if_neg (by rw [hrl]; omega)]
  show wpAny _ _ (newList ((items.toList.drop i).take ((items.toList.drop i).length - (n - 1 - i))) >>= fun d => pure (items.toList.take i ++ [d] ++ (items.toList.drop i).drop ((items.toList.drop i).length - (n - 1 - i)))) _ _ _
  rw [hmid]
  have he : ∀ b o, s.heap.get? b = some o → h₂.get? b = some o := fun b o e => by
    have hb : b ≠ s.heap.objs.size := Nat.ne_of_lt (Heap.lt_size e)
    exact hk b o hb (hs₁.extBut b o hb (Heap.get?_push_of_some _ e))
  refine wpAny_bind (wpAny_newList (wpAny_pure (h h₂ tk he)) (by rw [List.length_take, hrl]; omega))
def gStar (K : PySem.W.Frag) (n i : Nat) (t : TGs) : TG := fun v σ H Q => ∃ a xs, v = .ref a ∧ SqT K H a xs ∧ n ≤ xs.length + 1 ∧ ∀ p, H p = none → t (xs.take i ++ [.ref p] ++ (xs.drop i).drop (xs.length + 1 - n)) σ (upd H p (.lst ((xs.drop i).take (xs.length + 1 - n)))) Q
theorem vals_take {xs : List V} {us : List Value} (h : Vals xs us) : ∀ n : Nat, Vals (xs.take n) (us.take n) := by
  induction h with
  | nil => intro n; simp; exact .nil
  | cons r t ih => intro n; cases n with
    | zero => exact .nil
    | succ n => exact .cons r (ih n)
theorem vals_drop {xs : List V} {us : List Value} (h : Vals xs us) : ∀ n : Nat, Vals (xs.drop n) (us.drop n) := by
  induction h with
  | nil => intro n; simp; exact .nil
  | cons r t ih => intro n; cases n with
    | zero => exact .cons r t
    | succ n => exact ih n
theorem pg_star {es : List Expr} {k n i : Nat} {t : TGs} {pos : Pos} (hc : X.calm = true) (h : PGs X es t) (hn : (assignEach es X.env).length = n := by rfl) (hst : (assignEach es X.env).findIdx? (·.1) = some i := by rfl) (hi : i < n := by decide) : PG X (.Tuple es k pos) (gStar X.K n i t) := by
  refine ⟨fun pins s σ H v u Q I r hw => ?_⟩
  obtain ⟨a, xs, e1, hq, hl, hw⟩ := hw
  subst e1
  cases r
  obtain ⟨its, rv, ht, hz⟩ := I.tuple hq
  have hlen := rv.length
  rw [assign_Tuple]
  refine wpAny_bind (wpAny_standAt ?_)
  unfold unpack
  rw [hn, hst]
  refine wpAny_bind (wpAny_holding (raw_star ht (I.ok.hd hc) hi (by simp; omega) (by simp; omega) fun h' tk hk => ?_))
  have I1 : Inv X pins σ H { s with heap := h', toks := tk } := I.kept hk
  have vm : Vals ((xs.drop i).take (xs.length + 1 - n)) ((its.drop i).take (its.length + 1 - n)) := by rw [hlen]; exact vals_take (vals_drop rv i) _
  have I2 := I1.lnew (t' := tk) vm (by rw [List.length_take, List.length_drop]; omega)
  have q := hw h'.objs.size (I1.hok.fresh (Nat.le_refl _))
  have fin := h.run pins _ σ _ _ (its.take i ++ [.ref h'.objs.size] ++ (its.drop i).drop (its.length + 1 - n)) Q I2 ?_ q
  · simpa using fin
  · refine Vals.append (Vals.append (vals_take rv i) (.cons rfl .nil)) ?_
    rw [hlen]
    exact vals_drop (vals_drop rv i) _
theorem pgs_star {e : Expr} {es : List Expr} {t : TG} {u : TGs} {p : Pos} (h1 : PG X e t) (h2 : PGs X es u) : PGs X (.Starred e p :: es) (gCons t u) := by
  refine ⟨fun pins s σ H vs us Q I r h => ?_⟩
  obtain ⟨v, vr, e1, h⟩ := h
  subst e1
  cases r with
  | cons r rr =>
    show wpAny _ _ (assignInOrder (assign e X.env :: (assignEach es X.env).map (·.2)) _) _ _ _
    refine assignInOrder_cons (thn (h1.run pins s σ H _ _ _ I r h) fun _ s1 ⟨σ1, H1, I1, q1⟩ => ?_)
    exact h2.run pins s1 σ1 H1 _ _ Q I1 rr q1
theorem gxs_star {e : Expr} {es : List Expr} {p : Pos} {g : D → Rho → Option Rho} {gs : List D → Rho → Option Rho} {is js : List Nat} (h1 : GX X P O e g is) (h2 : GXs X P O es gs js) : GXs X P O (.Starred e p :: es) (consG g gs) (is ++ js) := by
  refine pgs_mono (pgs_star h1 h2) fun vs σ H Q ⟨ρ, G, F, ds, ρ', r, hd, ee, q⟩ => ?_
  cases hd with
  | nil => cases ee
  | cons a b =>
    obtain ⟨ρ1, h3, h4⟩ := Option.bind_eq_some_iff.mp ee
    refine ⟨_, _, rfl, ρ, G, F, _, ρ1, r, a, h3, fun σ' k l r' => ?_⟩
    refine ⟨ρ1, G, F, _, ρ', r', b, h4, fun σ2 k2 l2 r2 => ?_⟩
    exact q σ2 (fun j hj => by
      rw [k2 j (fun z => hj (List.mem_append_right _ z)), k j (fun z => hj (List.mem_append_left _ z))]) (l2.trans l) r2
def starG (n i : Nat) (gs : List D → Rho → Option Rho) : D → Rho → Option Rho
  | .tuple ds, ρ => if n ≤ ds.length + 1 then gs (ds.take i ++ [.list ((ds.drop i).take (ds.length + 1 - n))] ++ (ds.drop i).drop (ds.length + 1 - n)) ρ else none
  | _, _ => none
theorem sx_star {es : List Expr} {k n i : Nat} {e : Expr} {T : Rho → Out Rho D} {gs : List D → Rho → Option Rho} {is : List Nat} {tpos pos : Pos} (hc : X.calm = true) (he : EX X P O e T) (hg : GXs X P O es gs is) (hex : L.ex O)
    (hn : (assignEach es X.env).length = n := by rfl) (hst : (assignEach es X.env).findIdx? (·.1) = some i := by rfl) (hi : i < n := by decide)
    (hs : swapsWithSole [.Tuple es k tpos] e pos.line X.env = pure false := by rfl) (hw : swappedStores [.Tuple es k tpos] e X.env = pure none := by rfl)
    (h1 : (assignEach [.Tuple es k tpos] X.env).map (·.2) = [assign (.Tuple es k tpos) X.env] := by rfl) : SX X P L O O (.Assign [.Tuple es k tpos] e pos) (tgtT (starG n i gs) T) := by
  refine ps_mono (ps_asg he (pg_star hc hg hn hst hi) hs hw h1) fun E σ H h => ?_
  refine tX_stmt (R := rE X.K) hex h fun v H' a ρ' G' F r e f => ?_
  cases e with
  | @tup aa xs ds q p =>
    unfold starG at f
    dsimp only at f
    by_cases hl : n ≤ ds.length + 1
    · rw [if_pos hl] at f
      refine ⟨_, _, rfl, sqT_mono r.gr q, by rw [L2.DpAll.len p]; exact hl, fun b hb => ?_⟩
      obtain ⟨r2, e2⟩ := r.alloc (o := .lst ((xs.drop i).take (xs.length + 1 - n))) hb
      cases z : gs (ds.take i ++ [.list ((ds.drop i).take (ds.length + 1 - n))] ++ (ds.drop i).drop (ds.length + 1 - n)) ρ' with
      | none => rw [z] at f; exact f.elim
      | some ρ2 =>
        rw [z] at f
        have p' := dpAll_mono e2.1 p
        refine ⟨ρ', _, F, _, ρ2, r2, ?_, z, fun σ' _ _ r' => f σ' _ _ r' e2⟩
        have hl' := L2.DpAll.len p
        rw [hl'] at p' ⊢
        exact ((p'.take i).append (.cons (.lst (SqL.of upd_same) ((p'.drop i).take _)) .nil)).append ((p'.drop i).drop _)
    · rw [if_neg hl] at f; exact f.elim
  | _ => exact f.elim
end
end Z

/-! file ZObj -/
set_option Elab.async false
set_option linter.all false
set_option autoImplicit false
set_option maxRecDepth 100000
set_option maxHeartbeats 4000000
/-! objects that a slot owns: their attributes, their making, calls of them, properties -/
namespace Z
open PySem PySem.Spec PyProof.Rows L2

def getF (f : Str) : List (D × D) → Option D
  | [] => none
  | (.str g, d) :: r => if g = f then some d else getF f r
  | _ :: r => getF f r
def putD (f : Str) (d : D) : List (D × D) → List (D × D)
  | [] => [(.str f, d)]
  | (.str g, e) :: r => if g = f then (.str g, d) :: r else (.str g, e) :: putD f d r
  | q :: r => q :: putD f d r
section
variable {K : PySem.W.Frag} {G : Hp}
theorem fsR_get {f : Str} {d : D} : ∀ {fs : List (Str × V)} {kvs : List (D × D)}, FsR K G fs kvs → getF f kvs = some d → ∃ v, fs.lookup f = some v ∧ Dp K G v d
  | _, _, .nil, h => by cases h
  | (g, v) :: fs, (k, e) :: kvs, .cons a b, h => by
    obtain ⟨a1, a2⟩ := a
    simp only at a1 a2
    subst a1
    unfold getF at h
    by_cases z : g = f
    · subst z
      rw [if_pos rfl] at h
      cases h
      exact ⟨v, by simp [List.lookup], a2⟩
    · rw [if_neg z] at h
      obtain ⟨w, h1, h2⟩ := fsR_get b h
      have q : (f == g) = false := beq_eq_false_iff_ne.mpr fun x => z x.symm
      exact ⟨w, by simp [List.lookup, q, h1], h2⟩
theorem fsR_put {f : Str} {v : V} {d : D} (hd : Dp K G v d) : ∀ {fs : List (Str × V)} {kvs : List (D × D)}, FsR K G fs kvs → FsR K G (putF f v fs) (putD f d kvs)
  | _, _, .nil => .cons ⟨rfl, hd⟩ .nil
  | (g, w) :: fs, (k, e) :: kvs, .cons a b => by
    obtain ⟨a1, a2⟩ := a
    simp only at a1 a2
    subst a1
    unfold putF putD
    by_cases z : g = f
    · rw [if_pos z, if_pos z]
      exact .cons ⟨rfl, hd⟩ b
    · rw [if_neg z, if_neg z]
      exact .cons ⟨rfl, a2⟩ (fsR_put hd b)
theorem fsR_len : ∀ {fs : List (Str × V)} {kvs : List (D × D)}, FsR K G fs kvs → fs.length = kvs.length
  | _, _, .nil => rfl
  | _, _, .cons _ b => congrArg (· + 1) (fsR_len b)
end
section
variable {X : Cx} {P : Pm} {L : Lp} {O O' O1 : Own}
theorem Rel.inst {K : PySem.W.Frag} {F H G : Hp} {fx : List (Nat × Addr)} {σ : L2.St} {ρ : Rho} (r : Rel K F fx O σ H ρ G) {i : Nat} {d : D} {C : Addr} {v : V} (h : getS i ρ = some d) (n : ok O i = some (.ins C)) (q : σ[i]? = some (some v)) :
    ∃ a dx fs kvs, v = .ref a ∧ d = .dict kvs ∧ H a = some (.ins C dx fs) ∧ FsR K G fs kvs := by
  obtain ⟨a, q', ⟨dx, fs, kvs, e, hH, hd⟩, _, _⟩ := r.ow i d (.ins C) (getS_some h) n
  rw [q] at q'
  injection q' with q1
  injection q1 with q2
  subst q2
  exact ⟨a, dx, fs, kvs, rfl, e, hH, hd⟩
def fldT (i : Nat) (f : Str) : Rho → Out Rho D := fun ρ => match getS i ρ with
  | some (.dict kvs) => .of (getF f kvs) ρ
  | _ => .bad
theorem ex_fld (i : Nat) {C : Addr} {x f : Str} {p pos : Pos} (c : Cls X.K C) (nf : NoAttr X.K C f) (n : ok O i = some (.ins C) := by rfl) (hN : X.N[i]? = some x := by rfl) (hv : Vis X.env.scope x := by first | exact Or.inl rfl | exact Or.inr (Or.inl rfl) | exact Or.inr (Or.inr rfl))
    (hd : (x == ("__debug__" : Str)) = false := by decide) (hcd : (x == ("__classdict__" : Str)) = false := by decide) (hb : attributeBase (.Name x p) f X.env (eval (.Name x p) X.env) = eval (.Name x p) X.env := by rfl) : EX X P O (.Attribute (.Name x p) f pos) (fldT i f) := by
  refine pe_mono (pe_fld (pe_var hN hv hd hcd) hb) fun σ H Q ⟨ρ, G, F, r, h⟩ => ?_
  unfold fldT at h
  cases z : getS i ρ with
  | none => rw [z] at h; exact h.elim
  | some d =>
    obtain ⟨a, qa⟩ := r.bound z n
    obtain ⟨a', dx, fs, kvs, ea, rfl, hH, hf⟩ := r.inst z n qa
    cases ea
    rw [z] at h
    simp only at h
    cases z2 : getF f kvs with
    | none => rw [z2] at h; exact h.elim
    | some e =>
      rw [z2] at h
      obtain ⟨v, h1, h2⟩ := fsR_get hf z2
      exact ⟨.ref a, qa, a, C, dx, fs, v, rfl, hH, c, nf, h1, h v H G r (Ext.refl _ _) h2⟩
def sfldT (i : Nat) (f : Str) (Te : Rho → Out Rho D) : Rho → Out Rho Flw := fun ρ => (Te ρ).bind fun d ρ1 => match getS i ρ1 with
  | some (.dict kvs) => if kvs.length < 1000 then .ok .nx (ρ1.set i (some (.dict (putD f d kvs)))) else .bad
  | _ => .bad
theorem sx_fld (i : Nat) {C : Addr} {x f : Str} {e : Expr} {p pos' pos : Pos} {Te : Rho → Out Rho D} (c : Cls X.K C) (nf : NoAttr X.K C f) (he : EX X P O e Te) (hex : L.ex O) (n : ok O i = some (.ins C) := by rfl) (hN : X.N[i]? = some x := by rfl) (hv : Vis X.env.scope x := by first | exact Or.inl rfl | exact Or.inr (Or.inl rfl) | exact Or.inr (Or.inr rfl))
    (hd : (x == ("__debug__" : Str)) = false := by decide) (hcd : (x == ("__classdict__" : Str)) = false := by decide) (hs : swapsWith e (some (.Attribute (.Name x p) f pos')) pos.line X.env = pure false := by rfl) : SX X P L O O (.Assign [.Attribute (.Name x p) f pos'] e pos) (sfldT i f Te) := by
  refine ps_mono (ps_fld (pe_var hN hv hd hcd) he hs) fun E σ H ⟨ρ, G, F, r, h⟩ => ?_
  refine ⟨ρ, G, F, r, Fin.imp (FinS.ofE (R := rE X.K) hex h) fun v H1 ⟨d, ρ1, G1, r1, e1, dv, f1⟩ => ?_⟩
  cases z : getS i ρ1 with
  | none => rw [z] at f1; exact f1.elim
  | some d0 =>
    obtain ⟨a, qa⟩ := r1.bound z n
    obtain ⟨a', dx, fs, kvs, ea, rfl, hH, hf⟩ := r1.inst z n qa
    cases ea
    rw [z] at f1
    simp only at f1
    by_cases hl : kvs.length < 1000
    · rw [if_pos hl] at f1
      refine ⟨.ref a, qa, a, C, dx, fs, rfl, hH, c, nf, by rw [fsR_len hf]; exact hl, ?_⟩
      exact f1 σ _ G1 (r1.mutate (getS_some z) n qa ⟨dx, _, _, rfl, upd_same, fsR_put dv hf⟩) (Ext.refl _ _)
    · rw [if_neg hl] at f1; exact f1.elim

/-! ### calls that may not raise -/
def callQ (js : List (Option Nat)) (S : List D → Out (List D) D) (Ta : Rho → Out Rho (List D)) : Rho → Out Rho D := fun ρ => (Ta ρ).bind fun ds ρ1 => match fillJ js ds ρ1 with
  | none => .bad
  | some ds' => match S ds' with
    | .ok d os => .ok d (putJ js os ρ1)
    | _ => .bad
theorem sp_callQ {js : List (Option Nat)} {ks : List (Option OKd)} {S : List D → Out (List D) D} {σ : L2.St} {H G F : Hp} {ρ : Rho} {vs : List V} {ds : List D} {Q : VK}
    (hk : kindsJ O js = kindsK ks) (hj : distinctJ js = true) (r : Rel X.K F P.fx O σ H ρ G) (ha : JAll X.K σ G js vs ds)
    (h : Fin X.K X.mg P O σ F (rE X.K) G (match fillJ js ds ρ with | none => .bad | some ds' => match S ds' with | .ok d os => .ok d (putJ js os ρ) | _ => .bad) Q) :
    spZ X.K X.mg ks none S vs H Q E0 := by
  refine sp_call (P := P.quiet) (rk := none) hk hj r ha ?_
  cases hf : fillJ js ds ρ with
  | none => rw [hf] at h; exact h.elim
  | some ds' =>
    rw [hf] at h
    cases hS : S ds' with
    | ok d os => simp only [hS] at h ⊢; exact h
    | exc c fs os => simp only [hS] at h; exact h.elim
    | bad => simp only [hS] at h; exact h.elim
theorem fnR_of {k : Nat} {f : Addr} {fd : FuncData} {ps : List Str} {sp : Sp} (Fn : FnOk X.prog X.w X.K X.mg X.base (L2.CX X.prog X.w) k f fd ps sp) (hb : Binds X.K fd ps []) : FnR X.prog X.w X.K X.mg X.base (L2.CX X.prog X.w) k f sp := by
  intro A outer s H us vs Q E hr e0 r h
  have hl : us.length = ps.length := by rw [← r.length]; exact Fn.len _ _ _ _ h
  have b := hb s us (e0.mod.kin.keeps fun b o e => (e0.bs b o e).1) (by rw [List.append_nil]; exact hl)
  rw [List.append_nil] at b
  exact Fn.run A outer s H ⟨us, []⟩ us vs Q E hr e0 b r h
section
variable {k : Nat} {f g C : Addr} {fd : FuncData} {ps : List Str} {x : Str} {p pos : Pos} {e : Expr} {es : List Expr} {js : List (Option Nat)} {ks : List (Option OKd)} {S : List D → Out (List D) D} {T : Rho → Out Rho (List D)}
/-- x(..), x an instance that a slot owns -/
theorem ex_callI (i : Nat) (c : StX.CallO X.K C g) (Fn : FnOk X.prog X.w X.K X.mg X.base (L2.CX X.prog X.w) k g fd ps (spZ X.K X.mg ks none S)) (hr : Room k X.A) (hb : Binds X.K fd ps [])
    (ha : AJ X P O (e :: es) js T) (n : ok O i = some (.ins C) := by rfl) (hk : kindsJ O (some i :: js) = kindsK ks := by rfl) (hj : distinctJ (some i :: js) = true := by rfl) (hN : X.N[i]? = some x := by rfl) (hv : Vis X.env.scope x := by first | exact Or.inl rfl | exact Or.inr (Or.inl rfl) | exact Or.inr (Or.inr rfl))
    (hd : (x == ("__debug__" : Str)) = false := by decide) (hcd : (x == ("__classdict__" : Str)) = false := by decide)
    (ht : eval (.Call (.Name x p) (e :: es) [] pos) X.env = (do callWith pos (← eval (.Name x p) X.env) [] (backTo pos (starEach (e :: es) X.env)) (backToKw pos (keywordEach [] X.env))) := by rfl)
    (he : starEach (e :: es) X.env = (false, eval e X.env) :: starEach es X.env := by rfl) (hpl : (backTo pos (starEach es X.env)).any (·.1) = false := by rfl) : EX X P O (.Call (.Name x p) (e :: es) [] pos) (callQ (some i :: js) S (ownT i T)) := by
  refine pe_mono (StX.pe_callO (pe_var hN hv hd hcd) c (fnR_of Fn hb) hr passL ha ht he hpl) fun σ H Q ⟨ρ, G, F, rr, h⟩ => ?_
  unfold callQ ownT at h
  cases z : getS i ρ with
  | none => rw [z] at h; exact h.elim
  | some d0 =>
    rw [z] at h
    obtain ⟨a, qa⟩ := rr.bound z n
    refine ⟨.ref a, qa, a, rfl, ?_⟩
    have h' : Fin X.K X.mg P O σ F (rE X.K) G ((T ρ).bind fun ds ρ2 => (match fillJ (some i :: js) (.none :: ds) ρ2 with | none => .bad | some ds' => match S ds' with | .ok d os => .ok d (putJ (some i :: js) os ρ2) | _ => .bad)) Q := by
      cases w : T ρ with
      | ok ds ρ2 => simp only [w] at h ⊢; exact h
      | exc c fs ρ2 => simp only [w] at h ⊢; exact h
      | bad => simp only [w] at h; exact h.elim
    refine tX_bind' (R := rJ X.K js) rr h' fun vs H1 ds ρ1 G1 r1 e1 p1 h1 => ?_
    refine ⟨.inr ?_, sp_callQ hk hj r1 (show JAll X.K σ G1 (some i :: js) (.ref a :: vs) (.none :: ds) from ⟨qa, p1⟩) h1⟩
    cases z1 : getS i ρ1 with
    | none => simp only [fillJ, z1, Option.bind_none] at h1; exact h1.elim
    | some d1 =>
      obtain ⟨a', dx, fs, kvs, ea, _, hH, _⟩ := r1.inst z1 n qa
      cases ea
      exact ⟨dx, fs, hH⟩
/-- x.f, a property of an instance that a slot owns -/
theorem ex_prop (i : Nat) {f : Str} {pr : Addr} (c : Cls X.K C) (hp : PropOf X.K C f pr g) (Fn : FnOk X.prog X.w X.K X.mg X.base (L2.CX X.prog X.w) k g fd ps (spZ X.K X.mg ks none S)) (hr : Room (k + 1) X.A) (hb : Binds X.K fd ps [])
    (n : ok O i = some (.ins C) := by rfl) (hk : kindsJ O [some i] = kindsK ks := by rfl) (hj : distinctJ [some i] = true := by rfl) (hN : X.N[i]? = some x := by rfl) (hv : Vis X.env.scope x := by first | exact Or.inl rfl | exact Or.inr (Or.inl rfl) | exact Or.inr (Or.inr rfl))
    (hd : (x == ("__debug__" : Str)) = false := by decide) (hcd : (x == ("__classdict__" : Str)) = false := by decide) (hab : attributeBase (.Name x p) f X.env (eval (.Name x p) X.env) = eval (.Name x p) X.env := by rfl) : EX X P O (.Attribute (.Name x p) f pos) (callQ [some i] S (ownT i nilT)) := by
  refine pe_mono (pe_prop (pe_var hN hv hd hcd) c hp Fn hr hb .nil passL hab) fun σ H Q ⟨ρ, G, F, rr, h⟩ => ?_
  unfold callQ ownT at h
  cases z : getS i ρ with
  | none => rw [z] at h; exact h.elim
  | some d0 =>
    obtain ⟨a, qa⟩ := rr.bound z n
    obtain ⟨a', dx, fs, kvs, ea, _, hH, _⟩ := rr.inst z n qa
    cases ea
    refine ⟨.ref a, qa, a, dx, fs, rfl, hH, ?_⟩
    rw [z] at h
    exact sp_callQ hk hj rr (show JAll X.K σ G [some i] [.ref a] [.none] from ⟨qa, trivial⟩) h
def makeT (S : List D → Out (List D) D) (Ta : Rho → Out Rho (List D)) : Rho → Out Rho D := fun ρ => (Ta ρ).bind fun ds ρ1 => match S (.dict [] :: ds) with
  | .ok .none [o] => .ok o ρ1
  | _ => .bad
theorem outZ_none {K : PySem.W.Frag} {H G : Hp} : ∀ {m : Nat} {vs : List V} {os : List D}, OutZ K H G (List.replicate m none) vs os → True := fun _ => trivial
/-- C(..) -/
theorem fx_make {m : Nat} (M : Mk X.K C f) (Fn : FnOk X.prog X.w X.K X.mg X.base (L2.CX X.prog X.w) k f fd ps (spZ X.K X.mg (some (.ins C) :: List.replicate m none) none S)) (hr : Room (k + 1) X.A) (hm : X.mg x = some (.ref C)) (hb : Binds X.K fd ps []) (hps : ps.length = m + 1)
    (ha : AX X P O (e :: es) T) (hg : Gl X x := by rfl) (hdb : (x == ("__debug__" : Str)) = false := by decide) (he : starEach (e :: es) X.env = (false, eval e X.env) :: starEach es X.env := by rfl) (hpl : (backTo pos (starEach es X.env)).any (·.1) = false := by rfl) (hm2 : m = (e :: es).length := by rfl) :
    FX X P O (.ins C) (.Call (.Name x p) (e :: es) [] pos) (fun ρ => (T ρ).bind fun ds ρ1 => if ds.length = m then makeT S (fun r => .ok ds r) ρ1 else .bad) := by
  refine pe_mono (pe_make M Fn hr hg hm hb .nil passL ha hdb he hpl) fun σ H Q ⟨ρ, G, F, rr, h⟩ => ?_
  refine tX_bind' (R := rA X.K) rr h fun vs H1 ds ρ1 G1 r1 e1 p1 h1 => ?_
  by_cases hl : ds.length = m
  · rw [if_pos hl] at h1
    intro y dx hy hdx hne
    unfold makeT at h1
    simp only [bind_ok] at h1
    rw [List.append_nil]
    have vl := L2.DpAll.len p1
    have ne_of : ∀ a o, H1 a = some o → a ≠ y ∧ a ≠ dx := fun a o h => ⟨ne_of_none h hy, ne_of_none h hdx⟩
    have hH : ∀ a o, H1 a = some o → upd (upd H1 dx (.own y)) y (.ins C dx []) a = some o := fun a o h => by
      rw [upd_ne (ne_of a o h).1, upd_ne (ne_of a o h).2]; exact h
    refine ⟨.dict [] :: ds, G1, H1, hH, fun a o h => hH a o (r1.gr a o h), ⟨?_, ?_, fun i d hi hd => ?_, fun i k d hi hd => ?_, fun i j k l a hi hj _ _ => ?_⟩, ?_⟩
    · simp [vl, hl]
    · simp [vl]
    · cases i with
      | zero => simp at hi
      | succ i =>
        obtain ⟨v, h1, h2⟩ := L2.DpAll.get' p1 (show ds[i]? = some d from by simpa using hd)
        exact ⟨v, by simpa using h1, h2⟩
    · cases i with
      | zero =>
        simp at hi hd
        subst hi hd
        exact ⟨y, rfl, ⟨dx, [], [], rfl, upd_same, .nil⟩, hy, by
          cases z : G1 y with
          | none => rfl
          | some o => rw [r1.gr y o z] at hy; cases hy⟩
      | succ i => simp [List.getElem?_replicate] at hi
    · cases i with
      | zero => cases j with
        | zero => rfl
        | succ j => simp [List.getElem?_replicate] at hj
      | succ i => simp [List.getElem?_replicate] at hi
    · split at h1
      · rename_i o heq
        rw [heq]
        intro v H' G' hF hG e ho hv
        cases hv
        refine ⟨rfl, ?_⟩
        obtain ⟨⟨a, ea, w, g⟩, _⟩ := (show (∃ a, V.ref y = .ref a ∧ OwnAt X.K H' G' (.ins C) a o ∧ G' a = none) ∧ OutZ X.K H' G' (List.replicate m none) vs [] from ho)
        cases ea
        have keep : Rel X.K F P.fx O σ H' ρ1 G' := r1.next (fun a o h => hF a o (r1.fr a o h)) e.1 hG fun i d k a hd hk hs => by
          obtain ⟨b, qb, w, f, g⟩ := r1.ow i d k hd hk
          rw [hs] at qb; cases qb
          obtain ⟨o', ho'⟩ := w.there
          exact ⟨(hF a o' ho').trans ho'.symm, e.2 a (by rw [ho']; exact fun x => by cases x) g⟩
        refine h1 (.ref y) H' G' keep (e.frame fun a n => ?_) ⟨y, rfl, w, ?_, g, fun j d l hd hl' s => ?_⟩
        · cases z : F a with
          | none => exact absurd z n
          | some o => rw [r1.fr a o z]; exact fun x => by cases x
        · cases z : F y with
          | none => rfl
          | some o => rw [r1.fr y o z] at hy; cases hy
        · exact r1.own_ne hy hd hl' s rfl
      · exact h1.elim
  · rw [if_neg hl] at h1; exact h1.elim
end
end
end Z

/-! file ZHead -/
set_option Elab.async false
set_option linter.all false
set_option autoImplicit false
set_option maxRecDepth 100000
set_option maxHeartbeats 4000000
/-! the head: defs by places, constants; calls by names -/
namespace Z
open PySem PySem.Spec PyProof.Rows L2

/-- a def of the text, called by its name: its promise -/
def FnZ (P : Program) (w : World) (K : PySem.W.Frag) (mg : Str → Option Value) (base : Heap) (x : Str) (k : Nat) (ks : List (Option OKd)) (rk : Option OKd) (S : List D → Out (List D) D) : Prop :=
  ∃ (f : Addr) (fd : FuncData) (ps : List Str), mg x = some (.ref f) ∧ PySem.W.keepIn K (.ref f) = true ∧ Binds K fd ps [] ∧ FnOk P w K mg base (L2.CX P w) k f fd ps (spZ K mg ks rk S)
/-- a def of the text by its object -/
def FaZ (P : Program) (w : World) (K : PySem.W.Frag) (mg : Str → Option Value) (base : Heap) (f : Addr) (k : Nat) (m : Nat) (ks : List (Option OKd)) (rk : Option OKd) (S : List D → Out (List D) D) : Prop :=
  ∃ (fd : FuncData) (ps : List Str), ps.length = m ∧ PySem.W.keepIn K (.ref f) = true ∧ Binds K fd ps [] ∧ FnOk P w K mg base (L2.CX P w) k f fd ps (spZ K mg ks rk S)
/-- how its arguments bind -/
def BindsW (x qual : Str) (st : Stmt) (ps : List Str) : Prop := ∀ (kV doc pm : Value) (an : Option Addr) (cdv ct : Value) (us : List Value), us.length = ps.length → bindArgs (PySem.W.fnOf x qual (defArgs st) (defBody st) (defScope st) .none kV doc pm an cdv ct) ⟨us, []⟩ = pure (ps.zip us)
section
variable {P : Program} {w : World} {K : PySem.W.Frag} {mg : Str → Option Value} {base : Heap}
theorem FnZ.of {x qual : Str} {st : Stmt} {f : Addr} {fd : FuncData} {ps : List Str} {k : Nat} {ks : List (Option OKd)} {rk : Option OKd} {S : List D → Out (List D) D} (F : Fun K x qual st f fd) (hm : mg x = some (.ref f)) (hb : BindsW x qual st ps)
    (h : FnOk P w K mg base (L2.CX P w) k f fd ps (spZ K mg ks rk S)) : FnZ P w K mg base x k ks rk S := ⟨f, fd, ps, hm, F.kp, F.binds hb, h⟩
theorem FaZ.of {x qual : Str} {st : Stmt} {f : Addr} {fd : FuncData} {ps : List Str} {k : Nat} {ks : List (Option OKd)} {rk : Option OKd} {S : List D → Out (List D) D} (F : Fun K x qual st f fd) (hb : BindsW x qual st ps)
    (h : FnOk P w K mg base (L2.CX P w) k f fd ps (spZ K mg ks rk S)) : FaZ P w K mg base f k ps.length ks rk S := ⟨fd, ps, rfl, F.kp, F.binds hb, h⟩
theorem FnZ.mono {x : Str} {j k : Nat} {ks : List (Option OKd)} {rk : Option OKd} {S : List D → Out (List D) D} (F : FnZ P w K mg base x j ks rk S) (h : j ≤ k) : FnZ P w K mg base x k ks rk S := by
  obtain ⟨f, fd, ps, a, b, c, d⟩ := F
  exact ⟨f, fd, ps, a, b, c, d.mono h⟩
/-- told by another function where the first one ends well -/
theorem FnZ.congr {x : Str} {k : Nat} {ks : List (Option OKd)} {rk : Option OKd} {S S' : List D → Out (List D) D} (F : FnZ P w K mg base x k ks rk S) (h : ∀ ds, S' ds = .bad ∨ S ds = S' ds) : FnZ P w K mg base x k ks rk S' := by
  obtain ⟨f, fd, ps, a, b, c, d⟩ := F
  exact ⟨f, fd, ps, a, b, c, spZ_congr d h⟩
theorem FaZ.congr {f : Addr} {m : Nat} {k : Nat} {ks : List (Option OKd)} {rk : Option OKd} {S S' : List D → Out (List D) D} (F : FaZ P w K mg base f k m ks rk S) (h : ∀ ds, S' ds = .bad ∨ S ds = S' ds) : FaZ P w K mg base f k m ks rk S' := by
  obtain ⟨fd, ps, a, b, c, d⟩ := F
  exact ⟨fd, ps, a, b, c, spZ_congr d h⟩
/-- nothing promised -/
theorem FnZ.none {x qual : Str} {st : Stmt} {f : Addr} {fd : FuncData} {ps : List Str} {ks : List (Option OKd)} {rk : Option OKd} (F : Fun K x qual st f fd) (hm : mg x = some (.ref f)) (hb : BindsW x qual st ps) : FnZ P w K mg base x 0 ks rk (fun _ => .bad) :=
  ⟨f, fd, ps, hm, F.kp, F.binds hb, ⟨fun _ _ _ _ ⟨_, _, _, _, _, _, h⟩ => h.elim, fun _ _ _ _ _ _ _ _ _ _ _ _ _ ⟨_, _, _, _, _, _, h⟩ => h.elim⟩⟩
end
section
variable {X : Cx} {P : Pm} {L : Lp} {O : Own} {k : Nat} {x : Str} {p pos : Pos} {e : Expr} {es : List Expr} {js : List (Option Nat)} {ks : List (Option OKd)} {S : List D → Out (List D) D} {T : Rho → Out Rho (List D)}
theorem ex_fn (Fn : FnZ X.prog X.w X.K X.mg X.base x k ks none S) (hr : Room k X.A) (tk : Takes X P.W)
    (ha : AJ X P O (e :: es) js T) (hk : kindsJ O js = kindsK ks := by rfl) (hj : distinctJ js = true := by rfl) (hg : Gl X x := by rfl) (hdb : (x == ("__debug__" : Str)) = false := by decide) (he : starEach (e :: es) X.env = (false, eval e X.env) :: starEach es X.env := by rfl) (hpl : (backTo pos (starEach es X.env)).any (·.1) = false := by rfl) :
    EX X P O (.Call (.Name x p) (e :: es) [] pos) (callT js S T) := by
  obtain ⟨f, fd, ps, a, b, c, d⟩ := Fn
  exact ex_call d hr a b c tk ha hk hj hg hdb he hpl
theorem fx_fn {kd : OKd} (Fn : FnZ X.prog X.w X.K X.mg X.base x k ks (some kd) S) (hr : Room k X.A) (tk : Takes X P.W)
    (ha : AJ X P O (e :: es) js T) (hk : kindsJ O js = kindsK ks := by rfl) (hj : distinctJ js = true := by rfl) (hg : Gl X x := by rfl) (hdb : (x == ("__debug__" : Str)) = false := by decide) (he : starEach (e :: es) X.env = (false, eval e X.env) :: starEach es X.env := by rfl) (hpl : (backTo pos (starEach es X.env)).any (·.1) = false := by rfl) :
    FX X P O kd (.Call (.Name x p) (e :: es) [] pos) (callT js S T) := by
  obtain ⟨f, fd, ps, a, b, c, d⟩ := Fn
  exact fx_call d hr a b c tk ha hk hj hg hdb he hpl
theorem ex_inst (i : Nat) {C g : Addr} {m : Nat} (c : StX.CallO X.K C g) (Fn : FaZ X.prog X.w X.K X.mg X.base g k m ks none S) (hr : Room k X.A)
    (ha : AJ X P O (e :: es) js T) (n : ok O i = some (.ins C) := by rfl) (hk : kindsJ O (some i :: js) = kindsK ks := by rfl) (hj : distinctJ (some i :: js) = true := by rfl) (hN : X.N[i]? = some x := by rfl) (hv : Vis X.env.scope x := by first | exact Or.inl rfl | exact Or.inr (Or.inl rfl) | exact Or.inr (Or.inr rfl))
    (hd : (x == ("__debug__" : Str)) = false := by decide) (hcd : (x == ("__classdict__" : Str)) = false := by decide)
    (ht : eval (.Call (.Name x p) (e :: es) [] pos) X.env = (do callWith pos (← eval (.Name x p) X.env) [] (backTo pos (starEach (e :: es) X.env)) (backToKw pos (keywordEach [] X.env))) := by rfl)
    (he : starEach (e :: es) X.env = (false, eval e X.env) :: starEach es X.env := by rfl) (hpl : (backTo pos (starEach es X.env)).any (·.1) = false := by rfl) : EX X P O (.Call (.Name x p) (e :: es) [] pos) (callQ (some i :: js) S (ownT i T)) := by
  obtain ⟨fd, ps, _, b, c', d⟩ := Fn
  exact ex_callI i c d hr c' ha n hk hj hN hv hd hcd ht he hpl
theorem ex_propZ (i : Nat) {C pr g : Addr} {m : Nat} {f : Str} (c : Cls X.K C) (hp : PropOf X.K C f pr g) (Fn : FaZ X.prog X.w X.K X.mg X.base g k m ks none S) (hr : Room (k + 1) X.A)
    (n : ok O i = some (.ins C) := by rfl) (hk : kindsJ O [some i] = kindsK ks := by rfl) (hj : distinctJ [some i] = true := by rfl) (hN : X.N[i]? = some x := by rfl) (hv : Vis X.env.scope x := by first | exact Or.inl rfl | exact Or.inr (Or.inl rfl) | exact Or.inr (Or.inr rfl))
    (hd : (x == ("__debug__" : Str)) = false := by decide) (hcd : (x == ("__classdict__" : Str)) = false := by decide) (hab : attributeBase (.Name x p) f X.env (eval (.Name x p) X.env) = eval (.Name x p) X.env := by rfl) : EX X P O (.Attribute (.Name x p) f pos) (callQ [some i] S (ownT i nilT)) := by
  obtain ⟨fd, ps, _, b, c', d⟩ := Fn
  exact ex_prop i c hp d hr c' n hk hj hN hv hd hcd hab
theorem fx_makeZ {C f : Addr} {m : Nat} {T : Rho → Out Rho (List D)} (M : Mk X.K C f) (Fn : FaZ X.prog X.w X.K X.mg X.base f k (m + 1) (some (.ins C) :: List.replicate m none) none S) (hr : Room (k + 1) X.A) (hm : X.mg x = some (.ref C))
    (ha : AX X P O (e :: es) T) (hg : Gl X x := by rfl) (hdb : (x == ("__debug__" : Str)) = false := by decide) (he : starEach (e :: es) X.env = (false, eval e X.env) :: starEach es X.env := by rfl) (hpl : (backTo pos (starEach es X.env)).any (·.1) = false := by rfl) (hm2 : m = (e :: es).length := by rfl) :
    FX X P O (.ins C) (.Call (.Name x p) (e :: es) [] pos) (fun ρ => (T ρ).bind fun ds ρ1 => if ds.length = m then makeT S (fun r => .ok ds r) ρ1 else .bad) := by
  obtain ⟨fd, ps, h, b, c', d⟩ := Fn
  exact fx_make M d hr hm c' h ha hg hdb he hpl hm2
end

/-! ### constants -/
theorem kon_str {K : PySem.W.Frag} {h : Heap} {mg : Str → Option Value} {x z : Str} (X : K.In h) (G : h.Ns mainGlobals mg) (c : (He.Fa.str x z).ok K = true) : Kon K mg x (.str z) := by
  obtain ⟨t, e⟩ := He.str_ok X G c
  exact ⟨_, .str z, e, ⟨t, rfl⟩, fun _ => .str z⟩
theorem kon_int {K : PySem.W.Frag} {h : Heap} {mg : Str → Option Value} {x : Str} {z : Int} (X : K.In h) (G : h.Ns mainGlobals mg) (c : (He.Fa.int x z).ok K = true) : Kon K mg x (.int z) := by
  obtain ⟨t, e⟩ := He.int_ok X G c
  exact ⟨_, .int z, e, ⟨t, rfl⟩, fun _ => .int z⟩
def dvD : He.Dv → Option D
  | .non => some .none
  | .bl b => some (.bool b)
  | .int i => some (.int i)
  | .str x => some (.str x)
  | _ => none
def dvDs : List He.Dv → Option (List D)
  | [] => some []
  | d :: ds => (dvD d).bind fun e => (dvDs ds).map (e :: ·)
theorem dvDs_dp {K : PySem.W.Frag} {G : Hp} : ∀ {vs : List He.Dv} {ds : List D}, dvDs vs = some ds → DpAll K G (vs.map (He.Dv.v K)) ds
  | [], _, h => by cases h; exact .nil
  | d :: vs, ds, h => by
    obtain ⟨e, h1, h2⟩ := Option.bind_eq_some_iff.mp (show (dvD d).bind (fun e => (dvDs vs).map (e :: ·)) = some ds from h)
    obtain ⟨es, h3, h4⟩ := Option.map_eq_some_iff.mp h2
    subst h4
    refine .cons ?_ (dvDs_dp h3)
    cases d with
    | non => cases h1; exact .non
    | bl b => cases h1; exact .bl b
    | int b => cases h1; exact .int b
    | str b => cases h1; exact .str b
    | _ => cases h1
theorem kon_tup {K : PySem.W.Frag} {h : Heap} {mg : Str → Option Value} {x : Str} {vs : List He.Dv} {ds : List D} (X : K.In h) (G : h.Ns mainGlobals mg) (c : (He.Fa.glo x).ok K = true) (t : He.tupB K x vs = true) (hd : dvDs vs = some ds) : Kon K mg x (.tuple ds) :=
  ⟨_, .ref (He.ga K x), He.glo_ok X G c, rfl, fun G' => .tup (He.tupB_ok t G') (dvDs_dp hd)⟩
theorem kon_lst {K : PySem.W.Frag} {h : Heap} {mg : Str → Option Value} {x : Str} {vs : List He.Dv} {ds : List D} (X : K.In h) (G : h.Ns mainGlobals mg) (c : (He.Fa.glo x).ok K = true) (t : He.lstB K x vs = true) (hd : dvDs vs = some ds) : Kon K mg x (.list ds) :=
  ⟨_, .ref (He.ga K x), He.glo_ok X G c, rfl, fun G' => .lst (He.lstB_ok t G') (dvDs_dp hd)⟩

/-! ### the Hook -/
def dfZ (at_ : PySem.W.Frag → Addr) (x qual : Str) (st : Stmt) : He5.DefA := ⟨at_, x, qual, defArgs st, defBody st, defScope st, [], []⟩
def obsZ (fn : List He5.DefA) (ex : PySem.W.Frag → Bool) (K : PySem.W.Frag) : He.AlD := (ex K && fn.all fun d => d.ok K, fn.map fun d => He5.fnA K (d.at_ K))
def valZ (fn : List He5.DefA) : He.AlD := (true, fn.map He5.DefA.val)
def SaysZ (fn : List He5.DefA) (ex : PySem.W.Frag → Bool) (K : PySem.W.Frag) : Prop := obsZ fn ex K = valZ fn
/-- what an object names, as far as the defs' facts want it -/
def refsZ (o : Obj) : List Addr := match o.data with
  | .func fd => He.refV fd.code
  | .cls cd => [cd.ns]
  | .dict es _ => es.toList.flatMap fun e => He.refV e.val
  | .fields vs => (match o.cls with
    | .type "property" => vs.toList.flatMap He.refV
    | _ => [])
  | _ => []
def frontZ (g : Addr → Option Obj) (as : List Addr) : List Addr := as.flatMap fun a => match g a with
  | some o => refsZ o
  | none => []
def asZ (g : Addr → Option Obj) : Nat → List Addr → List Addr
  | 0, as => as
  | n + 1, as => as ++ asZ g n (frontZ g as)
def obsZG (n : Nat) (fn : List He5.DefA) (ex : PySem.W.Frag → Bool) (g : Addr → Option Obj) : He.AlD := obsZ fn ex (He.frG g (asZ g n [mainGlobals]))
def hookZ (n : Nat) (fn : List He5.DefA) (ex : PySem.W.Frag → Bool) : PySem.W.Hook where
  α := He.AlD
  obs := fun s => obsZG n fn ex s.heap.get?
  val := fun _ => valZ fn
  says := fun _ h => ∃ K : PySem.W.Frag, K.In h ∧ SaysZ fn ex K
  of := fun _ _ e => ⟨_, He.frG_in, e⟩
  keeps := fun _ _ _ ⟨K, hK, c⟩ k => ⟨K, PySem.W.Frag.In.keeps hK k, c⟩
theorem obsZG_eq {n : Nat} {fn : List He5.DefA} {ex : PySem.W.Frag → Bool} {g : Addr → Option Obj} {s : Shared} (h : ∀ a, g a = s.heap.get? a) : obsZG n fn ex g = (hookZ n fn ex).obs s := by
  have e : g = s.heap.get? := funext h
  rw [e] <;> rfl
section
variable {fn : List He5.DefA} {ex : PySem.W.Frag → Bool} {K : PySem.W.Frag}
theorem SaysZ.more (c : SaysZ fn ex K) : ex K = true := (He.ba (show (ex K && fn.all fun d => d.ok K) = true from congrArg (fun z : He.AlD => z.1) c)).1
theorem SaysZ.def_ (c : SaysZ fn ex K) (i : Nat) {at_ : PySem.W.Frag → Addr} {x qual : Str} {st : Stmt} (h : fn[i]? = some (dfZ at_ x qual st) := by rfl) : ∃ fd, Fun K x qual st (at_ K) fd := by
  have c2 := (He.ba (show (ex K && fn.all fun d => d.ok K) = true from congrArg (fun z : He.AlD => z.1) c)).2
  have e : fn.map (fun d => He5.fnA K (d.at_ K)) = fn.map He5.DefA.val := congrArg (fun z : He.AlD => z.2) c
  have e2 : (fn.map fun d => He5.fnA K (d.at_ K))[i]? = (fn.map He5.DefA.val)[i]? := by rw [e]
  rw [List.getElem?_map, List.getElem?_map, h] at e2
  obtain ⟨fd, F⟩ := He5.DefA.funD (Option.some.inj e2) (List.all_eq_true.mp c2 _ (List.mem_of_getElem? h))
  exact ⟨fd, He5.fun_of F⟩
end
/-- several facts of a list of Bools -/
theorem all_at {α : Type} {p : α → Bool} {l : List α} (h : l.all p = true) (i : Nat) {a : α} (e : l[i]? = some a := by rfl) : p a = true := List.all_eq_true.mp h a (List.mem_of_getElem? e)

/-! ### the law's end -/
theorem law_sp {K : PySem.W.Frag} {mg : Str → Option Value} {S : List D → Out (List D) D} {ns : List Int} {H : Hp} {a : Addr} {E : XK} {os : List D} (hS : SqL K H a (ns.map V.int)) (h : S [.list (ns.map .int)] = .ok (.bool true) os) :
    spZ K mg [none] none S [.ref a] H (fun v _ => v = .bl true) E := by
  refine ⟨[.list (ns.map .int)], H, H, fun _ _ h => h, fun _ _ h => h, ⟨rfl, rfl, fun i d hi hd => ?_, fun i k d hi _ => ?_, fun i j k l b hi _ _ _ => ?_⟩, ?_⟩
  · cases i with
    | zero =>
      simp at hd
      subst hd
      exact ⟨_, rfl, .lst hS (dpAll_ints ns)⟩
    | succ i => simp at hd
  · cases i with
    | zero => simp at hi
    | succ i => simp at hi
  · cases i with
    | zero => simp at hi
    | succ i => simp at hi
  · rw [h]
    intro v H' G' _ _ _ _ hv
    cases hv
    rfl
end Z

/-! file ZMore -/
set_option Elab.async false
set_option linter.all false
set_option autoImplicit false
set_option maxRecDepth 100000
set_option maxHeartbeats 4000000
/-! more rules -/
namespace Z
open PySem PySem.Spec PyProof.Rows L2
theorem exOf_nil {O : Own} : exOf [] O := fun m k h => by simp at h
theorem exOf_no {ks : List (Option OKd)} {o : Option OKd} {O : Own} (h : exOf ks O) : exOf (none :: ks) (o :: O) := fun m k e => by
  cases m with
  | zero => simp at e
  | succ m => exact h m k (by simpa using e)
theorem exOf_yes {ks : List (Option OKd)} {o : OKd} {O : Own} (h : exOf ks O) : exOf (some o :: ks) (some o :: O) := fun m k e => by
  cases m with
  | zero => simp at e; subst e; rfl
  | succ m => exact h m k (by simpa using e)
section
variable {X : Cx} {P : Pm} {L : Lp} {O O' O1 : Own}
/-! ### isinstance(x, (a, b)) -/
def isi2D (a b : String) (d : D) : Option D := (tyD d).map fun t => .bool (subTy t a || subTy t b)
def isi2T (a b : String) (T : Rho → Out Rho D) : Rho → Out Rho D := fun ρ => (T ρ).bind fun d ρ1 => .of (isi2D a b d) ρ1
theorem ex_isi2 {a b : String} {e : Expr} {T : Rho → Out Rho D} {x y : Str} {p p2 p3 tp pos : Pos} {kt : Nat} (he : EX X P O e T) (ha : a ∈ knownTy.tail) (hb : b ∈ knownTy.tail) (hm : X.mg "isinstance" = none) (hm2 : X.mg x = none) (hv2 : bootBuiltins x = some (.type a)) (hm3 : X.mg y = none) (hv3 : bootBuiltins y = some (.type b)) (hg2 : Gl X x := by rfl) (hg3 : Gl X y := by rfl)
    (hg : Gl X "isinstance" := by rfl) (hdb2 : (x == ("__debug__" : Str)) = false := by decide) (hnn2 : x ≠ "__name__" := by decide) (hdb3 : (y == ("__debug__" : Str)) = false := by decide) (hnn3 : y ≠ "__name__" := by decide)
    (hs : starEach [e, .Tuple [.Name x p2, .Name y p3] kt tp] X.env = (false, eval e X.env) :: starEach [.Tuple [.Name x p2, .Name y p3] kt tp] X.env := by rfl) (hs2 : starEach [.Tuple [.Name x p2, .Name y p3] kt tp] X.env = (false, eval (.Tuple [.Name x p2, .Name y p3] kt tp) X.env) :: starEach [] X.env := by rfl)
    (hs3 : starEach [.Name x p2, .Name y p3] X.env = (false, eval (.Name x p2) X.env) :: starEach [.Name y p3] X.env := by rfl) (hs4 : starEach [.Name y p3] X.env = (false, eval (.Name y p3) X.env) :: starEach [] X.env := by rfl)
    (hpl : (backTo pos (starEach [.Tuple [.Name x p2, .Name y p3] kt tp] X.env)).any (·.1) = false := by rfl) :
    EX X P O (.Call (.Name "isinstance" p) [e, .Tuple [.Name x p2, .Name y p3] kt tp] [] pos) (isi2T a b T) := by
  have h1 : PE X (.Name x p2) (tC (.ty a)) := pe_bltn hg2 hm2 hv2 (show L2.RelV (.ty a) (.type a) from rfl) hnn2 hdb2
  have h2 : PE X (.Name y p3) (tC (.ty b)) := pe_bltn hg3 hm3 hv3 (show L2.RelV (.ty b) (.type b) from rfl) hnn3 hdb3
  have ht := pe_tup (x1 := kt) (pos := tp) (pa_cons h1 (pa_cons h2 pa_nil hs4) hs3)
  refine pe_mono (pe_callB call_isiT hg hm (by rfl) (pa_cons he (pa_cons ht pa_nil hs2) hs) (by decide) (by decide) hs hpl) fun σ H Q ⟨ρ, G, F, rr, h⟩ => ?_
  refine tX_bind' (R := rE X.K) rr h fun v H1 d ρ1 G1 r1 e1 p1 h1 => ?_
  unfold isi2D at h1
  cases z : tyD d with
  | none => rw [z] at h1; exact h1.elim
  | some t =>
    rw [z] at h1
    refine ⟨(by decide : 2 ≤ sizeLine), fun q hq => ?_⟩
    obtain ⟨r2, e2⟩ := r1.alloc (o := .tup [.ty a, .ty b]) hq
    refine ⟨v, q, [.ty a, .ty b], .type t, [.type a, .type b], subTy t a || subTy t b, rfl, upd_same, .cons (.ty a) (.cons (.ty b) .nil), dp_ty (dp_mono r2.gr (dp_mono e2.1 p1)) z, ?_, h1 _ _ _ r2 e2 (.bl _)⟩
    refine kitAny_cons (kit_ty (kitB_known t (tyD_known z) a ha)) (fun hf => ?_) (fun ht => by rw [ht]; rfl)
    rw [hf]
    exact kitAny_cons (kit_ty (kitB_known t (tyD_known z) b hb)) (fun hf => by rw [hf]; exact kitAny_nil) (fun ht => by rw [ht]; rfl)

/-! ### parallel stores from the left -/
theorem ps_parG {es tgs : List Expr} {ta : TA} {g : TGs} {pt pt2 pos : Pos} {kt k2 : Nat} (hc : X.calm = true) (ha : PA X es ta) (hg : PGs X tgs g) (hlen : (assignEach tgs X.env).length = es.length := by rfl) (hst : (assignEach tgs X.env).findIdx? (·.1) = none := by rfl)
    (hw : swappedStores [.Tuple tgs kt pt] (.Tuple es k2 pt2) X.env = pure none := by rfl) (hs : swapsWithSole [.Tuple tgs kt pt] (.Tuple es k2 pt2) pos.line X.env = pure false := by rfl)
    (h1 : (assignEach [.Tuple tgs kt pt] X.env).map (·.2) = [assign (.Tuple tgs kt pt) X.env] := by rfl) :
    PS X (.Assign [.Tuple tgs kt pt] (.Tuple es k2 pt2) pos) (fun D σ H => ta σ H fun vs H1 => vs.length = es.length ∧ es.length ≤ sizeLine ∧ g vs σ H1 D.nx) := by
  refine ⟨fun pins s σ H D I h => ?_⟩
  refine wpAny_Assign_stores (Tuple_ (thn (ha.run _ pins s σ H _ I h) fun us s1 ⟨vs, H1, I1, r1, hl, hz, q1⟩ => ?_)) hs hw
  have hlu : us.length = es.length := by rw [← r1.length]; exact hl
  refine wpAny_newObj_type ?_ (by show us.toArray.size ≤ sizeLine; rw [List.size_toArray, hlu]; exact hz)
  have I2 : Inv X pins σ H1 { s1 with heap := s1.heap.push { cls := .type "tuple", data := .seq us.toArray } } := I1.kept (t' := s1.toks) fun b o e => Heap.get?_push_of_some _ e
  rw [h1]
  show wpAny (model X.prog X.w) X.A (assign (.Tuple tgs kt pt) X.env (.ref s1.heap.objs.size)) _ _ _
  refine assign_Tuple_tuple (I1.ok.hd hc) (IsTup.new s1.heap us.toArray) (by rw [List.size_toArray, hlu, hlen]) hst fun h' hx => ?_
  have I3 : Inv X pins σ H1 { s1 with heap := h' } := I2.kept (h' := h') (t' := s1.toks) fun b o e => hx b o (Nat.ne_of_lt (Heap.lt_size e)) e
  exact thn (hg.run pins _ σ H1 vs _ _ I3 (by simpa using r1) q1) fun _ s2 q => q
/-- a, b = x, y that the compiler does not turn -/
theorem sx_parL (i j : Nat) {x y : Str} {a b : Expr} {k l : Option OKd} {Ta : Rho → Out Rho (List D)} {px py pt pos : Pos} {kt k2 pt2} (hc : X.calm = true) (hN : X.N.Nodup) (ha : AFX X P O [a, b] [k, l] Ta) (hex : L.ex O)
    (hw : swappedStores [.Tuple [.Name x px, .Name y py] kt pt] (.Tuple [a, b] k2 pt2) X.env = pure none := by rfl) (hO' : O' = (O.set i k).set j l := by rfl) (hO : i < O.length := by exact Nat.le_of_ble_eq_true rfl) (hO2 : j < O.length := by exact Nat.le_of_ble_eq_true rfl)
    (hfx : (P.fx.map (·.1)).contains i = false := by rfl) (hfx2 : (P.fx.map (·.1)).contains j = false := by rfl) (hi : X.N[i]? = some x := by rfl) (hj : X.N[j]? = some y := by rfl) (hx : Loc X.env.scope x := by first | exact Or.inl rfl | exact Or.inr rfl) (hy : Loc X.env.scope y := by first | exact Or.inl rfl | exact Or.inr rfl)
    (hfn1 : X.fn x = true ∨ X.env.scope.names.lookup x = some .local := by first | exact .inl rfl | exact .inr rfl) (hfn2 : X.fn y = true ∨ X.env.scope.names.lookup y = some .local := by first | exact .inl rfl | exact .inr rfl)
    (hs : swapsWithSole [.Tuple [.Name x px, .Name y py] kt pt] (.Tuple [a, b] k2 pt2) pos.line X.env = pure false := by rfl) (h1 : (assignEach [.Tuple [.Name x px, .Name y py] kt pt] X.env).map (·.2) = [assign (.Tuple [.Name x px, .Name y py] kt pt) X.env] := by rfl)
    (hs1 : (assignEach [.Name x px, .Name y py] X.env).map (·.2) = assign (.Name x px) X.env :: (assignEach [.Name y py] X.env).map (·.2) := by rfl) (hs2 : (assignEach [.Name y py] X.env).map (·.2) = assign (.Name y py) X.env :: (assignEach [] X.env).map (·.2) := by rfl) :
    SX X P L O O' (.Assign [.Tuple [.Name x px, .Name y py] kt pt] (.Tuple [a, b] k2 pt2) pos) (par2T i j Ta) := by
  subst hO'
  refine ps_mono (ps_parG (es := [a, b]) hc ha (pgs_cons (pg_name hN hi hx hfn1) (pgs_cons (pg_name hN hj hy hfn2) pgs_nil hs2) hs1) rfl rfl hw hs h1) fun E σ H h => ?_
  refine tX_stmt (R := rAF X.K O [k, l]) hex h fun vs H1 ds ρ1 G1 F r1 p1 f1 => ?_
  obtain ⟨l1, l2⟩ := AFs.len p1
  match vs, ds, l1, l2 with
  | [v, w], [d, e], _, _ =>
    refine ⟨rfl, (by decide : 2 ≤ sizeLine), v, [w], rfl, w, [], rfl, rfl, ?_⟩
    exact f1 _ H1 G1 (r1.puts2 hO hO2 (hfx_of hfx) (hfx_of hfx2) p1) (Ext.refl _ _)
/-- a, b, c = x, y, z, nothing fresh -/
def par3T (i j l : Nat) (Ta : Rho → Out Rho (List D)) : Rho → Out Rho Flw := fun ρ => (Ta ρ).bind fun ds ρ1 => match ds with
  | [d, e, f] => .ok .nx (((ρ1.set i (some d)).set j (some e)).set l (some f))
  | _ => .bad
theorem sx_par3 (i j l : Nat) {x y z : Str} {a b c : Expr} {Ta : Rho → Out Rho (List D)} {px py pz pt pos : Pos} {kt k2 pt2} (hc : X.calm = true) (hN : X.N.Nodup) (ha : AX X P O [a, b, c] Ta) (hex : L.ex O)
    (hw : swappedStores [.Tuple [.Name x px, .Name y py, .Name z pz] kt pt] (.Tuple [a, b, c] k2 pt2) X.env = pure (some [x, y, z])) (hO' : O' = ((O.set i none).set j none).set l none := by rfl) (hO : i < O.length := by exact Nat.le_of_ble_eq_true rfl) (hO2 : j < O.length := by exact Nat.le_of_ble_eq_true rfl) (hO3 : l < O.length := by exact Nat.le_of_ble_eq_true rfl) (hij : i ≠ j := by decide) (hil : i ≠ l := by decide) (hjl : j ≠ l := by decide)
    (hfx : (P.fx.map (·.1)).contains i = false := by rfl) (hfx2 : (P.fx.map (·.1)).contains j = false := by rfl) (hfx3 : (P.fx.map (·.1)).contains l = false := by rfl) (hi : X.N[i]? = some x := by rfl) (hj : X.N[j]? = some y := by rfl) (hl : X.N[l]? = some z := by rfl)
    (hx : X.env.scope.names.lookup x = some .local := by rfl) (hy : X.env.scope.names.lookup y = some .local := by rfl) (hz : X.env.scope.names.lookup z = some .local := by rfl)
    (hs : swapsWithSole [.Tuple [.Name x px, .Name y py, .Name z pz] kt pt] (.Tuple [a, b, c] k2 pt2) pos.line X.env = pure false := by rfl) :
    SX X P L O O' (.Assign [.Tuple [.Name x px, .Name y py, .Name z pz] kt pt] (.Tuple [a, b, c] k2 pt2) pos) (par3T i j l Ta) := by
  subst hO'
  refine ps_mono (ps_par3 hc hN hi hj hl hij hil hjl hx hy hz ha hw hs) fun E σ H h => ?_
  refine tX_stmt (R := rA X.K) hex h fun vs H1 ds ρ1 G1 F r1 p1 f1 => ?_
  match ds, p1, f1 with
  | [d, e, f], .cons a1 (.cons a2 (.cons a3 .nil)), f1 =>
    exact ⟨_, _, _, rfl, f1 _ H1 G1 (((r1.setAny hO (hfx_of hfx) a1).setAny (by simpa using hO2) (hfx_of hfx2) a2).setAny (by simpa using hO3) (hfx_of hfx3) a3) (Ext.refl _ _)⟩
  | [], _, f1 => exact f1.elim
  | [_], _, f1 => exact f1.elim
  | [_, _], _, f1 => exact f1.elim
  | _ :: _ :: _ :: _ :: _, _, f1 => exact f1.elim
/-! ### an owned list on the left, as a test -/
theorem tx_cmpO (i : Nat) {op : CmpOp} {g : D → D → Option D} (ho : OpR X (compareOp op) (rD X.K g)) (hg : ∀ d e f, g d e = some f → ∃ v, flatD f = some v) {x : Str} {b : Expr} {Tb : Rho → Out Rho D} {p pos : Pos} (hb : EX X P O b Tb) (hm : behindInMarks op b = false)
    (n : ok O i = some .lst := by rfl) (hN : X.N[i]? = some x := by rfl) (hv : Vis X.env.scope x := by first | exact Or.inl rfl | exact Or.inr (Or.inl rfl) | exact Or.inr (Or.inr rfl)) (hd : (x == ("__debug__" : Str)) = false := by decide) (hcd : (x == ("__classdict__" : Str)) = false := by decide) :
    TX X P O (.Compare (.Name x p) [op] [b] pos) (isB (binO i g Tb)) :=
  pt_mono (pt_cmpR ho (pe_var hN hv hd hcd) hb hm) fun σ H Q h => tX_binO n (fun {H ρ G F a xs ds y e f} r _ _ hx hy hf h => by
    obtain ⟨v, hv⟩ := hg _ e f hf
    exact ⟨_, e, f, v, hx, dp_mono r.gr hy, hf, hv, h v H G r (Ext.refl _ _) (flat_dp hv)⟩) (tT_of h)
/-! ### list(range(a, b)) -/
def rgOkB (i j : Int) : Bool := decide (i.natAbs < 2 ^ 62 ∧ j.natAbs < 2 ^ 62 ∧ (j - i).toNat ≤ 2 ^ 24)
theorem rgOkB_of {i j : Int} (h : rgOkB i j = true) : -(2 ^ 62) ≤ i ∧ i < 2 ^ 62 ∧ -(2 ^ 62) ≤ j ∧ j < 2 ^ 62 ∧ (j - i).toNat ≤ 2 ^ 24 := by
  unfold rgOkB at h
  have := of_decide_eq_true h
  omega
def lrgD : D → D → Option D
  | .int i, .int j => if rgOkB i j = true then some (.list (rng i j)) else none
  | _, _ => none
theorem rgV_dp {K : PySem.W.Frag} {G : Hp} (i j : Int) : DpAll K G (rgV i j) (rng i j) := by
  unfold rgV rng
  induction List.range (j - i).toNat with
  | nil => exact .nil
  | cons a r ih => exact .cons (.int _) ih
theorem fx_listRg {a b : Expr} {Ta Tb : Rho → Out Rho D} {p p2 pos2 pos : Pos} (hc : X.calm = true) (ha : EX X P O a Ta) (hb : EX X P O b Tb) (hm : X.mg "list" = none) (hm2 : X.mg "range" = none) (hg : Gl X "list" := by rfl) (hg2 : Gl X "range" := by rfl)
    (na : starEach [a, b] X.env = (false, eval a X.env) :: starEach [b] X.env := by rfl) (nb : starEach [b] X.env = (false, eval b X.env) :: starEach [] X.env := by rfl) (hp : (backTo pos2 (starEach [b] X.env)).any (·.1) = false := by rfl)
    (ns : starEach [.Call (.Name "range" p2) [a, b] [] pos2] X.env = (false, eval (.Call (.Name "range" p2) [a, b] [] pos2) X.env) :: starEach [] X.env := by rfl) :
    FX X P O .lst (.Call (.Name "list" p) [.Call (.Name "range" p2) [a, b] [] pos2] [] pos) (binT lrgD Ta Tb) := by
  refine pe_mono (pe_listRg hc hg hm (prg_2 hg2 hm2 ha hb na nb hp) ns) fun σ H Q ⟨ρ, G, F, rr, h⟩ => ?_
  refine tX_bind' (R := rE X.K) rr h fun x H1 d ρ1 G1 r1 e1 p1 h1 => ?_
  refine tX_bind' (R := rE X.K) r1 h1 fun y H2 e ρ2 G2 r2 e2 p2 h2 => ?_
  cases d with
  | int i =>
    cases e with
    | int j =>
      cases p1; cases p2
      unfold lrgD at h2
      simp only at h2
      by_cases z : rgOkB i j = true
      · rw [if_pos z] at h2
        exact ⟨i, j, rfl, rfl, rgOkB_of z, fun q hq => h2 _ _ _ (r2.side hq) (Ext.refl _ _) (fresh_at r2 hq (rgV_dp i j))⟩
      · rw [if_neg z] at h2; exact h2.elim
    | _ => exact h2.elim
  | _ => exact h2.elim
end
/-! ### bodies by shapes -/
def fuel : Nat := 2 ^ 60
theorem fuel_eq : fuel = 2 ^ 60 := rfl
theorem fxOf_nones : ∀ {m i : Nat} {vs : List V}, fxOf i (List.replicate m none) vs = []
  | 0, i, [] => rfl
  | 0, i, _ :: _ => rfl
  | m + 1, i, [] => rfl
  | m + 1, i, v :: vs => fxOf_nones (m := m) (i := i + 1) (vs := vs)
section
variable {P : Program} {w : World} {K : PySem.W.Frag} {mg : Str → Option Value} {base : Heap} {x qual : Str} {st : Stmt} {f : Addr} {fd : FuncData} {N ps : List Str} {k : Nat} {rk : Option OKd} {O' : Own} {T : Rho → Out Rho Flw}
/-- a def whose parameters own nothing -/
theorem fnZ0 (m : Nat) (F : Fun K x qual st f fd) (S : FnScope N ps (defScope st)) (hl : m = ps.length)
    (hb : ∀ (cdv : Value) (A : Around) (outer : List Env) (s : Shared) (H : Hp) (E : XK), Bod (cxOf (L2.CX P w) P w K mg base N qual (defScope st) f cdv A outer s H E) k (fun cls d _ H => E cls d H) →
      BX (cxOf (L2.CX P w) P w K mg base N qual (defScope st) f cdv A outer s H E) ⟨[], fun cls d _ H => E cls d H⟩ ⟨[], exOf (List.replicate m none), rk⟩ (own0 N.length (List.replicate m none)) O' (defBody st) T)
    (hx : rk = none ∨ ∀ ρ0 ρ, T ρ0 ≠ .ok .nx ρ) : FnOk P w K mg base (L2.CX P w) (k + 1) f fd ps (spZ K mg (List.replicate m none) rk (runF [] N.length T)) := by
  have h := fnZ (P := P) (w := w) (mg := mg) (base := base) (k := k) (ks := List.replicate m none) (rk := rk) (lp := []) (O' := O') (T := T) F S (by simp [hl]) (fun cdv A outer s H E vs _ b => by
    have := hb cdv A outer s H E b
    rw [fxOf_nones]
    exact this) hx exOf_none
  have e : ownIx 0 (List.replicate m none) = [] := by
    have : ∀ (m i : Nat), ownIx i (List.replicate m none) = [] := fun m => by
      induction m with
      | zero => intro i; rfl
      | succ m ih => intro i; exact ih (i + 1)
    exact this m 0
  rw [e] at h
  exact h
/-- a def whose first parameter owns -/
theorem fnZ1 (k0 : OKd) (m : Nat) (F : Fun K x qual st f fd) (S : FnScope N ps (defScope st)) (hl : m + 1 = ps.length)
    (hb : ∀ (cdv : Value) (A : Around) (outer : List Env) (s : Shared) (H : Hp) (E : XK) (a : Addr), Bod (cxOf (L2.CX P w) P w K mg base N qual (defScope st) f cdv A outer s H E) k (fun cls d _ H => E cls d H) →
      BX (cxOf (L2.CX P w) P w K mg base N qual (defScope st) f cdv A outer s H E) ⟨[(0, a)], fun cls d _ H => E cls d H⟩ ⟨[], exOf (some k0 :: List.replicate m none), rk⟩ (own0 N.length (some k0 :: List.replicate m none)) O' (defBody st) T)
    (hx : rk = none ∨ ∀ ρ0 ρ, T ρ0 ≠ .ok .nx ρ) (hO' : exOf (some k0 :: List.replicate m none) O') : FnOk P w K mg base (L2.CX P w) (k + 1) f fd ps (spZ K mg (some k0 :: List.replicate m none) rk (runF [0] N.length T)) := by
  have e : ownIx 0 (some k0 :: List.replicate m none) = [0] := by
    have : ∀ (m i : Nat), ownIx i (List.replicate m none) = [] := fun m => by
      induction m with
      | zero => intro i; rfl
      | succ m ih => intro i; exact ih (i + 1)
    show 0 :: ownIx 1 (List.replicate m none) = [0]
    rw [this m 1]
  rw [← e]
  refine fnZr (lp := []) F S (by simp [hl]) (fun cdv A outer s H E vs hv b => ?_) hx hO'
  cases vs with
  | nil => obtain ⟨a, ha⟩ := hv 0 k0 rfl; simp at ha
  | cons v vs =>
    obtain ⟨a, ha⟩ := hv 0 k0 rfl
    simp at ha
    subst ha
    show BX _ ⟨(0, a) :: fxOf 1 (List.replicate m none) vs, _⟩ _ _ _ _ _
    rw [fxOf_nones]
    exact hb cdv A outer s H E a b
end
def NoNx (T : Rho → Out Rho Flw) : Prop := ∀ ρ ρ', T ρ ≠ .ok .nx ρ'
theorem noNx_ret {T : Rho → Out Rho D} : NoNx (retT T) := fun ρ ρ' => by
  unfold retT
  cases T ρ <;> simp [Out.bind]
theorem noNx_sq {Ta Tb : Rho → Out Rho Flw} (h : NoNx Tb) : NoNx (sqT Ta Tb) := fun ρ ρ' => by
  unfold sqT
  cases e : Ta ρ with
  | ok f s => cases f <;> first | exact h _ _ | simp
  | exc c fs s => simp
  | bad => simp
theorem noNx_if {Tc : Rho → Out Rho Bool} {Ta Tb : Rho → Out Rho Flw} (h : NoNx Ta) (h' : NoNx Tb) : NoNx (ifT Tc Ta Tb) := fun ρ ρ' => by
  unfold ifT
  cases e : Tc ρ with
  | ok c s => cases c <;> simp [Out.bind] <;> first | exact h _ _ | exact h' _ _
  | exc c fs s => simp [Out.bind]
  | bad => simp [Out.bind]
theorem noNx_bad : NoNx badT := fun ρ ρ' => by simp [badT]

/-! ### a comprehension's block -/
def blkB (N : List Str) (sc scope : Scope) (own : List (Str × Nat)) : Bool :=
  decide (scope.kind = .function) && (scope.names.all (fun y => decide (scope.names.lookup y.1 = some y.2)) && (own.all (fun p => decide (N[p.2]? = some p.1)) &&
  (scope.names.all (fun y => !decide (y.2 = .free) || (decide (sc.names.lookup y.1 = some .cell) || decide (sc.names.lookup y.1 = some .free))) &&
   scope.names.all (fun y => !(decide (y.2 = .local) || decide (y.2 = .cell)) || (decide (y.1 ∈ own.map (·.1)) || !decide (y.1 ∈ N))))))
theorem blkOk_of {N : List Str} {sc scope : Scope} {own : List (Str × Nat)} (h : blkB N sc scope own = true) : BlkOk N sc scope own := by
  unfold blkB at h
  obtain ⟨h1, h⟩ := He.ba h
  obtain ⟨h2, h⟩ := He.ba h
  obtain ⟨h3, h⟩ := He.ba h
  obtain ⟨h4, h5⟩ := He.ba h
  refine ⟨of_decide_eq_true h1, fun y hy => of_decide_eq_true (List.all_eq_true.mp h2 y hy), fun p hp => of_decide_eq_true (List.all_eq_true.mp h3 p hp), fun y hy e => ?_, fun y hy e => ?_⟩
  · have q := List.all_eq_true.mp h4 y hy
    rw [decide_eq_true e] at q
    rcases Bool.or_eq_true_iff.mp q with q | q
    · cases q
    · rcases Bool.or_eq_true_iff.mp q with q | q
      · exact .inl (of_decide_eq_true q)
      · exact .inr (of_decide_eq_true q)
  · have q := List.all_eq_true.mp h5 y hy
    have e' : (decide (y.2 = .local) || decide (y.2 = .cell)) = true := by
      rcases e with e | e
      · rw [decide_eq_true e]; rfl
      · rw [decide_eq_true e, Bool.or_true]
    rw [e'] at q
    rcases Bool.or_eq_true_iff.mp q with q | q
    · cases q
    · rcases Bool.or_eq_true_iff.mp q with q | q
      · exact .inl (of_decide_eq_true q)
      · refine .inr ?_
        have q' := q
        simp only [Bool.not_eq_true', decide_eq_false_iff_not] at q'
        exact q'
theorem none_cons {O : Own} {i : Nat} {is : List Nat} (h : ok O i = none) (h' : ∀ j ∈ is, ok O j = none) : ∀ j ∈ i :: is, ok O j = none := fun j hj => by
  rcases List.mem_cons.mp hj with rfl | hj
  · exact h
  · exact h' j hj

/-! ### a class's facts -/
def prG (K : PySem.W.Frag) (C : Addr) (f : Str) : Addr := match PySem.W.recIn K (He.ma K C f) "property" with
  | some (.ref g :: _) => g
  | _ => 0
def propB (K : PySem.W.Frag) (C : Addr) (f : Str) : Bool := He.eqO (PySem.W.findIn K (.ref C) f) (some (some (.ref (He.ma K C f)))) && (He.eqO (PySem.W.specialIn K (.ref (He.ma K C f)) "__get__") (some (some (.builtin "property.__get__"))) &&
  (decide (PySem.W.takesIn K (.ref (He.ma K C f)) = some true) && (match PySem.W.recIn K (He.ma K C f) "property" with
    | some (.ref _ :: _) => true
    | _ => false)))
theorem propB_ok {K : PySem.W.Frag} {C : Addr} {f : Str} (h : propB K C f = true) : PropOf K C f (He.ma K C f) (prG K C f) := by
  unfold propB at h
  obtain ⟨h1, h⟩ := He.ba h
  obtain ⟨h2, h⟩ := He.ba h
  obtain ⟨h3, h4⟩ := He.ba h
  refine ⟨He.eqO_ok h1, He.eqO_ok h2, of_decide_eq_true h3, ?_⟩
  unfold prG
  split at h4
  · rename_i g rest e
    rw [e]
    exact ⟨rest, rfl⟩
  · cases h4
def callB_ (K : PySem.W.Frag) (C : Addr) : Bool := He.eqO (PySem.W.findIn K (.ref C) "__call__") (some (some (.ref (He.ma K C "__call__")))) && (PySem.W.isFn K (.ref (He.ma K C "__call__")) && PySem.W.fnIn K (He.ma K C "__call__"))
theorem callB_ok {K : PySem.W.Frag} {C : Addr} (h : callB_ K C = true) : StX.CallO K C (He.ma K C "__call__") := by
  unfold callB_ at h
  obtain ⟨h1, h⟩ := He.ba h
  obtain ⟨h2, h3⟩ := He.ba h
  exact ⟨He.eqO_ok h1, h2, h3⟩
end Z

/-! file ZEnd -/
set_option Elab.async false
set_option linter.all false
set_option autoImplicit false
set_option maxRecDepth 100000
set_option maxHeartbeats 4000000
/-! a law's end -/
namespace Z
open PySem PySem.Spec PyProof.Rows L2
theorem bindsA {K : PySem.W.Frag} {x qual : Str} {st : Stmt} {f : Addr} {fd : FuncData} {p : Str} (F : Fun K x qual st f fd) (h : BindsW x qual st [p]) (s : Shared) (v : Value) : BindsTo s fd ⟨[v], []⟩ [(p, v)] := by
  obtain ⟨oc, od, kV, doc, pm, an, cdv, ct, osl, rfl, lk, hcd⟩ := F.ex
  exact .of_eq (h kV doc pm an cdv ct [v] rfl)
/-- what a law's walk gives: its promise over every base -/
def LawZ (P : Program) (w : World) (K : PySem.W.Frag) (mg : Str → Option Value) (f : Addr) (k : Nat) (x : Str) (S : List D → Out (List D) D) : Prop :=
  ∃ fd : FuncData, (∀ (s : Shared) (v : Value), BindsTo s fd ⟨[v], []⟩ [(x, v)]) ∧ ∀ base : Heap, FnOk P w K mg base (L2.CX P w) k f fd [x] (spZ K mg [none] none S)
theorem walkZ {l : PySem.W.OpenLaw} {n k : Nat} {q : Program} {loose : List Str} {XP : (Str → Option Value) → Heap → Prop} {YP : World → Heap → Prop} {d : DefRec} {x : Str} {S : List D → Out (List D) D}
    (hn : l.most = some n) (hn2 : n ≤ sizeLine) (hdf : d.params.defaults = []) (hr : Room k callerA)
    (F : ∀ (w : World) (mg : Str → Option Value) (fa : Addr) (h : Heap), YP w h → h.Ns mainGlobals mg → mg d.name = some (.ref fa) → ∃ K : PySem.W.Frag, K.In h ∧ LawZ l.prog w K mg fa k x S)
    (hS : ∀ ns : List Int, ns.length ≤ n → (∀ z ∈ ns, Builtin.Int.intBits z ≤ 1048576) → ∃ os, S [.list (ns.map .int)] = .ok (.bool true) os) :
    PySem.W.WalkO q loose XP YP l.row.toRowW d [] (fun f vs => PySem.call f vs) := by
  refine Att.attach_callB hn hdf fun w s₀ s₁ mg mb fa o pm cd doc a vs ns G Y ho hd hcd hmg hobj hints hlen hbits hg => ?_
  obtain ⟨K, KX, fd, hb, hF⟩ := F w mg fa _ Y G.T.g hmg
  obtain ⟨os, e⟩ := hS ns hlen hbits
  exact law_call KX G.T.g G.T.b G.T.builtins G.T.nolimit hg hobj hints (Nat.le_trans hlen hn2) hr (fun base _ _ => hF base) hb (fun H _ hS' => law_sp hS' e) fun H e s' h => by
    obtain ⟨_, _, _, _, _, _, _, _, _, _, _, _, z⟩ := h
    exact z.elim
end Z

/-! file ZSimp -/
set_option Elab.async false
set_option linter.all false
set_option autoImplicit false
set_option maxRecDepth 100000
set_option maxHeartbeats 4000000
/-! how the readings reckon: equations for simp -/
namespace Z
open PySem PySem.Spec PyProof.Rows L2
@[simp] theorem getS_zero (x : Option D) (l : Rho) : getS 0 (x :: l) = x := rfl
@[simp] theorem getS_succ (n : Nat) (x : Option D) (l : Rho) : getS (n + 1) (x :: l) = getS n l := rfl
@[simp] theorem getS_nil (n : Nat) : getS n [] = none := by cases n <;> rfl
@[simp] theorem bind_ite {r α β : Type} (c : Prop) [Decidable c] (a b : Out r α) (k : α → r → Out r β) : (if c then a else b).bind k = if c then a.bind k else b.bind k := by split <;> rfl
def getK (o : Option D) (ρ : Rho) : Out Rho D := match o with
  | some d => .ok d ρ
  | none => .bad
@[simp] theorem getK_some (d : D) (ρ : Rho) : getK (some d) ρ = .ok d ρ := rfl
@[simp] theorem getK_none (ρ : Rho) : getK none ρ = .bad := rfl
@[simp] theorem varT_eq (i : Nat) (ρ : Rho) : varT i ρ = getK (getS i ρ) ρ := by
  unfold varT getS getK
  cases ρ[i]? with
  | none => rfl
  | some u => cases u <;> rfl
@[simp] theorem cT_eq (d : D) (ρ : Rho) : cT d ρ = .ok d ρ := rfl
@[simp] theorem badT_eq {α : Type} (ρ : Rho) : (badT ρ : Out Rho α) = .bad := rfl
@[simp] theorem binT_eq (g : D → D → Option D) (Ta Tb : Rho → Out Rho D) (ρ : Rho) : binT g Ta Tb ρ = (Ta ρ).bind fun d ρ1 => (Tb ρ1).bind fun e ρ2 => .of (g d e) ρ2 := rfl
/-- a bool is asked -/
def bK {β : Type} (d : D) (k : Bool → Out Rho β) : Out Rho β := match d with
  | .bool b => k b
  | _ => .bad
@[simp] theorem bK_bool {β : Type} (b : Bool) (k : Bool → Out Rho β) : bK (.bool b) k = k b := rfl
@[simp] theorem isB_eq (T : Rho → Out Rho D) (ρ : Rho) : isB T ρ = (T ρ).bind fun d ρ1 => bK d fun b => .ok b ρ1 := by
  unfold isB
  congr
@[simp] theorem andT_eq (Ta Tb : Rho → Out Rho Bool) (ρ : Rho) : andT Ta Tb ρ = (Ta ρ).bind fun c ρ1 => if c = true then Tb ρ1 else .ok false ρ1 := rfl
@[simp] theorem orT_eq (Ta Tb : Rho → Out Rho Bool) (ρ : Rho) : orT Ta Tb ρ = (Ta ρ).bind fun c ρ1 => if c = true then .ok true ρ1 else Tb ρ1 := rfl
@[simp] theorem notT_eq (Ta : Rho → Out Rho Bool) (ρ : Rho) : notT Ta ρ = (Ta ρ).bind fun c ρ1 => .ok (!c) ρ1 := rfl
@[simp] theorem andV_eq (Ta Tb : Rho → Out Rho D) (ρ : Rho) : andV Ta Tb ρ = (Ta ρ).bind fun d ρ1 => bK d fun c => if c = true then Tb ρ1 else .ok (.bool false) ρ1 := by
  unfold andV
  rw [isB_eq]
  cases Ta ρ with
  | ok d s => cases d <;> rfl
  | exc => rfl
  | bad => rfl
@[simp] theorem orV_eq (Ta Tb : Rho → Out Rho D) (ρ : Rho) : orV Ta Tb ρ = (Ta ρ).bind fun d ρ1 => bK d fun c => if c = true then .ok (.bool true) ρ1 else Tb ρ1 := by
  unfold orV
  rw [isB_eq]
  cases Ta ρ with
  | ok d s => cases d <;> rfl
  | exc => rfl
  | bad => rfl
@[simp] theorem notV_eq (Ta : Rho → Out Rho D) (ρ : Rho) : notV Ta ρ = (Ta ρ).bind fun d ρ1 => bK d fun c => .ok (.bool (!c)) ρ1 := by
  unfold notV
  rw [isB_eq]
  cases Ta ρ with
  | ok d s => cases d <;> rfl
  | exc => rfl
  | bad => rfl
@[simp] theorem ifT_eq {α : Type} (Tc : Rho → Out Rho Bool) (Ta Tb : Rho → Out Rho α) (ρ : Rho) : ifT Tc Ta Tb ρ = (Tc ρ).bind fun c ρ1 => if c = true then Ta ρ1 else Tb ρ1 := rfl
@[simp] theorem nilT_eq (ρ : Rho) : nilT ρ = .ok [] ρ := rfl
@[simp] theorem consT_eq (Ta : Rho → Out Rho D) (Tb : Rho → Out Rho (List D)) (ρ : Rho) : consT Ta Tb ρ = (Ta ρ).bind fun d ρ1 => (Tb ρ1).bind fun ds ρ2 => .ok (d :: ds) ρ2 := rfl
/-- items are asked -/
def iK {β : Type} (o : Option (List D)) (k : List D → Out Rho β) : Out Rho β := match o with
  | some l => k l
  | none => .bad
@[simp] theorem iK_some {β : Type} (l : List D) (k : List D → Out Rho β) : iK (some l) k = k l := rfl
@[simp] theorem starT_eq (Ta : Rho → Out Rho D) (Tb : Rho → Out Rho (List D)) (ρ : Rho) : starT Ta Tb ρ = (Ta ρ).bind fun d ρ1 => iK (itemsD d) fun es => (Tb ρ1).bind fun ds ρ2 => .ok (es ++ ds) ρ2 := by
  unfold starT
  congr
@[simp] theorem itemsD_list (l : List D) : itemsD (.list l) = some l := rfl
@[simp] theorem itemsD_tuple (l : List D) : itemsD (.tuple l) = some l := rfl
@[simp] theorem tupT_eq (Ta : Rho → Out Rho (List D)) (ρ : Rho) : tupT Ta ρ = (Ta ρ).bind fun ds ρ1 => if ds.length ≤ sizeLine then .ok (.tuple ds) ρ1 else .bad := rfl
@[simp] theorem lstT_eq (Ta : Rho → Out Rho (List D)) (ρ : Rho) : lstT Ta ρ = (Ta ρ).bind fun ds ρ1 => if ds.length ≤ sizeLine then .ok (.list ds) ρ1 else .bad := rfl
@[simp] theorem noP_eq (ρ : Rho) : noP ρ = .ok none ρ := rfl
/-- an int is asked -/
def nK {β : Type} (d : D) (k : Int → Out Rho β) : Out Rho β := match d with
  | .int i => k i
  | _ => .bad
@[simp] theorem nK_int {β : Type} (i : Int) (k : Int → Out Rho β) : nK (.int i) k = k i := rfl
@[simp] theorem someP_eq (T : Rho → Out Rho D) (ρ : Rho) : someP T ρ = (T ρ).bind fun d ρ1 => nK d fun i => .ok (some i) ρ1 := by
  unfold someP
  congr
@[simp] theorem slcT_eq (T : Rho → Out Rho D) (Tl Th : Rho → Out Rho (Option Int)) (ρ : Rho) : slcT T Tl Th ρ = (T ρ).bind fun d ρ1 => (Tl ρ1).bind fun lo ρ2 => (Th ρ2).bind fun hi ρ3 => .of (slcD d lo hi) ρ3 := rfl
@[simp] theorem callB_eq (g : List D → Option D) (Ta : Rho → Out Rho (List D)) (ρ : Rho) : callB g Ta ρ = (Ta ρ).bind fun ds ρ1 => .of (g ds) ρ1 := rfl
def sK {β : Type} (o : Option D) (k : D → Out Rho β) : Out Rho β := match o with
  | some d => k d
  | none => .bad
@[simp] theorem sK_some {β : Type} (d : D) (k : D → Out Rho β) : sK (some d) k = k d := rfl
@[simp] theorem callO_eq (i : Nat) (g : List D → Option D) (ρ : Rho) : callO i g ρ = sK (getS i ρ) fun d => .of (g [d]) ρ := by
  unfold callO
  cases getS i ρ <;> rfl
@[simp] theorem binO_eq (i : Nat) (g : D → D → Option D) (Tb : Rho → Out Rho D) (ρ : Rho) : binO i g Tb ρ = sK (getS i ρ) fun _ => (Tb ρ).bind fun e ρ2 => sK (getS i ρ2) fun d => .of (g d e) ρ2 := by
  unfold binO
  cases getS i ρ with
  | none => rfl
  | some d0 =>
    show (Tb ρ).bind _ = (Tb ρ).bind _
    congr
    funext e ρ2
    cases getS i ρ2 <;> rfl
@[simp] theorem seqT_eq (T : Rho → Out Rho D) (ρ : Rho) : seqT T ρ = (T ρ).bind fun d ρ1 => .of (itemsD d) ρ1 := rfl
@[simp] theorem rngT_eq (g : List D → Option (List D)) (Ta : Rho → Out Rho (List D)) (ρ : Rho) : rngT g Ta ρ = (Ta ρ).bind fun ds ρ1 => .of (g ds) ρ1 := rfl
@[simp] theorem asgT_eq (i : Nat) (T : Rho → Out Rho D) (ρ : Rho) : asgT i T ρ = (T ρ).bind fun d ρ1 => .ok .nx (ρ1.set i (some d)) := rfl
def rK {β : Type} (o : Option Rho) (k : Rho → Out Rho β) : Out Rho β := match o with
  | some ρ => k ρ
  | none => .bad
@[simp] theorem rK_some {β : Type} (ρ : Rho) (k : Rho → Out Rho β) : rK (some ρ) k = k ρ := rfl
@[simp] theorem tgtT_eq (g : D → Rho → Option Rho) (T : Rho → Out Rho D) (ρ : Rho) : tgtT g T ρ = (T ρ).bind fun d ρ1 => rK (g d ρ1) fun ρ2 => .ok .nx ρ2 := by
  unfold tgtT
  congr
@[simp] theorem retT_eq (T : Rho → Out Rho D) (ρ : Rho) : retT T ρ = (T ρ).bind fun d ρ1 => .ok (.rt d) ρ1 := rfl
@[simp] theorem dropT_eq (T : Rho → Out Rho D) (ρ : Rho) : dropT T ρ = (T ρ).bind fun _ ρ1 => .ok .nx ρ1 := rfl
@[simp] theorem nxT_eq (ρ : Rho) : nxT ρ = .ok .nx ρ := rfl
def sqK (o : Out Rho Flw) (k : Rho → Out Rho Flw) : Out Rho Flw := match o with
  | .ok .nx ρ1 => k ρ1
  | o => o
@[simp] theorem sqK_nx (ρ : Rho) (k : Rho → Out Rho Flw) : sqK (.ok .nx ρ) k = k ρ := rfl
@[simp] theorem sqK_rt (d : D) (ρ : Rho) (k : Rho → Out Rho Flw) : sqK (.ok (.rt d) ρ) k = .ok (.rt d) ρ := rfl
@[simp] theorem sqK_bk (ρ : Rho) (k : Rho → Out Rho Flw) : sqK (.ok .bk ρ) k = .ok .bk ρ := rfl
@[simp] theorem sqK_ct (ρ : Rho) (k : Rho → Out Rho Flw) : sqK (.ok .ct ρ) k = .ok .ct ρ := rfl
@[simp] theorem sqK_exc (c : Str) (fs : List (Str × D)) (ρ : Rho) (k : Rho → Out Rho Flw) : sqK (.exc c fs ρ) k = .exc c fs ρ := rfl
@[simp] theorem sqK_bad (k : Rho → Out Rho Flw) : sqK .bad k = .bad := rfl
@[simp] theorem sqK_ite (c : Prop) [Decidable c] (a b : Out Rho Flw) (k : Rho → Out Rho Flw) : sqK (if c then a else b) k = if c then sqK a k else sqK b k := by split <;> rfl
@[simp] theorem sqT_eq (Ta Tb : Rho → Out Rho Flw) (ρ : Rho) : sqT Ta Tb ρ = sqK (Ta ρ) Tb := by
  unfold sqT sqK
  cases Ta ρ with
  | ok f s => cases f <;> rfl
  | exc => rfl
  | bad => rfl
@[simp] theorem forS_eq (Ti : Rho → Out Rho (List D)) (g : D → Rho → Option Rho) (b : Rho → Out Rho Flw) (ρ : Rho) : forS Ti g b ρ = (Ti ρ).bind fun ds ρ1 => forT g b ds ρ1 := rfl
@[simp] theorem setG_eq (i : Nat) (d : D) (ρ : Rho) : setG i d ρ = some (ρ.set i (some d)) := rfl
@[simp] theorem nilG_nil (ρ : Rho) : nilG [] ρ = some ρ := rfl
@[simp] theorem consG_cons (g : D → Rho → Option Rho) (gs : List D → Rho → Option Rho) (d : D) (ds : List D) (ρ : Rho) : consG g gs (d :: ds) ρ = (g d ρ).bind fun ρ1 => gs ds ρ1 := rfl
@[simp] theorem tupG_tuple (n : Nat) (gs : List D → Rho → Option Rho) (ds : List D) (ρ : Rho) : tupG n gs (.tuple ds) ρ = if ds.length = n then gs ds ρ else none := rfl
/-- a list is asked -/
def lK {β : Type} (o : Option D) (k : List D → Out Rho β) : Out Rho β := match o with
  | some (.list l) => k l
  | _ => .bad
@[simp] theorem lK_list {β : Type} (l : List D) (k : List D → Out Rho β) : lK (some (.list l)) k = k l := rfl
@[simp] theorem appT_eq (i : Nat) (Ta : Rho → Out Rho D) (ρ : Rho) : appT i Ta ρ = sK (getS i ρ) fun _ => (Ta ρ).bind fun d ρ1 => lK (getS i ρ1) fun ds => if ds.length < sizeLine then .ok .nx (ρ1.set i (some (.list (ds ++ [d])))) else .bad := by
  unfold appT
  cases getS i ρ with
  | none => rfl
  | some d0 =>
    show (Ta ρ).bind _ = (Ta ρ).bind _
    congr
def jK {β : Type} (o : Option Nat) (k : Nat → Out Rho β) : Out Rho β := match o with
  | some j => k j
  | none => .bad
@[simp] theorem jK_some {β : Type} (j : Nat) (k : Nat → Out Rho β) : jK (some j) k = k j := rfl
@[simp] theorem stT_eq (i : Nat) (Tk Te : Rho → Out Rho D) (ρ : Rho) : stT i Tk Te ρ = (Te ρ).bind fun d ρ1 => sK (getS i ρ1) fun _ => (Tk ρ1).bind fun k ρ2 => lK (getS i ρ2) fun ds => nK k fun n => jK (ixN ds.length n) fun j => .ok .nx (ρ2.set i (some (.list (ds.set j d)))) := by
  unfold stT
  congr
  funext d ρ1
  cases getS i ρ1 with
  | none => rfl
  | some d0 =>
    show (Tk ρ1).bind _ = (Tk ρ1).bind _
    congr
    funext k ρ2
    cases getS i ρ2 with
    | none => rfl
    | some d =>
      cases d with
      | list ds =>
        cases k with
        | int n =>
          show (match ixN ds.length n with | some j => _ | none => _) = jK (ixN ds.length n) _
          cases ixN ds.length n <;> rfl
        | _ => rfl
      | _ => rfl
def cK {β : Type} (o : Option D) (a b : Out Rho β) : Out Rho β := match o with
  | some (.bool true) => a
  | some (.bool false) => b
  | _ => .bad
@[simp] theorem cK_bool {β : Type} (c : Bool) (a b : Out Rho β) : cK (some (.bool c)) a b = if c = true then a else b := by cases c <;> rfl
@[simp] theorem chainT_eq (g g' : D → D → Option D) (Ta Tb Tc : Rho → Out Rho D) (ρ : Rho) : chainT g g' Ta Tb Tc ρ = (Ta ρ).bind fun a ρ1 => (Tb ρ1).bind fun b ρ2 => cK (g a b) ((Tc ρ2).bind fun c ρ3 => .of (g' b c) ρ3) (.ok (.bool false) ρ2) := by
  unfold chainT
  congr
@[simp] theorem isiT_eq (b : String) (T : Rho → Out Rho D) (ρ : Rho) : isiT b T ρ = (T ρ).bind fun d ρ1 => .of (isiD b d) ρ1 := rfl
@[simp] theorem isi2T_eq (a b : String) (T : Rho → Out Rho D) (ρ : Rho) : isi2T a b T ρ = (T ρ).bind fun d ρ1 => .of (isi2D a b d) ρ1 := rfl
/-- a def's answer -/
def fK (js : List (Option Nat)) (o : Out (List D) D) (ρ : Rho) : Out Rho D := match o with
  | .ok d os => .ok d (putJ js os ρ)
  | .exc c fs os => .exc c fs (putJ js os ρ)
  | .bad => .bad
@[simp] theorem fK_ok (js : List (Option Nat)) (d : D) (os : List D) (ρ : Rho) : fK js (.ok d os) ρ = .ok d (putJ js os ρ) := rfl
@[simp] theorem fK_exc (js : List (Option Nat)) (c : Str) (fs : List (Str × D)) (os : List D) (ρ : Rho) : fK js (.exc c fs os) ρ = .exc c fs (putJ js os ρ) := rfl
@[simp] theorem fK_bad (js : List (Option Nat)) (ρ : Rho) : fK js .bad ρ = .bad := rfl
@[simp] theorem fK_ite (js : List (Option Nat)) (c : Prop) [Decidable c] (a b : Out (List D) D) (ρ : Rho) : fK js (if c then a else b) ρ = if c then fK js a ρ else fK js b ρ := by split <;> rfl
@[simp] theorem callT_eq (js : List (Option Nat)) (S : List D → Out (List D) D) (Ta : Rho → Out Rho (List D)) (ρ : Rho) : callT js S Ta ρ = (Ta ρ).bind fun ds ρ1 => iK (fillJ js ds ρ1) fun ds' => fK js (S ds') ρ1 := by
  unfold callT
  congr
  funext ds ρ1
  cases fillJ js ds ρ1 with
  | none => rfl
  | some ds' =>
    show (match S ds' with | .ok d os => _ | .exc c fs os => _ | .bad => _) = fK js (S ds') ρ1
    cases S ds' <;> rfl
@[simp] theorem fillJ_nil (ρ : Rho) : fillJ [] [] ρ = some [] := rfl
@[simp] theorem fillJ_none (js : List (Option Nat)) (d : D) (ds : List D) (ρ : Rho) : fillJ (none :: js) (d :: ds) ρ = (fillJ js ds ρ).map (d :: ·) := rfl
@[simp] theorem fillJ_some (i : Nat) (js : List (Option Nat)) (d : D) (ds : List D) (ρ : Rho) : fillJ (some i :: js) (d :: ds) ρ = (getS i ρ).bind fun e => (fillJ js ds ρ).map (e :: ·) := rfl
@[simp] theorem putJ_nil (os : List D) (ρ : Rho) : putJ [] os ρ = ρ := rfl
@[simp] theorem putJ_none (js : List (Option Nat)) (os : List D) (ρ : Rho) : putJ (none :: js) os ρ = putJ js os ρ := rfl
@[simp] theorem putJ_some (i : Nat) (js : List (Option Nat)) (o : D) (os : List D) (ρ : Rho) : putJ (some i :: js) (o :: os) ρ = putJ js os (ρ.set i (some o)) := rfl
@[simp] theorem ownT_eq (i : Nat) (Tb : Rho → Out Rho (List D)) (ρ : Rho) : ownT i Tb ρ = sK (getS i ρ) fun _ => (Tb ρ).bind fun ds ρ2 => .ok (.none :: ds) ρ2 := by
  unfold ownT
  cases getS i ρ <;> rfl
def qK (js : List (Option Nat)) (o : Out (List D) D) (ρ : Rho) : Out Rho D := match o with
  | .ok d os => .ok d (putJ js os ρ)
  | _ => .bad
@[simp] theorem qK_ok (js : List (Option Nat)) (d : D) (os : List D) (ρ : Rho) : qK js (.ok d os) ρ = .ok d (putJ js os ρ) := rfl
@[simp] theorem callQ_eq (js : List (Option Nat)) (S : List D → Out (List D) D) (Ta : Rho → Out Rho (List D)) (ρ : Rho) : callQ js S Ta ρ = (Ta ρ).bind fun ds ρ1 => iK (fillJ js ds ρ1) fun ds' => qK js (S ds') ρ1 := by
  unfold callQ
  congr
  funext ds ρ1
  cases fillJ js ds ρ1 with
  | none => rfl
  | some ds' =>
    show (match S ds' with | .ok d os => _ | _ => _) = qK js (S ds') ρ1
    cases S ds' <;> rfl
@[simp] theorem par2T_eq (i j : Nat) (Ta : Rho → Out Rho (List D)) (ρ : Rho) : par2T i j Ta ρ = (Ta ρ).bind fun ds ρ1 => match ds with
  | [d, e] => .ok .nx ((ρ1.set i (some d)).set j (some e))
  | _ => .bad := rfl
@[simp] theorem par3T_eq (i j l : Nat) (Ta : Rho → Out Rho (List D)) (ρ : Rho) : par3T i j l Ta ρ = (Ta ρ).bind fun ds ρ1 => match ds with
  | [d, e, f] => .ok .nx (((ρ1.set i (some d)).set j (some e)).set l (some f))
  | _ => .bad := rfl
/-- pairs are asked -/
def dK {β : Type} (o : Option D) (k : List (D × D) → Out Rho β) : Out Rho β := match o with
  | some (.dict l) => k l
  | _ => .bad
@[simp] theorem dK_dict {β : Type} (l : List (D × D)) (k : List (D × D) → Out Rho β) : dK (some (.dict l)) k = k l := rfl
@[simp] theorem fldT_eq (i : Nat) (f : Str) (ρ : Rho) : fldT i f ρ = dK (getS i ρ) fun kvs => .of (getF f kvs) ρ := by
  unfold fldT
  cases getS i ρ with
  | none => rfl
  | some d => cases d <;> rfl
@[simp] theorem sfldT_eq (i : Nat) (f : Str) (Te : Rho → Out Rho D) (ρ : Rho) : sfldT i f Te ρ = (Te ρ).bind fun d ρ1 => dK (getS i ρ1) fun kvs => if kvs.length < 1000 then .ok .nx (ρ1.set i (some (.dict (putD f d kvs)))) else .bad := by
  unfold sfldT
  congr
/-- a def's end -/
def endK (is : List Nat) (o : Out Rho Flw) : Out (List D) D := match o with
  | .ok (.rt d) ρ => .ok d (outsOf is ρ)
  | .ok .nx ρ => .ok .none (outsOf is ρ)
  | .ok .bk _ => .bad
  | .ok .ct _ => .bad
  | .exc c fs ρ => .exc c fs (outsOf is ρ)
  | .bad => .bad
theorem runF_eq (is : List Nat) (n : Nat) (T : Rho → Out Rho Flw) (ds : List D) : runF is n T ds = endK is (T (rho0 n ds)) := by
  unfold runF endK
  cases T (rho0 n ds) with
  | ok f s => cases f <;> rfl
  | exc => rfl
  | bad => rfl
@[simp] theorem endK_rt (is : List Nat) (d : D) (ρ : Rho) : endK is (.ok (.rt d) ρ) = .ok d (outsOf is ρ) := rfl
@[simp] theorem endK_nx (is : List Nat) (ρ : Rho) : endK is (.ok .nx ρ) = .ok .none (outsOf is ρ) := rfl
@[simp] theorem endK_exc (is : List Nat) (c : Str) (fs : List (Str × D)) (ρ : Rho) : endK is (.exc c fs ρ) = .exc c fs (outsOf is ρ) := rfl
@[simp] theorem endK_bad (is : List Nat) : endK is .bad = .bad := rfl
@[simp] theorem endK_ite (is : List Nat) (c : Prop) [Decidable c] (a b : Out Rho Flw) : endK is (if c then a else b) = if c then endK is a else endK is b := by split <;> rfl
@[simp] theorem outsOf_nil (ρ : Rho) : outsOf [] ρ = [] := rfl
@[simp] theorem outsOf_cons (i : Nat) (is : List Nat) (ρ : Rho) : outsOf (i :: is) ρ = (getS i ρ).getD .none :: outsOf is ρ := rfl
@[simp] theorem loopK_nx (ρ : Rho) (k : Rho → Out Rho Flw) : loopK (.ok .nx ρ) k = k ρ := rfl
@[simp] theorem loopK_ct (ρ : Rho) (k : Rho → Out Rho Flw) : loopK (.ok .ct ρ) k = k ρ := rfl
@[simp] theorem loopK_bk (ρ : Rho) (k : Rho → Out Rho Flw) : loopK (.ok .bk ρ) k = .ok .nx ρ := rfl
@[simp] theorem loopK_rt (d : D) (ρ : Rho) (k : Rho → Out Rho Flw) : loopK (.ok (.rt d) ρ) k = .ok (.rt d) ρ := rfl
@[simp] theorem loopK_exc (c : Str) (fs : List (Str × D)) (ρ : Rho) (k : Rho → Out Rho Flw) : loopK (.exc c fs ρ) k = .exc c fs ρ := rfl
@[simp] theorem loopK_bad (k : Rho → Out Rho Flw) : loopK .bad k = .bad := rfl
@[simp] theorem loopK_ite (c : Prop) [Decidable c] (a b : Out Rho Flw) (k : Rho → Out Rho Flw) : loopK (if c then a else b) k = if c then loopK a k else loopK b k := by split <;> rfl
@[simp] theorem forT_nil (g : D → Rho → Option Rho) (b : Rho → Out Rho Flw) (ρ : Rho) : forT g b [] ρ = .ok .nx ρ := rfl
theorem forT_cons (g : D → Rho → Option Rho) (b : Rho → Out Rho Flw) (d : D) (ds : List D) (ρ : Rho) : forT g b (d :: ds) ρ = rK (g d ρ) fun ρ1 => loopK (b ρ1) (forT g b ds) := by
  unfold forT
  cases g d ρ <;> rfl
@[simp] theorem okCmp_int (i j : Int) : okCmp (.int i) (.int j) = true := by simp [okCmp, PyData.canLay0, PyData.depth]
@[simp] theorem okCmp_str (i j : Str) (h : PyData.strOk i = true) (h' : PyData.strOk j = true) : okCmp (.str i) (.str j) = true := by simp [okCmp, PyData.canLay0, PyData.depth, h, h']
@[simp] theorem okCmp_non (d : D) (h : d.canLay0 = true) : okCmp d .none = true := by simp [okCmp, PyData.canLay0, PyData.depth, h]
@[simp] theorem okCmp_bool (i j : Bool) : okCmp (.bool i) (.bool j) = true := by simp [okCmp, PyData.canLay0, PyData.depth]
theorem eqD_str (x y : Str) (hx : PyData.strOk x = true) (hy : PyData.strOk y = true) : eqD (.str x) (.str y) = some (.bool (decide (x = y))) := by
  unfold eqD
  rw [okCmp_str x y hx hy, if_pos rfl]
  show some (PyData.bool (x == y)) = _
  rfl
theorem eqD_strT (x y : Str) (hx : PyData.strOk x = true) (hy : PyData.strOk y = true) (h : x = y) : eqD (.str x) (.str y) = some (.bool true) := by rw [eqD_str x y hx hy, decide_eq_true h]
theorem eqD_strF (x y : Str) (hx : PyData.strOk x = true) (hy : PyData.strOk y = true) (h : x ≠ y) : eqD (.str x) (.str y) = some (.bool false) := by rw [eqD_str x y hx hy, decide_eq_false h]
theorem neD_str (x y : Str) (hx : PyData.strOk x = true) (hy : PyData.strOk y = true) : neD (.str x) (.str y) = some (.bool (!decide (x = y))) := by
  unfold neD
  rw [okCmp_str x y hx hy, if_pos rfl]
  rfl
@[simp] theorem eqD_int (i j : Int) : eqD (.int i) (.int j) = some (.bool (decide (i = j))) := by
  unfold eqD
  rw [okCmp_int, if_pos rfl]
  rfl
@[simp] theorem neD_int (i j : Int) : neD (.int i) (.int j) = some (.bool (!decide (i = j))) := by
  unfold neD
  rw [okCmp_int, if_pos rfl]
  rfl
@[simp] theorem eqD_bool (i j : Bool) : eqD (.bool i) (.bool j) = some (.bool (i == j)) := by
  unfold eqD
  rw [okCmp_bool, if_pos rfl]
  rfl
@[simp] theorem neD_bool (i j : Bool) : neD (.bool i) (.bool j) = some (.bool (!(i == j))) := by
  unfold neD
  rw [okCmp_bool, if_pos rfl]
  rfl
@[simp] theorem ltD_int (i j : Int) : ltD (.int i) (.int j) = some (.bool (decide (i < j))) := rfl
@[simp] theorem leD_int (i j : Int) : leD (.int i) (.int j) = some (.bool (decide (i ≤ j))) := rfl
@[simp] theorem gtD_int (i j : Int) : gtD (.int i) (.int j) = some (.bool (decide (j < i))) := rfl
@[simp] theorem geD_int (i j : Int) : geD (.int i) (.int j) = some (.bool (decide (j ≤ i))) := rfl
@[simp] theorem addD_int (i j : Int) : addD (.int i) (.int j) = some (.int (i + j)) := rfl
@[simp] theorem subD_int (i j : Int) : subD (.int i) (.int j) = some (.int (i - j)) := rfl
theorem modD_int (i j : Int) (h : 0 < j) : modD (.int i) (.int j) = some (.int (i % j)) := by
  unfold modD intD
  simp [h]
theorem mulD_int (i j : Int) (h : mulOk i j = true) : mulD (.int i) (.int j) = some (.int (i * j)) := by
  unfold mulD intD
  simp [h]
theorem fdivD_int (i j : Int) (h : divOk i j = true) : fdivD (.int i) (.int j) = some (.int (i / j)) := by
  unfold fdivD intD
  simp [h]
theorem powD_int (i j : Int) (h : powOk i j = true) : powD (.int i) (.int j) = some (.int (i ^ j.toNat)) := by
  unfold powD intD
  simp [h]
@[simp] theorem idxD_tuple (ds : List D) (i : Int) : idxD (.tuple ds) (.int i) = atI ds i := rfl
@[simp] theorem idxD_list (ds : List D) (i : Int) : idxD (.list ds) (.int i) = atI ds i := rfl
@[simp] theorem atI_zero {α : Type} (x : α) (l : List α) : atI (x :: l) 0 = some x := by
  unfold atI ixN
  simp
theorem atI_nat {α : Type} (l : List α) (n : Nat) : atI l (n : Int) = l[n]? := by
  unfold atI ixN
  rw [if_pos (Int.natCast_nonneg n)]
  by_cases h : n < l.length
  · rw [if_pos (by exact_mod_cast h)]
    simp
  · rw [if_neg (by exact_mod_cast h)]
    simp only [Option.bind_none]
    exact (List.getElem?_eq_none (Nat.le_of_not_lt h)).symm
@[simp] theorem atI_2 {α : Type} (l : List α) : atI l 2 = l[2]? := atI_nat l 2
@[simp] theorem atI_3 {α : Type} (l : List α) : atI l 3 = l[3]? := atI_nat l 3
@[simp] theorem atI_4 {α : Type} (l : List α) : atI l 4 = l[4]? := atI_nat l 4
@[simp] theorem atI_5 {α : Type} (l : List α) : atI l 5 = l[5]? := atI_nat l 5
@[simp] theorem atI_6 {α : Type} (l : List α) : atI l 6 = l[6]? := atI_nat l 6
@[simp] theorem atI_7 {α : Type} (l : List α) : atI l 7 = l[7]? := atI_nat l 7
@[simp] theorem atI_8 {α : Type} (l : List α) : atI l 8 = l[8]? := atI_nat l 8
@[simp] theorem atI_one {α : Type} (l : List α) : atI l 1 = l[1]? := atI_nat l 1
@[simp] theorem isD_non (d : D) : isD d .none = some (.bool (isNoneD d)) := by unfold isD isB2; cases d <;> rfl
@[simp] theorem isNotD_non (d : D) : isNotD d .none = some (.bool (!isNoneD d)) := by unfold isNotD isB2; cases d <;> rfl
@[simp] theorem isNoneD_none : isNoneD .none = true := rfl
@[simp] theorem isNoneD_int (i : Int) : isNoneD (.int i) = false := rfl
@[simp] theorem isNoneD_tuple (l : List D) : isNoneD (.tuple l) = false := rfl
@[simp] theorem isNoneD_list (l : List D) : isNoneD (.list l) = false := rfl
@[simp] theorem isNoneD_str (l : Str) : isNoneD (.str l) = false := rfl
@[simp] theorem isNoneD_bool (l : Bool) : isNoneD (.bool l) = false := rfl
@[simp] theorem isiD_int (b : String) (i : Int) : isiD b (.int i) = some (.bool (subTy "int" b)) := rfl
@[simp] theorem isiD_str (b : String) (i : Str) : isiD b (.str i) = some (.bool (subTy "str" b)) := rfl
@[simp] theorem isiD_tuple (b : String) (i : List D) : isiD b (.tuple i) = some (.bool (subTy "tuple" b)) := rfl
@[simp] theorem isiD_list (b : String) (i : List D) : isiD b (.list i) = some (.bool (subTy "list" b)) := rfl
@[simp] theorem isiD_none (b : String) : isiD b .none = some (.bool (subTy "NoneType" b)) := rfl
@[simp] theorem isiD_bool (b : String) (i : Bool) : isiD b (.bool i) = some (.bool (subTy "bool" b)) := rfl
@[simp] theorem lenD_tuple (l : List D) : lenD [.tuple l] = some (.int l.length) := rfl
@[simp] theorem lenD_list (l : List D) : lenD [.list l] = some (.int l.length) := rfl
@[simp] theorem allD_list (bs : List Bool) : allD [.list (bs.map .bool)] = some (.bool (bs.all id)) := by simp [allD]
@[simp] theorem anyD_list (bs : List Bool) : anyD [.list (bs.map .bool)] = some (.bool (bs.any id)) := by simp [anyD]
@[simp] theorem intC_int (i : Int) : intC [.int i] = some (.int i) := rfl
@[simp] theorem intC_bool (b : Bool) : intC [.bool b] = some (.int (if b then 1 else 0)) := rfl
@[simp] theorem tupC_list (l : List D) : tupC [.list l] = some (.tuple l) := rfl
@[simp] theorem tupC_tuple (l : List D) : tupC [.tuple l] = some (.tuple l) := rfl
@[simp] theorem minD_int (i j : Int) : minD [.int i, .int j] = some (.int (if j < i then j else i)) := rfl
@[simp] theorem maxD_int (i j : Int) : maxD [.int i, .int j] = some (.int (if j > i then j else i)) := rfl
@[simp] theorem absD_int (i : Int) : absD [.int i] = some (.int (if i < 0 then -i else i)) := rfl
@[simp] theorem ite_le_sizeLine (n : Nat) : (n ≤ sizeLine) = (n ≤ 16777216) := by rw [sizeLine_eq]
/-! ### comprehensions and loops -/
theorem wipeR_get_in {ρ : Rho} {i : Nat} : ∀ {vs : List Nat}, i ∈ vs → i < ρ.length → (wipeR ρ vs)[i]? = some none
  | [], h, _ => by cases h
  | v :: vs, h, hl => by
    show ((wipeR ρ vs).set v none)[i]? = _
    by_cases z : v = i
    · subst z; exact List.getElem?_set_self (by rw [wipeR_len]; exact hl)
    · rw [List.getElem?_set_ne z]
      rcases List.mem_cons.mp h with e | h
      · exact absurd e.symm z
      · exact wipeR_get_in h hl
theorem putBack_get_in {ρ0 ρ : Rho} {i : Nat} : ∀ {vs : List Nat}, i ∈ vs → i < ρ.length → (putBack ρ0 ρ vs)[i]? = some ((ρ0[i]?).join)
  | [], h, _ => by cases h
  | v :: vs, h, hl => by
    show ((putBack ρ0 ρ vs).set v ((ρ0[v]?).join))[i]? = _
    by_cases z : v = i
    · subst z; exact List.getElem?_set_self (by rw [putBack_len]; exact hl)
    · rw [List.getElem?_set_ne z]
      rcases List.mem_cons.mp h with e | h
      · exact absurd e.symm z
      · exact putBack_get_in h hl
theorem putBack_eq {ρ0 ρ : Rho} {vs : List Nat} (h : wipeR ρ vs = wipeR ρ0 vs) : putBack ρ0 ρ vs = ρ0 := by
  have hl : ρ.length = ρ0.length := by rw [← wipeR_len ρ vs, h, wipeR_len]
  apply List.ext_getElem?
  intro i
  by_cases hi : i ∈ vs
  · by_cases hli : i < ρ.length
    · rw [putBack_get_in hi hli]
      rw [hl] at hli
      rw [List.getElem?_eq_getElem hli] <;> rfl
    · rw [List.getElem?_eq_none (by rw [putBack_len]; omega), List.getElem?_eq_none (by omega)]
  · rw [putBack_out hi, ← wipeR_get' hi, h, wipeR_get' hi]
theorem lcLoop_pure {α : Type} {vs : List Nat} {g : D → Rho → Option Rho} {tt : Rho → Out Rho Bool} {te : Rho → Out Rho D} {ρ0 : Rho} (f : α → D) (b : α → Bool) (h : α → D) (ρx : α → Rho) : ∀ (xs : List α) (acc : List D) (ρ : Rho), wipeR ρ vs = ρ0 → (∀ x ∈ xs, g (f x) ρ0 = some (ρx x) ∧ wipeR (ρx x) vs = ρ0 ∧ tt (ρx x) = .ok (b x) (ρx x) ∧ (b x = true → te (ρx x) = .ok (h x) (ρx x))) →
    acc.length + xs.length ≤ sizeLine → ∃ ρ', lcLoop vs g tt te (xs.map f) acc ρ = .ok (acc ++ (xs.filter b).map h) ρ' ∧ wipeR ρ' vs = ρ0
  | [], acc, ρ, hw, _, _ => ⟨ρ, by simp [lcLoop], hw⟩
  | x :: xs, acc, ρ, hw, hx, hl => by
    obtain ⟨h1, h2, h3, h4⟩ := hx x (List.mem_cons_self ..)
    have hx' : ∀ y ∈ xs, g (f y) ρ0 = some (ρx y) ∧ wipeR (ρx y) vs = ρ0 ∧ tt (ρx y) = .ok (b y) (ρx y) ∧ (b y = true → te (ρx y) = .ok (h y) (ρx y)) := fun y hy => hx y (List.mem_cons_of_mem _ hy)
    rw [List.length_cons] at hl
    simp only [List.map_cons, lcLoop, hw, h1, h3, bindN_ok]
    cases hb : b x with
    | true =>
      rw [if_pos rfl, h4 hb, bindN_ok, if_pos (by omega)]
      obtain ⟨ρ', e, w⟩ := lcLoop_pure f b h ρx xs (acc ++ [h x]) (ρx x) h2 hx' (by simp only [List.length_append, List.length_singleton]; omega)
      refine ⟨ρ', ?_, w⟩
      rw [e]
      simp [hb]
    | false =>
      rw [if_neg (by decide)]
      obtain ⟨ρ', e, w⟩ := lcLoop_pure f b h ρx xs acc (ρx x) h2 hx' (by omega)
      refine ⟨ρ', ?_, w⟩
      rw [e]
      simp [hb]
/-- a comprehension whose element changes nothing -/
theorem lcT_pure {α : Type} {vs : List Nat} {Ti : Rho → Out Rho (List D)} {g : D → Rho → Option Rho} {tt : Rho → Out Rho Bool} {te : Rho → Out Rho D} {ρ ρ1 : Rho} (xs : List α) (f : α → D) (b : α → Bool) (h : α → D) (ρx : α → Rho) (hi : Ti ρ = .ok (xs.map f) ρ1)
    (hx : ∀ x ∈ xs, g (f x) (wipeR ρ1 vs) = some (ρx x) ∧ wipeR (ρx x) vs = wipeR ρ1 vs ∧ tt (ρx x) = .ok (b x) (ρx x) ∧ (b x = true → te (ρx x) = .ok (h x) (ρx x))) (hl : xs.length ≤ sizeLine) : lcT vs Ti g tt te ρ = .ok (.list ((xs.filter b).map h)) ρ1 := by
  obtain ⟨ρ', e, w⟩ := lcLoop_pure (te := te) f b h ρx xs [] ρ1 rfl hx (by simpa using hl)
  unfold lcT
  rw [hi, bind_ok, e, bindN_ok, putBack_eq w]
  simp
/-- a comprehension whose turns change what they meet -/
theorem lcLoop_inv {α : Type} {vs : List Nat} {g : D → Rho → Option Rho} {tt : Rho → Out Rho Bool} {te : Rho → Out Rho D} (f : α → D) (I : List α → List D → Rho → Prop)
    (step : ∀ x xs acc ρ, I (x :: xs) acc ρ → ∃ ρ1, g (f x) (wipeR ρ vs) = some ρ1 ∧ ∃ c ρ2, tt ρ1 = .ok c ρ2 ∧ (c = true → ∃ y ρ3, te ρ2 = .ok y ρ3 ∧ acc.length < sizeLine ∧ I xs (acc ++ [y]) ρ3) ∧ (c = false → I xs acc ρ2)) :
    ∀ (xs : List α) (acc : List D) (ρ : Rho), I xs acc ρ → ∃ l ρ', lcLoop vs g tt te (xs.map f) acc ρ = .ok l ρ' ∧ I [] l ρ'
  | [], acc, ρ, h => ⟨acc, ρ, rfl, h⟩
  | x :: xs, acc, ρ, h => by
    obtain ⟨ρ1, h1, c, ρ2, h2, h3, h4⟩ := step x xs acc ρ h
    simp only [List.map_cons, lcLoop, h1, h2, bindN_ok]
    cases c with
    | true =>
      obtain ⟨y, ρ3, e, hl, i⟩ := h3 rfl
      rw [if_pos rfl, e, bindN_ok, if_pos hl]
      exact lcLoop_inv f I step xs _ _ i
    | false =>
      rw [if_neg (by decide)]
      exact lcLoop_inv f I step xs _ _ (h4 rfl)
/-- a for loop -/
theorem forT_inv {α : Type} {g : D → Rho → Option Rho} {tb : Rho → Out Rho Flw} (f : α → D) (I : List α → Rho → Prop) (B : Rho → Prop) (R : D → Rho → Prop)
    (step : ∀ x xs ρ, I (x :: xs) ρ → ∃ ρ1, g (f x) ρ = some ρ1 ∧ ((∃ ρ2, (tb ρ1 = .ok .nx ρ2 ∨ tb ρ1 = .ok .ct ρ2) ∧ I xs ρ2) ∨ (∃ ρ2, tb ρ1 = .ok .bk ρ2 ∧ B ρ2) ∨ ∃ d ρ2, tb ρ1 = .ok (.rt d) ρ2 ∧ R d ρ2)) :
    ∀ (xs : List α) (ρ : Rho), I xs ρ → (∃ ρ', forT g tb (xs.map f) ρ = .ok .nx ρ' ∧ (I [] ρ' ∨ B ρ')) ∨ ∃ d ρ', forT g tb (xs.map f) ρ = .ok (.rt d) ρ' ∧ R d ρ'
  | [], ρ, h => .inl ⟨ρ, rfl, .inl h⟩
  | x :: xs, ρ, h => by
    obtain ⟨ρ1, h1, h2⟩ := step x xs ρ h
    rw [List.map_cons, forT_cons, h1, rK_some]
    rcases h2 with ⟨ρ2, h2 | h2, i⟩ | ⟨ρ2, h2, hb⟩ | ⟨d, ρ2, h2, hr⟩
    · rw [h2, loopK_nx]; exact forT_inv f I B R step xs ρ2 i
    · rw [h2, loopK_ct]; exact forT_inv f I B R step xs ρ2 i
    · rw [h2, loopK_bk]; exact .inl ⟨ρ2, rfl, .inr hb⟩
    · rw [h2, loopK_rt]; exact .inr ⟨d, ρ2, rfl, hr⟩
/-- a while loop; m tells how many turns there are yet -/
theorem whT_inv {tc : Rho → Out Rho Bool} {tb : Rho → Out Rho Flw} (I : Nat → Rho → Prop) (Z : Rho → Prop) (R : D → Rho → Prop)
    (step : ∀ m ρ, I m ρ → ∃ c ρ1, tc ρ = .ok c ρ1 ∧ (c = false → Z ρ1) ∧ (c = true → (∃ ρ2 m', (tb ρ1 = .ok .nx ρ2 ∨ tb ρ1 = .ok .ct ρ2) ∧ m' < m ∧ I m' ρ2) ∨ (∃ ρ2, tb ρ1 = .ok .bk ρ2 ∧ Z ρ2) ∨ ∃ d ρ2, tb ρ1 = .ok (.rt d) ρ2 ∧ R d ρ2)) :
    ∀ (n m : Nat) (ρ : Rho), I m ρ → m < n → (∃ ρ', whT tc tb n ρ = .ok .nx ρ' ∧ Z ρ') ∨ ∃ d ρ', whT tc tb n ρ = .ok (.rt d) ρ' ∧ R d ρ'
  | 0, m, ρ, _, h => absurd h (Nat.not_lt_zero _)
  | n + 1, m, ρ, hI, hm => by
    obtain ⟨c, ρ1, h1, h2, h3⟩ := step m ρ hI
    unfold whT
    rw [h1, bind_ok]
    cases c with
    | false => rw [if_neg (by decide)]; exact .inl ⟨ρ1, rfl, h2 rfl⟩
    | true =>
      rw [if_pos rfl]
      rcases h3 rfl with ⟨ρ2, m', h | h, hl, i⟩ | ⟨ρ2, h, z⟩ | ⟨d, ρ2, h, r⟩
      · rw [h, loopK_nx]; exact whT_inv I Z R step n m' ρ2 i (by omega)
      · rw [h, loopK_ct]; exact whT_inv I Z R step n m' ρ2 i (by omega)
      · rw [h, loopK_bk]; exact .inl ⟨ρ2, rfl, z⟩
      · rw [h, loopK_rt]; exact .inr ⟨d, ρ2, rfl, r⟩
end Z

/-! file K80Walk -/
set_option Elab.async false
set_option linter.all false
set_option autoImplicit false
set_option maxRecDepth 100000
set_option maxHeartbeats 0
/-! the walk of bothreaders_k80_whole_contents_and_files: printed by zgen.py -/
namespace K80
open PySem PySem.Spec PyProof.Rows L2 Z
def top (i : Nat) : Stmt := PySem.Challenge.pw_bothreaders_k80_whole_contents_and_files.main.body.getD i (.Pass ⟨0, 0, 0, 0⟩)
/-- what the bodies lean on -/
structure Gk (K : PySem.W.Frag) (mg : Str → Option Value) : Prop where
  f_abs : mg "abs" = none
  f_all : mg "all" = none
  f_any : mg "any" = none
  f_bool : mg "bool" = none
  f_enumerate : mg "enumerate" = none
  f_int : mg "int" = none
  f_isinstance : mg "isinstance" = none
  f_len : mg "len" = none
  f_list : mg "list" = none
  f_max : mg "max" = none
  f_min : mg "min" = none
  f_range : mg "range" = none
  f_str : mg "str" = none
  f_sum : mg "sum" = none
  f_tuple : mg "tuple" = none
  f_zip : mg "zip" = none
  k_CHECK : Kon K mg "CHECK" (.str ("check" : Str))
  k_DONE : Kon K mg "DONE" (.str ("done" : Str))
  k_END : Kon K mg "END" (.str ("end" : Str))
  k_GREATEST_BASE : Kon K mg "GREATEST_BASE" (.int 256)
  k_HIGH : Kon K mg "HIGH" (.str ("high" : Str))
  k_ONE : Kon K mg "ONE" (.str ("one" : Str))
  k_OPEN : Kon K mg "OPEN" (.str ("open" : Str))
  k_OTHERS : Kon K mg "OTHERS" (.tuple [.str ("skip" : Str), .str ("refuse" : Str)])
  k_OVER : Kon K mg "OVER" (.tuple [.str ("over" : Str)])
  k_ROOM : Kon K mg "ROOM" (.tuple [.str ("room" : Str)])
  k_SHORT : Kon K mg "SHORT" (.str ("short" : Str))
  k_SKIP : Kon K mg "SKIP" (.str ("skip" : Str))
  k_STOP : Kon K mg "STOP" (.str ("stop" : Str))
  k_TAG : Kon K mg "TAG" (.tuple [.str ("tag" : Str)])
  k_TOLD : Kon K mg "TOLD" (.tuple [.str ("keep" : Str), .str ("check" : Str)])
  k_USES : Kon K mg "USES" (.tuple [.str ("keep" : Str), .str ("check" : Str), .str ("skip" : Str), .str ("end" : Str), .str ("stop" : Str)])
  k_WIDTHS : Kon K mg "WIDTHS" (.tuple [.str ("one" : Str), .str ("high" : Str), .str ("low" : Str)])
  c_Reader : Cls K (He.ga K "Reader")
  a_Reader : mg "Reader" = some (.ref (He.ga K "Reader"))
  m_Reader : Mk K (He.ga K "Reader") (He.ma K (He.ga K "Reader") "__init__")
  o_Reader : StX.CallO K (He.ga K "Reader") (He.ma K (He.ga K "Reader") "__call__")
  n_Reader_own_form : NoAttr K (He.ga K "Reader") "own_form"
  n_Reader_taken : NoAttr K (He.ga K "Reader") "taken"
  p_Reader_stand : PropOf K (He.ga K "Reader") "stand" (He.ma K (He.ga K "Reader") "stand") (prG K (He.ga K "Reader") "stand")
  p_Reader_told : PropOf K (He.ga K "Reader") "told" (He.ma K (He.ga K "Reader") "told") (prG K (He.ga K "Reader") "told")
/-! ### _law_bag -/
def N__law_bag : List Str := ["script", "at", "cell"]
theorem sc__law_bag : FnScope N__law_bag ["script", "at"] (defScope (top 75)) := ⟨rfl, rfl, rfl, by decide +kernel, rfl, by decide +kernel, by decide +kernel⟩
def T__law_bag : Rho → Out Rho Flw := sqT (asgT 2 (ifT (isB (binT ltD (varT 1) (callB lenD (consT (varT 0) (nilT))))) (binT idxD (varT 0) (varT 1)) (cT (.int 0)))) (retT (lstT (consT (callB maxD (consT (cT (.int 0)) (consT (binT subD (callB absD (consT (varT 2) (nilT))) (binT powD (cT (.int 10)) (cT (.int 18)))) (nilT)))) (consT (binT addD (binT addD (binT mulD (binT modD (callB intC (consT (varT 2) (nilT))) (binT addD (binT powD (cT (.int 10)) (cT (.int 37))) (cT (.int 163)))) (cT (.int 89))) (binT mulD (cT (.int 71)) (varT 1))) (cT (.int 53))) (consT (cT (.int 0)) (nilT))))))
def S__law_bag : List D → Out (List D) D := runF [] 3 T__law_bag
theorem z__law_bag {P : Program} {w : World} {K : PySem.W.Frag} {mg : Str → Option Value} {base : Heap} (g : Gk K mg) (hF : ∃ fd, Fun K "_law_bag" "_law_bag" (top 75) (He.ga K "_law_bag") fd) (hm : mg "_law_bag" = some (.ref (He.ga K "_law_bag"))) : FnZ P w K mg base "_law_bag" 1 [none, none] (some .lst) S__law_bag := by
  obtain ⟨fd, F⟩ := hF
  refine FnZ.of F hm (ps := ["script", "at"]) (fun _ _ _ _ _ _ us hl => match us, hl with | [_, _], _ => rfl) ?_
  exact fnZ0 (k := 0) (rk := (some .lst)) (N := N__law_bag) (ps := ["script", "at"]) (O' := [none, none, none]) (T := T__law_bag) 2 F sc__law_bag rfl (fun cdv A outer s H E b => by
    have nd := sc__law_bag.nd
    exact bx_cons (O1 := [none, none, none]) (sx_set 2 nd (ex_if (tx_cmp (op_ltZ b.hu) (sem_rD ordD_flat) (ex_var 1) (ex_callB call_lenZ (sem_rDN lenD_flat) g.f_len rfl (ax_cons (ex_var 0) (ax_nil))) (nomark _)) (ex_ix (ex_var 0) (ex_var 1)) (ex_int)) (exOf_no (exOf_no (exOf_nil))))
      (bx_one (sx_retF (fx_lst (ax_cons (ex_callB (call_maxZ b.calm) (sem_rDN maxD_flat) g.f_max rfl (ax_cons (ex_int) (ax_cons (ex_op op_subZ (sem_rD intD_flat) (ex_callB call_absZ (sem_rDN absD_flat) g.f_abs rfl (ax_cons (ex_var 2) (ax_nil))) (ex_op op_powZ (sem_rD intD_flat) (ex_int) (ex_int))) (ax_nil)))) (ax_cons (ex_op op_addZ (sem_add) (ex_op op_addZ (sem_add) (ex_op op_mulZ (sem_rD intD_flat) (ex_op op_modZ (sem_rD intD_flat) (ex_callTy call_intZ (sem_rDN intC_flat) g.f_int rfl (ax_cons (ex_var 2) (ax_nil))) (ex_op op_addZ (sem_add) (ex_op op_powZ (sem_rD intD_flat) (ex_int) (ex_int)) (ex_int))) (ex_int)) (ex_op op_mulZ (sem_rD intD_flat) (ex_int) (ex_var 1))) (ex_int)) (ax_cons (ex_int) (ax_nil))))) (exOf_no (exOf_no (exOf_nil)))))) (.inr (noNx_sq (noNx_ret)))
/-! ### _law_grab -/
def N__law_grab : List Str := ["bag", "below", "digit", "mix"]
theorem sc__law_grab : FnScope N__law_grab ["bag", "below"] (defScope (top 76)) := ⟨rfl, rfl, rfl, by decide +kernel, rfl, by decide +kernel, by decide +kernel⟩
def T__law_grab : Rho → Out Rho Flw := sqT (ifT (isB (binT gtD (binO 0 idxD (cT (.int 0))) (cT (.int 0)))) (sqT (asgT 2 (binT modD (callB intC (consT (binO 0 idxD (cT (.int 0))) (nilT))) (varT 1))) (sqT (stT 0 (cT (.int 0)) (binT fdivD (binO 0 idxD (cT (.int 0))) (varT 1))) (retT (varT 2)))) (nxT)) (sqT (stT 0 (cT (.int 2)) (binT addD (binO 0 idxD (cT (.int 2))) (cT (.int 1)))) (sqT (asgT 3 (binT modD (binT powD (callB intC (consT (binT addD (binO 0 idxD (cT (.int 1))) (binT mulD (cT (.int 90019)) (binO 0 idxD (cT (.int 2))))) (nilT))) (cT (.int 2))) (binT addD (binT powD (cT (.int 10)) (cT (.int 38))) (cT (.int 271))))) (sqT (asgT 3 (binT modD (binT powD (callB intC (consT (binT addD (varT 3) (binT mulD (cT (.int 1900037)) (binO 0 idxD (cT (.int 2))))) (nilT))) (cT (.int 3))) (binT addD (binT powD (cT (.int 10)) (cT (.int 39))) (cT (.int 331))))) (retT (binT modD (binT fdivD (varT 3) (cT (.int 8192))) (varT 1))))))
def S__law_grab : List D → Out (List D) D := runF [0] 4 T__law_grab
theorem z__law_grab {P : Program} {w : World} {K : PySem.W.Frag} {mg : Str → Option Value} {base : Heap} (g : Gk K mg) (hF : ∃ fd, Fun K "_law_grab" "_law_grab" (top 76) (He.ga K "_law_grab") fd) (hm : mg "_law_grab" = some (.ref (He.ga K "_law_grab"))) : FnZ P w K mg base "_law_grab" 1 [some .lst, none] none S__law_grab := by
  obtain ⟨fd, F⟩ := hF
  refine FnZ.of F hm (ps := ["bag", "below"]) (fun _ _ _ _ _ _ us hl => match us, hl with | [_, _], _ => rfl) ?_
  exact fnZ1 (k := 0) (rk := none) (N := N__law_grab) (ps := ["bag", "below"]) (O' := [some .lst, none, none, none]) (T := T__law_grab) .lst 1 F sc__law_grab rfl (fun cdv A outer s H E a b => by
    have nd := sc__law_grab.nd
    exact bx_cons (O1 := [some .lst, none, none, none]) (sx_if (O' := [some .lst, none, none, none]) (tx_cmp (op_gtZ b.hu) (sem_rD ordD_flat) (ex_ixO 0 (ex_int)) (ex_int) (nomark _)) (bx_cons (O1 := [some .lst, none, none, none]) (sx_set 2 nd (ex_op op_modZ (sem_rD intD_flat) (ex_callTy call_intZ (sem_rDN intC_flat) g.f_int rfl (ax_cons (ex_ixO 0 (ex_int)) (ax_nil))) (ex_var 1)) (exOf_yes (exOf_no (exOf_nil))))
      (bx_cons (O1 := [some .lst, none, none, none]) (sx_store 0 (ex_int) (ex_op op_fdivZ (sem_rD intD_flat) (ex_ixO 0 (ex_int)) (ex_var 1)) (exOf_yes (exOf_no (exOf_nil))))
      (bx_one (sx_ret (ex_var 2) (exOf_yes (exOf_no (exOf_nil))))))) (bx_nil) (exOf_yes (exOf_no (exOf_nil))))
      (bx_cons (O1 := [some .lst, none, none, none]) (sx_store 0 (ex_int) (ex_op op_addZ (sem_add) (ex_ixO 0 (ex_int)) (ex_int)) (exOf_yes (exOf_no (exOf_nil))))
      (bx_cons (O1 := [some .lst, none, none, none]) (sx_set 3 nd (ex_op op_modZ (sem_rD intD_flat) (ex_op op_powZ (sem_rD intD_flat) (ex_callTy call_intZ (sem_rDN intC_flat) g.f_int rfl (ax_cons (ex_op op_addZ (sem_add) (ex_ixO 0 (ex_int)) (ex_op op_mulZ (sem_rD intD_flat) (ex_int) (ex_ixO 0 (ex_int)))) (ax_nil))) (ex_int)) (ex_op op_addZ (sem_add) (ex_op op_powZ (sem_rD intD_flat) (ex_int) (ex_int)) (ex_int))) (exOf_yes (exOf_no (exOf_nil))))
      (bx_cons (O1 := [some .lst, none, none, none]) (sx_set 3 nd (ex_op op_modZ (sem_rD intD_flat) (ex_op op_powZ (sem_rD intD_flat) (ex_callTy call_intZ (sem_rDN intC_flat) g.f_int rfl (ax_cons (ex_op op_addZ (sem_add) (ex_var 3) (ex_op op_mulZ (sem_rD intD_flat) (ex_int) (ex_ixO 0 (ex_int)))) (ax_nil))) (ex_int)) (ex_op op_addZ (sem_add) (ex_op op_powZ (sem_rD intD_flat) (ex_int) (ex_int)) (ex_int))) (exOf_yes (exOf_no (exOf_nil))))
      (bx_one (sx_ret (ex_op op_modZ (sem_rD intD_flat) (ex_op op_fdivZ (sem_rD intD_flat) (ex_var 3) (ex_int)) (ex_var 1)) (exOf_yes (exOf_no (exOf_nil))))))))) (.inl rfl) (exOf_yes (exOf_no (exOf_nil)))
/-! ### _law_drawn_tags -/
def N__law_drawn_tags : List Str := ["bag", "base", "many_here", "kinds_here", "found", "sign"]
theorem sc__law_drawn_tags : FnScope N__law_drawn_tags ["bag", "base", "many_here"] (defScope (top 78)) := ⟨rfl, rfl, rfl, by decide +kernel, rfl, by decide +kernel, by decide +kernel⟩
def T__law_drawn_tags : Rho → Out Rho Flw := sqT (par2T 3 4 (consT (lstT (consT (cT (.str ("keep" : Str))) (consT (cT (.str ("check" : Str))) (consT (cT (.str ("skip" : Str))) (consT (cT (.str ("end" : Str))) (consT (cT (.str ("stop" : Str))) (consT (cT (.str ("keep" : Str))) (consT (cT (.str ("skip" : Str))) (nilT))))))))) (consT (lstT (nilT)) (nilT)))) (sqT (forS (rngT rng1D (consT (varT 1) (nilT))) (setG 5) (ifT (andT (isB (binT ltD (callO 4 lenD) (varT 2))) (isB (binT ltD (callT [some 0, none] S__law_grab (ownT 0 (consT (varT 1) (nilT)))) (varT 2)))) (appT 4 (tupT (consT (varT 5) (consT (binT idxD (varT 3) (callT [some 0, none] S__law_grab (ownT 0 (consT (cT (.int 7)) (nilT))))) (nilT))))) (nxT))) (retT (callO 4 tupC)))
def S__law_drawn_tags : List D → Out (List D) D := runF [0] 6 T__law_drawn_tags
theorem z__law_drawn_tags {P : Program} {w : World} {K : PySem.W.Frag} {mg : Str → Option Value} {base : Heap} (g : Gk K mg) (z__law_grab : FnZ P w K mg base "_law_grab" 1 [some .lst, none] none S__law_grab) (hF : ∃ fd, Fun K "_law_drawn_tags" "_law_drawn_tags" (top 78) (He.ga K "_law_drawn_tags") fd) (hm : mg "_law_drawn_tags" = some (.ref (He.ga K "_law_drawn_tags"))) : FnZ P w K mg base "_law_drawn_tags" 2 [some .lst, none, none] none S__law_drawn_tags := by
  obtain ⟨fd, F⟩ := hF
  refine FnZ.of F hm (ps := ["bag", "base", "many_here"]) (fun _ _ _ _ _ _ us hl => match us, hl with | [_, _, _], _ => rfl) ?_
  exact fnZ1 (k := 1) (rk := none) (N := N__law_drawn_tags) (ps := ["bag", "base", "many_here"]) (O' := [some .lst, none, none, none, some .lst, none]) (T := T__law_drawn_tags) .lst 2 F sc__law_drawn_tags rfl (fun cdv A outer s H E a b => by
    have nd := sc__law_drawn_tags.nd
    exact bx_cons (O1 := [some .lst, none, none, none, some .lst, none]) (sx_par2 3 4 (k := none) (l := (some .lst)) b.calm nd (af_cons (ex_of_fx (fx_lst (ax_cons (ex_str) (ax_cons (ex_str) (ax_cons (ex_str) (ax_cons (ex_str) (ax_cons (ex_str) (ax_cons (ex_str) (ax_cons (ex_str) (ax_nil)))))))))) (af_new (fx_lst (ax_nil)) (af_nil))) (exOf_yes (exOf_no (exOf_no (exOf_nil)))) (by rfl))
      (bx_cons (O1 := [some .lst, none, none, none, some .lst, none]) (sx_for b.own b.calm (ix_rng1 g.f_range (ax_cons (ex_var 1) (ax_nil))) (gx_name 5 nd) (bx_one (sx_if (O' := [some .lst, none, none, none, some .lst, none]) (tx_pw (wx_and (tx_cmp (op_ltZ b.hu) (sem_rD ordD_flat) (ex_callO 4 call_lenZ (own_rDN lenD_flat) g.f_len rfl (ax_own1 4)) (ex_var 2) (nomark _)) (wx_and1 (tx_cmp (op_ltZ b.hu) (sem_rD ordD_flat) (ex_fn z__law_grab (b.room.mono (by decide)) b.tk (aj_own 0 (aj_cons (ex_var 1) (aj_nil)))) (ex_var 2) (nomark _))))) (bx_one (sx_append 4 (ex_tup (ax_cons (ex_var 5) (ax_cons (ex_ix (ex_var 3) (ex_fn z__law_grab (b.room.mono (by decide)) b.tk (aj_own 0 (aj_cons (ex_int) (aj_nil))))) (ax_nil)))) (exOf_yes (exOf_no (exOf_no (exOf_nil)))))) (bx_nil) (exOf_yes (exOf_no (exOf_no (exOf_nil)))))) (exOf_yes (exOf_no (exOf_no (exOf_nil)))))
      (bx_one (sx_ret (ex_callTyO 4 call_tuple_of own_tupC g.f_tuple rfl (ax_own1 4)) (exOf_yes (exOf_no (exOf_no (exOf_nil)))))))) (.inl rfl) (exOf_yes (exOf_no (exOf_no (exOf_nil))))
/-! ### _law_drawn_form -/
def N__law_drawn_form : List Str := ["bag", "base", "marks_here", "most_here", "many_here", "many_marks", "head_here", "wide", "top", "rows", "k"]
theorem sc__law_drawn_form : FnScope N__law_drawn_form ["bag", "base", "marks_here", "most_here", "many_here"] (defScope (top 79)) := ⟨rfl, rfl, rfl, by decide +kernel, rfl, by decide +kernel, by decide +kernel⟩
def T__law_drawn_form : Rho → Out Rho Flw := sqT (asgT 5 (callT [some 0, none] S__law_grab (ownT 0 (consT (binT addD (varT 2) (cT (.int 1))) (nilT))))) (sqT (asgT 6 (lcT [10] (rngT rng1D (consT (varT 5) (nilT))) (setG 10) (yesT) (ifT (isB (binT eqD (callT [some 0, none] S__law_grab (ownT 0 (consT (cT (.int 3)) (nilT)))) (cT (.int 0)))) (cT .none) (callT [some 0, none] S__law_grab (ownT 0 (consT (varT 1) (nilT))))))) (sqT (asgT 7 (binT idxD (lstT (consT (cT (.str ("one" : Str))) (consT (cT (.str ("one" : Str))) (consT (cT (.str ("high" : Str))) (consT (cT (.str ("low" : Str))) (nilT)))))) (callT [some 0, none] S__law_grab (ownT 0 (consT (cT (.int 4)) (nilT)))))) (sqT (asgT 8 (callT [some 0, none] S__law_grab (ownT 0 (consT (binT addD (varT 3) (cT (.int 1))) (nilT))))) (sqT (asgT 9 (callT [some 0, none, none] S__law_drawn_tags (ownT 0 (consT (varT 1) (consT (callT [some 0, none] S__law_grab (ownT 0 (consT (binT addD (varT 4) (cT (.int 1))) (nilT)))) (nilT)))))) (retT (tupT (consT (varT 1) (consT (callO 6 tupC) (consT (varT 7) (consT (varT 8) (consT (varT 9) (consT (binT idxD (lstT (consT (cT (.str ("skip" : Str))) (consT (cT (.str ("refuse" : Str))) (nilT)))) (callT [some 0, none] S__law_grab (ownT 0 (consT (cT (.int 2)) (nilT))))) (nilT)))))))))))))
def S__law_drawn_form : List D → Out (List D) D := runF [0] 11 T__law_drawn_form
theorem z__law_drawn_form {P : Program} {w : World} {K : PySem.W.Frag} {mg : Str → Option Value} {base : Heap} (g : Gk K mg) (z__law_drawn_tags : FnZ P w K mg base "_law_drawn_tags" 2 [some .lst, none, none] none S__law_drawn_tags) (z__law_grab : FnZ P w K mg base "_law_grab" 1 [some .lst, none] none S__law_grab) (hF : ∃ fd, Fun K "_law_drawn_form" "_law_drawn_form" (top 79) (He.ga K "_law_drawn_form") fd) (hm : mg "_law_drawn_form" = some (.ref (He.ga K "_law_drawn_form"))) : FnZ P w K mg base "_law_drawn_form" 3 [some .lst, none, none, none, none] none S__law_drawn_form := by
  obtain ⟨fd, F⟩ := hF
  refine FnZ.of F hm (ps := ["bag", "base", "marks_here", "most_here", "many_here"]) (fun _ _ _ _ _ _ us hl => match us, hl with | [_, _, _, _, _], _ => rfl) ?_
  exact fnZ1 (k := 2) (rk := none) (N := N__law_drawn_form) (ps := ["bag", "base", "marks_here", "most_here", "many_here"]) (O' := [some .lst, none, none, none, none, none, some .lst, none, none, none, none]) (T := T__law_drawn_form) .lst 4 F sc__law_drawn_form rfl (fun cdv A outer s H E a b => by
    have nd := sc__law_drawn_form.nd
    exact bx_cons (O1 := [some .lst, none, none, none, none, none, none, none, none, none, none]) (sx_set 5 nd (ex_fn z__law_grab (b.room.mono (by decide)) b.tk (aj_own 0 (aj_cons (ex_op op_addZ (sem_add) (ex_var 2) (ex_int)) (aj_nil)))) (exOf_yes (exOf_no (exOf_no (exOf_no (exOf_no (exOf_nil)))))))
      (bx_cons (O1 := [some .lst, none, none, none, none, none, some .lst, none, none, none, none]) (sx_lc 6 (own := [("k", 10)]) b.calm nd (exOf_yes (exOf_no (exOf_no (exOf_no (exOf_no (exOf_nil)))))) (ix_rng1 g.f_range (ax_cons (ex_var 5) (ax_nil))) (blkOk_of (by kernel_rfl)) (none_cons rfl (fun _ h => nomatch h)) (fun _ _ _ _ _ => gx_name 10 nd) (fun _ _ _ _ _ => txs_nil) (fun _ _ _ _ _ => ex_if (tx_cmp (op_eqZ (by exact b.hu)) (sem_rD eqD_flat) (ex_fn z__law_grab (by exact b.room.mono (by decide)) takes0 (aj_own 0 (aj_cons (ex_int) (aj_nil)))) (ex_int) (nomark _)) (ex_non) (ex_fn z__law_grab (by exact b.room.mono (by decide)) takes0 (aj_own 0 (aj_cons (ex_var 1) (aj_nil))))))
      (bx_cons (O1 := [some .lst, none, none, none, none, none, some .lst, none, none, none, none]) (sx_set 7 nd (ex_ix (ex_of_fx (fx_lst (ax_cons (ex_str) (ax_cons (ex_str) (ax_cons (ex_str) (ax_cons (ex_str) (ax_nil))))))) (ex_fn z__law_grab (b.room.mono (by decide)) b.tk (aj_own 0 (aj_cons (ex_int) (aj_nil))))) (exOf_yes (exOf_no (exOf_no (exOf_no (exOf_no (exOf_nil)))))))
      (bx_cons (O1 := [some .lst, none, none, none, none, none, some .lst, none, none, none, none]) (sx_set 8 nd (ex_fn z__law_grab (b.room.mono (by decide)) b.tk (aj_own 0 (aj_cons (ex_op op_addZ (sem_add) (ex_var 3) (ex_int)) (aj_nil)))) (exOf_yes (exOf_no (exOf_no (exOf_no (exOf_no (exOf_nil)))))))
      (bx_cons (O1 := [some .lst, none, none, none, none, none, some .lst, none, none, none, none]) (sx_set 9 nd (ex_fn z__law_drawn_tags (b.room.mono (by decide)) b.tk (aj_own 0 (aj_cons (ex_var 1) (aj_cons (ex_fn z__law_grab (b.room.mono (by decide)) b.tk (aj_own 0 (aj_cons (ex_op op_addZ (sem_add) (ex_var 4) (ex_int)) (aj_nil)))) (aj_nil))))) (exOf_yes (exOf_no (exOf_no (exOf_no (exOf_no (exOf_nil)))))))
      (bx_one (sx_ret (ex_tup (ax_cons (ex_var 1) (ax_cons (ex_callTyO 6 call_tuple_of own_tupC g.f_tuple rfl (ax_own1 6)) (ax_cons (ex_var 7) (ax_cons (ex_var 8) (ax_cons (ex_var 9) (ax_cons (ex_ix (ex_of_fx (fx_lst (ax_cons (ex_str) (ax_cons (ex_str) (ax_nil))))) (ex_fn z__law_grab (b.room.mono (by decide)) b.tk (aj_own 0 (aj_cons (ex_int) (aj_nil))))) (ax_nil)))))))) (exOf_yes (exOf_no (exOf_no (exOf_no (exOf_no (exOf_nil))))))))))))) (.inl rfl) (exOf_yes (exOf_no (exOf_no (exOf_no (exOf_no (exOf_nil))))))
/-! ### _law_wide_form -/
def N__law_wide_form : List Str := ["bag", "base", "top"]
theorem sc__law_wide_form : FnScope N__law_wide_form ["bag"] (defScope (top 85)) := ⟨rfl, rfl, rfl, by decide +kernel, rfl, by decide +kernel, by decide +kernel⟩
def T__law_wide_form : Rho → Out Rho Flw := sqT (asgT 1 (binT idxD (lstT (consT (cT (.int 2)) (consT (cT (.int 3)) (consT (cT (.int 4)) (consT (cT (.int 5)) (consT (cT (.int 16)) (consT (cT (.int 256)) (consT (binT addD (cT (.int 2)) (callT [some 0, none] S__law_grab (ownT 0 (consT (cT (.int 255)) (nilT))))) (nilT))))))))) (callT [some 0, none] S__law_grab (ownT 0 (consT (cT (.int 7)) (nilT)))))) (sqT (asgT 2 (binT idxD (lstT (consT (cT (.int 3)) (consT (cT (.int 9)) (consT (cT (.int 40)) (consT (cT (.int 65535)) (nilT)))))) (callT [some 0, none] S__law_grab (ownT 0 (consT (cT (.int 4)) (nilT)))))) (retT (callT [some 0, none, none, none, none] S__law_drawn_form (ownT 0 (consT (varT 1) (consT (binT idxD (lstT (consT (cT (.int 4)) (consT (cT (.int 20)) (nilT)))) (callT [some 0, none] S__law_grab (ownT 0 (consT (cT (.int 2)) (nilT))))) (consT (varT 2) (consT (binT idxD (lstT (consT (cT (.int 4)) (consT (cT (.int 20)) (nilT)))) (callT [some 0, none] S__law_grab (ownT 0 (consT (cT (.int 2)) (nilT))))) (nilT)))))))))
def S__law_wide_form : List D → Out (List D) D := runF [0] 3 T__law_wide_form
theorem z__law_wide_form {P : Program} {w : World} {K : PySem.W.Frag} {mg : Str → Option Value} {base : Heap} (g : Gk K mg) (z__law_drawn_form : FnZ P w K mg base "_law_drawn_form" 3 [some .lst, none, none, none, none] none S__law_drawn_form) (z__law_grab : FnZ P w K mg base "_law_grab" 1 [some .lst, none] none S__law_grab) (hF : ∃ fd, Fun K "_law_wide_form" "_law_wide_form" (top 85) (He.ga K "_law_wide_form") fd) (hm : mg "_law_wide_form" = some (.ref (He.ga K "_law_wide_form"))) : FnZ P w K mg base "_law_wide_form" 4 [some .lst] none S__law_wide_form := by
  obtain ⟨fd, F⟩ := hF
  refine FnZ.of F hm (ps := ["bag"]) (fun _ _ _ _ _ _ us hl => match us, hl with | [_], _ => rfl) ?_
  exact fnZ1 (k := 3) (rk := none) (N := N__law_wide_form) (ps := ["bag"]) (O' := [some .lst, none, none]) (T := T__law_wide_form) .lst 0 F sc__law_wide_form rfl (fun cdv A outer s H E a b => by
    have nd := sc__law_wide_form.nd
    exact bx_cons (O1 := [some .lst, none, none]) (sx_set 1 nd (ex_ix (ex_of_fx (fx_lst (ax_cons (ex_int) (ax_cons (ex_int) (ax_cons (ex_int) (ax_cons (ex_int) (ax_cons (ex_int) (ax_cons (ex_int) (ax_cons (ex_op op_addZ (sem_add) (ex_int) (ex_fn z__law_grab (b.room.mono (by decide)) b.tk (aj_own 0 (aj_cons (ex_int) (aj_nil))))) (ax_nil)))))))))) (ex_fn z__law_grab (b.room.mono (by decide)) b.tk (aj_own 0 (aj_cons (ex_int) (aj_nil))))) (exOf_yes (exOf_nil)))
      (bx_cons (O1 := [some .lst, none, none]) (sx_set 2 nd (ex_ix (ex_of_fx (fx_lst (ax_cons (ex_int) (ax_cons (ex_int) (ax_cons (ex_int) (ax_cons (ex_int) (ax_nil))))))) (ex_fn z__law_grab (b.room.mono (by decide)) b.tk (aj_own 0 (aj_cons (ex_int) (aj_nil))))) (exOf_yes (exOf_nil)))
      (bx_one (sx_ret (ex_fn z__law_drawn_form (b.room.mono (by decide)) b.tk (aj_own 0 (aj_cons (ex_var 1) (aj_cons (ex_ix (ex_of_fx (fx_lst (ax_cons (ex_int) (ax_cons (ex_int) (ax_nil))))) (ex_fn z__law_grab (b.room.mono (by decide)) b.tk (aj_own 0 (aj_cons (ex_int) (aj_nil))))) (aj_cons (ex_var 2) (aj_cons (ex_ix (ex_of_fx (fx_lst (ax_cons (ex_int) (ax_cons (ex_int) (ax_nil))))) (ex_fn z__law_grab (b.room.mono (by decide)) b.tk (aj_own 0 (aj_cons (ex_int) (aj_nil))))) (aj_nil))))))) (exOf_yes (exOf_nil)))))) (.inl rfl) (exOf_yes (exOf_nil))
/-! ### _law_longest -/
def N__law_longest : List Str := ["form_here", "base"]
theorem sc__law_longest : FnScope N__law_longest ["form_here"] (defScope (top 88)) := ⟨rfl, rfl, rfl, by decide +kernel, rfl, by decide +kernel, by decide +kernel⟩
def T__law_longest : Rho → Out Rho Flw := sqT (asgT 1 (binT idxD (varT 0) (cT (.int 0)))) (retT (callB minD (consT (binT idxD (varT 0) (cT (.int 3))) (consT (ifT (isB (binT eqD (binT idxD (varT 0) (cT (.int 2))) (cT (.str ("one" : Str))))) (binT subD (varT 1) (cT (.int 1))) (binT subD (binT mulD (varT 1) (varT 1)) (cT (.int 1)))) (nilT)))))
def S__law_longest : List D → Out (List D) D := runF [] 2 T__law_longest
theorem z__law_longest {P : Program} {w : World} {K : PySem.W.Frag} {mg : Str → Option Value} {base : Heap} (g : Gk K mg) (hF : ∃ fd, Fun K "_law_longest" "_law_longest" (top 88) (He.ga K "_law_longest") fd) (hm : mg "_law_longest" = some (.ref (He.ga K "_law_longest"))) : FnZ P w K mg base "_law_longest" 1 [none] none S__law_longest := by
  obtain ⟨fd, F⟩ := hF
  refine FnZ.of F hm (ps := ["form_here"]) (fun _ _ _ _ _ _ us hl => match us, hl with | [_], _ => rfl) ?_
  exact fnZ0 (k := 0) (rk := none) (N := N__law_longest) (ps := ["form_here"]) (O' := [none, none]) (T := T__law_longest) 1 F sc__law_longest rfl (fun cdv A outer s H E b => by
    have nd := sc__law_longest.nd
    exact bx_cons (O1 := [none, none]) (sx_set 1 nd (ex_ix (ex_var 0) (ex_int)) (exOf_no (exOf_nil)))
      (bx_one (sx_ret (ex_callB (call_minZ b.calm) (sem_rDN minD_flat) g.f_min rfl (ax_cons (ex_ix (ex_var 0) (ex_int)) (ax_cons (ex_if (tx_cmp (op_eqZ b.hu) (sem_rD eqD_flat) (ex_ix (ex_var 0) (ex_int)) (ex_str) (nomark _)) (ex_op op_subZ (sem_rD intD_flat) (ex_var 1) (ex_int)) (ex_op op_subZ (sem_rD intD_flat) (ex_op op_mulZ (sem_rD intD_flat) (ex_var 1) (ex_var 1)) (ex_int))) (ax_nil)))) (exOf_no (exOf_nil))))) (.inl rfl)
/-! ### _law_content -/
def N__law_content : List Str := ["bag", "form_here", "many_here", "most_here", "rows", "found", "k", "top", "size", "body_here", "row", "j"]
theorem sc__law_content : FnScope N__law_content ["bag", "form_here", "many_here", "most_here"] (defScope (top 89)) := ⟨rfl, rfl, rfl, by decide +kernel, rfl, by decide +kernel, by decide +kernel⟩
def T__law_content : Rho → Out Rho Flw := sqT (asgT 4 (lcT [10] (seqT (binT idxD (varT 1) (cT (.int 4)))) (setG 10) (isB (binT inD (binT idxD (varT 10) (cT (.int 1))) (tupT (consT (cT (.str ("keep" : Str))) (consT (cT (.str ("check" : Str))) (nilT)))))) (varT 10))) (sqT (asgT 5 (lstT (nilT))) (sqT (forS (rngT rng1D (consT (binT mulD (callT [some 0, none] S__law_grab (ownT 0 (consT (binT addD (varT 2) (cT (.int 1))) (nilT)))) (callB intC (consT (binO 4 neD (lstT (nilT))) (nilT)))) (nilT))) (setG 6) (sqT (asgT 7 (callB minD (consT (callT [none] S__law_longest (consT (varT 1) (nilT))) (consT (varT 3) (nilT))))) (sqT (asgT 8 (binT idxD (lstT (consT (callT [some 0, none] S__law_grab (ownT 0 (consT (binT addD (varT 7) (cT (.int 1))) (nilT)))) (consT (callT [some 0, none] S__law_grab (ownT 0 (consT (binT addD (callB minD (consT (varT 7) (consT (cT (.int 2)) (nilT)))) (cT (.int 1))) (nilT)))) (nilT)))) (callT [some 0, none] S__law_grab (ownT 0 (consT (cT (.int 2)) (nilT)))))) (sqT (asgT 9 (callB tupC (consT (lcT [11] (rngT rng1D (consT (varT 8) (nilT))) (setG 11) (yesT) (callT [some 0, none] S__law_grab (ownT 0 (consT (binT idxD (varT 1) (cT (.int 0))) (nilT))))) (nilT)))) (appT 5 (tupT (consT (binT idxD (binO 4 idxD (callT [some 0, none] S__law_grab (ownT 0 (consT (callO 4 lenD) (nilT))))) (cT (.int 0))) (consT (varT 9) (nilT))))))))) (retT (callO 5 tupC))))
def S__law_content : List D → Out (List D) D := runF [0] 12 T__law_content
theorem z__law_content {P : Program} {w : World} {K : PySem.W.Frag} {mg : Str → Option Value} {base : Heap} (g : Gk K mg) (z__law_grab : FnZ P w K mg base "_law_grab" 1 [some .lst, none] none S__law_grab) (z__law_longest : FnZ P w K mg base "_law_longest" 1 [none] none S__law_longest) (hF : ∃ fd, Fun K "_law_content" "_law_content" (top 89) (He.ga K "_law_content") fd) (hm : mg "_law_content" = some (.ref (He.ga K "_law_content"))) : FnZ P w K mg base "_law_content" 2 [some .lst, none, none, none] none S__law_content := by
  obtain ⟨fd, F⟩ := hF
  refine FnZ.of F hm (ps := ["bag", "form_here", "many_here", "most_here"]) (fun _ _ _ _ _ _ us hl => match us, hl with | [_, _, _, _], _ => rfl) ?_
  exact fnZ1 (k := 1) (rk := none) (N := N__law_content) (ps := ["bag", "form_here", "many_here", "most_here"]) (O' := [some .lst, none, none, none, some .lst, some .lst, none, none, none, none, none, none]) (T := T__law_content) .lst 3 F sc__law_content rfl (fun cdv A outer s H E a b => by
    have nd := sc__law_content.nd
    exact bx_cons (O1 := [some .lst, none, none, none, some .lst, none, none, none, none, none, none, none]) (sx_lc 4 (own := [("row", 10)]) b.calm nd (exOf_yes (exOf_no (exOf_no (exOf_no (exOf_nil))))) (ix_seqZ (ex_ix (ex_var 1) (ex_int))) (blkOk_of (by kernel_rfl)) (none_cons rfl (fun _ h => nomatch h)) (fun _ _ _ _ _ => gx_name 10 nd) (fun _ _ _ _ _ => txs_one (tx_cmp (op_inZ (by exact b.hu)) (sem_rD inD_flat) (ex_ix (ex_var 10) (ex_int)) (ex_tup (ax_cons (ex_str) (ax_cons (ex_str) (ax_nil)))) (by with_unfolding_all rfl))) (fun _ _ _ _ _ => ex_var 10))
      (bx_cons (O1 := [some .lst, none, none, none, some .lst, some .lst, none, none, none, none, none, none]) (sx_own 5 nd (fx_lst (ax_nil)) (exOf_yes (exOf_no (exOf_no (exOf_no (exOf_nil))))))
      (bx_cons (O1 := [some .lst, none, none, none, some .lst, some .lst, none, none, none, none, none, none]) (sx_for b.own b.calm (ix_rng1 g.f_range (ax_cons (ex_op op_mulZ (sem_rD intD_flat) (ex_fn z__law_grab (b.room.mono (by decide)) b.tk (aj_own 0 (aj_cons (ex_op op_addZ (sem_add) (ex_var 2) (ex_int)) (aj_nil)))) (ex_callTy call_intZ (sem_rDN intC_flat) g.f_int rfl (ax_cons (ex_cmpO 4 (op_neZ b.hu) neD_flat (ex_of_fx (fx_lst (ax_nil))) (nomark _)) (ax_nil)))) (ax_nil))) (gx_name 6 nd) (bx_cons (O1 := [some .lst, none, none, none, some .lst, some .lst, none, none, none, none, none, none]) (sx_set 7 nd (ex_callB (call_minZ b.calm) (sem_rDN minD_flat) g.f_min rfl (ax_cons (ex_fn z__law_longest (b.room.mono (by decide)) b.tk (aj_cons (ex_var 1) (aj_nil))) (ax_cons (ex_var 3) (ax_nil)))) (exOf_yes (exOf_no (exOf_no (exOf_no (exOf_nil))))))
      (bx_cons (O1 := [some .lst, none, none, none, some .lst, some .lst, none, none, none, none, none, none]) (sx_set 8 nd (ex_ix (ex_of_fx (fx_lst (ax_cons (ex_fn z__law_grab (b.room.mono (by decide)) b.tk (aj_own 0 (aj_cons (ex_op op_addZ (sem_add) (ex_var 7) (ex_int)) (aj_nil)))) (ax_cons (ex_fn z__law_grab (b.room.mono (by decide)) b.tk (aj_own 0 (aj_cons (ex_op op_addZ (sem_add) (ex_callB (call_minZ b.calm) (sem_rDN minD_flat) g.f_min rfl (ax_cons (ex_var 7) (ax_cons (ex_int) (ax_nil)))) (ex_int)) (aj_nil)))) (ax_nil))))) (ex_fn z__law_grab (b.room.mono (by decide)) b.tk (aj_own 0 (aj_cons (ex_int) (aj_nil))))) (exOf_yes (exOf_no (exOf_no (exOf_no (exOf_nil))))))
      (bx_cons (O1 := [some .lst, none, none, none, some .lst, some .lst, none, none, none, none, none, none]) (sx_set 9 nd (ex_callTy call_tuple_of sem_tupC g.f_tuple rfl (ax_cons (ex_of_fx (fx_lc (own := [("j", 11)]) b.calm nd (ix_rng1 g.f_range (ax_cons (ex_var 8) (ax_nil))) (blkOk_of (by kernel_rfl)) (none_cons rfl (fun _ h => nomatch h)) (fun _ _ _ _ _ => gx_name 11 nd) (fun _ _ _ _ _ => txs_nil) (fun _ _ _ _ _ => ex_fn z__law_grab (by exact b.room.mono (by decide)) takes0 (aj_own 0 (aj_cons (ex_ix (ex_var 1) (ex_int)) (aj_nil)))))) (ax_nil))) (exOf_yes (exOf_no (exOf_no (exOf_no (exOf_nil))))))
      (bx_one (sx_append 5 (ex_tup (ax_cons (ex_ix (ex_ixO 4 (ex_fn z__law_grab (b.room.mono (by decide)) b.tk (aj_own 0 (aj_cons (ex_callO 4 call_lenZ (own_rDN lenD_flat) g.f_len rfl (ax_own1 4)) (aj_nil))))) (ex_int)) (ax_cons (ex_var 9) (ax_nil)))) (exOf_yes (exOf_no (exOf_no (exOf_no (exOf_nil)))))))))) (exOf_yes (exOf_no (exOf_no (exOf_no (exOf_nil))))))
      (bx_one (sx_ret (ex_callTyO 5 call_tuple_of own_tupC g.f_tuple rfl (ax_own1 5)) (exOf_yes (exOf_no (exOf_no (exOf_no (exOf_nil)))))))))) (.inl rfl) (exOf_yes (exOf_no (exOf_no (exOf_no (exOf_nil)))))
/-! ### is_integer -/
def N_is_integer : List Str := ["value"]
theorem sc_is_integer : FnScope N_is_integer ["value"] (defScope (top 26)) := ⟨rfl, rfl, rfl, by decide +kernel, rfl, by decide +kernel, by decide +kernel⟩
def T_is_integer : Rho → Out Rho Flw := retT (andV (isiT "int" (varT 0)) (notV (isiT "bool" (varT 0))))
def S_is_integer : List D → Out (List D) D := runF [] 1 T_is_integer
theorem z_is_integer {P : Program} {w : World} {K : PySem.W.Frag} {mg : Str → Option Value} {base : Heap} (g : Gk K mg) (hF : ∃ fd, Fun K "is_integer" "is_integer" (top 26) (He.ga K "is_integer") fd) (hm : mg "is_integer" = some (.ref (He.ga K "is_integer"))) : FnZ P w K mg base "is_integer" 1 [none] none S_is_integer := by
  obtain ⟨fd, F⟩ := hF
  refine FnZ.of F hm (ps := ["value"]) (fun _ _ _ _ _ _ us hl => match us, hl with | [_], _ => rfl) ?_
  exact fnZ0 (k := 0) (rk := none) (N := N_is_integer) (ps := ["value"]) (O' := [none]) (T := T_is_integer) 1 F sc_is_integer rfl (fun cdv A outer s H E b => by
    have nd := sc_is_integer.nd
    exact bx_one (sx_ret (ex_and (ex_isi (b := "int") (ex_var 0) (by decide) g.f_isinstance g.f_int rfl) (ex_one (ex_not (ex_isi (b := "bool") (ex_var 0) (by decide) g.f_isinstance g.f_bool rfl)))) (exOf_no (exOf_nil)))) (.inl rfl)
/-! ### is_sign -/
def N_is_sign : List Str := ["base", "value"]
theorem sc_is_sign : FnScope N_is_sign ["base", "value"] (defScope (top 28)) := ⟨rfl, rfl, rfl, by decide +kernel, rfl, by decide +kernel, by decide +kernel⟩
def T_is_sign : Rho → Out Rho Flw := retT (andV (callT [none] S_is_integer (consT (varT 1) (nilT))) (chainT leD ltD (cT (.int 0)) (varT 1) (varT 0)))
def S_is_sign : List D → Out (List D) D := runF [] 2 T_is_sign
theorem z_is_sign {P : Program} {w : World} {K : PySem.W.Frag} {mg : Str → Option Value} {base : Heap} (g : Gk K mg) (z_is_integer : FnZ P w K mg base "is_integer" 1 [none] none S_is_integer) (hF : ∃ fd, Fun K "is_sign" "is_sign" (top 28) (He.ga K "is_sign") fd) (hm : mg "is_sign" = some (.ref (He.ga K "is_sign"))) : FnZ P w K mg base "is_sign" 2 [none, none] none S_is_sign := by
  obtain ⟨fd, F⟩ := hF
  refine FnZ.of F hm (ps := ["base", "value"]) (fun _ _ _ _ _ _ us hl => match us, hl with | [_, _], _ => rfl) ?_
  exact fnZ0 (k := 1) (rk := none) (N := N_is_sign) (ps := ["base", "value"]) (O' := [none, none]) (T := T_is_sign) 2 F sc_is_sign rfl (fun cdv A outer s H E b => by
    have nd := sc_is_sign.nd
    exact bx_one (sx_ret (ex_and (ex_fn z_is_integer (b.room.mono (by decide)) b.tk (aj_cons (ex_var 1) (aj_nil))) (ex_one (ex_chain (op_leZ b.hu) (op_ltZ b.hu) ordD_flat (ex_int) (ex_var 1) (ex_var 0)))) (exOf_no (exOf_no (exOf_nil))))) (.inl rfl)
/-! ### is_word_of -/
def N_is_word_of : List Str := ["value", "words"]
theorem sc_is_word_of : FnScope N_is_word_of ["value", "words"] (defScope (top 30)) := ⟨rfl, rfl, rfl, by decide +kernel, rfl, by decide +kernel, by decide +kernel⟩
def T_is_word_of : Rho → Out Rho Flw := retT (andV (isiT "str" (varT 0)) (binT inD (varT 0) (varT 1)))
def S_is_word_of : List D → Out (List D) D := runF [] 2 T_is_word_of
theorem z_is_word_of {P : Program} {w : World} {K : PySem.W.Frag} {mg : Str → Option Value} {base : Heap} (g : Gk K mg) (hF : ∃ fd, Fun K "is_word_of" "is_word_of" (top 30) (He.ga K "is_word_of") fd) (hm : mg "is_word_of" = some (.ref (He.ga K "is_word_of"))) : FnZ P w K mg base "is_word_of" 1 [none, none] none S_is_word_of := by
  obtain ⟨fd, F⟩ := hF
  refine FnZ.of F hm (ps := ["value", "words"]) (fun _ _ _ _ _ _ us hl => match us, hl with | [_, _], _ => rfl) ?_
  exact fnZ0 (k := 0) (rk := none) (N := N_is_word_of) (ps := ["value", "words"]) (O' := [none, none]) (T := T_is_word_of) 2 F sc_is_word_of rfl (fun cdv A outer s H E b => by
    have nd := sc_is_word_of.nd
    exact bx_one (sx_ret (ex_and (ex_isi (b := "str") (ex_var 0) (by decide) g.f_isinstance g.f_str rfl) (ex_one (ex_cmp (op_inZ b.hu) (sem_rD inD_flat) (ex_var 0) (ex_var 1) (by with_unfolding_all rfl)))) (exOf_no (exOf_no (exOf_nil))))) (.inl rfl)
/-! ### is_tags -/
def N_is_tags : List Str := ["base", "value", "tag", "after"]
theorem sc_is_tags : FnScope N_is_tags ["base", "value"] (defScope (top 31)) := ⟨rfl, rfl, rfl, by decide +kernel, rfl, by decide +kernel, by decide +kernel⟩
def T_is_tags : Rho → Out Rho Flw := sqT (ifT (notT (isB (isiT "tuple" (varT 1)))) (retT (cT (.bool false))) (nxT)) (sqT (forS (seqT (varT 1)) (setG 2) (ifT (orT (notT (isB (isiT "tuple" (varT 2)))) (orT (isB (binT neD (callB lenD (consT (varT 2) (nilT))) (cT (.int 2)))) (orT (notT (isB (callT [none, none] S_is_sign (consT (varT 0) (consT (binT idxD (varT 2) (cT (.int 0))) (nilT)))))) (notT (isB (callT [none, none] S_is_word_of (consT (binT idxD (varT 2) (cT (.int 1))) (consT (cT (.tuple [.str ("keep" : Str), .str ("check" : Str), .str ("skip" : Str), .str ("end" : Str), .str ("stop" : Str)])) (nilT))))))))) (retT (cT (.bool false))) (nxT))) (retT (callB allD (consT (lcT [2, 3] (rngT zipD (consT (varT 1) (consT (slcT (varT 1) (someP (cT (.int 1))) (noP)) (nilT)))) (tupG 2 (consG (setG 2) (consG (setG 3) (nilG)))) (yesT) (binT ltD (binT idxD (varT 2) (cT (.int 0))) (binT idxD (varT 3) (cT (.int 0))))) (nilT)))))
def S_is_tags : List D → Out (List D) D := runF [] 4 T_is_tags
theorem z_is_tags {P : Program} {w : World} {K : PySem.W.Frag} {mg : Str → Option Value} {base : Heap} (g : Gk K mg) (z_is_sign : FnZ P w K mg base "is_sign" 2 [none, none] none S_is_sign) (z_is_word_of : FnZ P w K mg base "is_word_of" 1 [none, none] none S_is_word_of) (hF : ∃ fd, Fun K "is_tags" "is_tags" (top 31) (He.ga K "is_tags") fd) (hm : mg "is_tags" = some (.ref (He.ga K "is_tags"))) : FnZ P w K mg base "is_tags" 3 [none, none] none S_is_tags := by
  obtain ⟨fd, F⟩ := hF
  refine FnZ.of F hm (ps := ["base", "value"]) (fun _ _ _ _ _ _ us hl => match us, hl with | [_, _], _ => rfl) ?_
  exact fnZ0 (k := 2) (rk := none) (N := N_is_tags) (ps := ["base", "value"]) (O' := [none, none, none, none]) (T := T_is_tags) 2 F sc_is_tags rfl (fun cdv A outer s H E b => by
    have nd := sc_is_tags.nd
    exact bx_cons (O1 := [none, none, none, none]) (sx_if (O' := [none, none, none, none]) (tx_not (tx_val (ex_isi (b := "tuple") (ex_var 1) (by decide) g.f_isinstance g.f_tuple rfl))) (bx_one (sx_ret (ex_bl) (exOf_no (exOf_no (exOf_nil))))) (bx_nil) (exOf_no (exOf_no (exOf_nil))))
      (bx_cons (O1 := [none, none, none, none]) (sx_for b.own b.calm (ix_seqZ (ex_var 1)) (gx_name 2 nd) (bx_one (sx_if (O' := [none, none, none, none]) (tx_pw (wx_or (tx_not (tx_val (ex_isi (b := "tuple") (ex_var 2) (by decide) g.f_isinstance g.f_tuple rfl))) (wx_or (tx_cmp (op_neZ b.hu) (sem_rD neD_flat) (ex_callB call_lenZ (sem_rDN lenD_flat) g.f_len rfl (ax_cons (ex_var 2) (ax_nil))) (ex_int) (nomark _)) (wx_or (tx_not (tx_val (ex_fn z_is_sign (b.room.mono (by decide)) b.tk (aj_cons (ex_var 0) (aj_cons (ex_ix (ex_var 2) (ex_int)) (aj_nil)))))) (wx_or1 (tx_not (tx_val (ex_fn z_is_word_of (b.room.mono (by decide)) b.tk (aj_cons (ex_ix (ex_var 2) (ex_int)) (aj_cons (ex_kon g.k_USES) (aj_nil))))))))))) (bx_one (sx_ret (ex_bl) (exOf_no (exOf_no (exOf_nil))))) (bx_nil) (exOf_no (exOf_no (exOf_nil))))) (exOf_no (exOf_no (exOf_nil))))
      (bx_one (sx_ret (ex_callB (call_allZ b.calm) (sem_rDN allD_flat) g.f_all rfl (ax_cons (ex_of_fx (fx_lc (own := [("tag", 2), ("after", 3)]) b.calm nd (ix_zip g.f_zip (ax_cons (ex_var 1) (ax_cons (ex_slice (ex_var 1) (px_some (ex_int)) (px_none)) (ax_nil)))) (blkOk_of (by kernel_rfl)) (none_cons rfl (none_cons rfl (fun _ h => nomatch h))) (fun _ _ _ _ _ => gx_tup (by exact b.calm) (gxs_cons (gx_name 2 nd) (gxs_cons (gx_name 3 nd) (gxs_nil)))) (fun _ _ _ _ _ => txs_nil) (fun _ _ _ _ _ => ex_cmp (op_ltZ (by exact b.hu)) (sem_rD ordD_flat) (ex_ix (ex_var 2) (ex_int)) (ex_ix (ex_var 3) (ex_int)) (nomark _)))) (ax_nil))) (exOf_no (exOf_no (exOf_nil))))))) (.inl rfl)
/-! ### is_at_least -/
def N_is_at_least : List Str := ["value", "least"]
theorem sc_is_at_least : FnScope N_is_at_least ["value", "least"] (defScope (top 27)) := ⟨rfl, rfl, rfl, by decide +kernel, rfl, by decide +kernel, by decide +kernel⟩
def T_is_at_least : Rho → Out Rho Flw := retT (andV (callT [none] S_is_integer (consT (varT 0) (nilT))) (binT geD (varT 0) (varT 1)))
def S_is_at_least : List D → Out (List D) D := runF [] 2 T_is_at_least
theorem z_is_at_least {P : Program} {w : World} {K : PySem.W.Frag} {mg : Str → Option Value} {base : Heap} (g : Gk K mg) (z_is_integer : FnZ P w K mg base "is_integer" 1 [none] none S_is_integer) (hF : ∃ fd, Fun K "is_at_least" "is_at_least" (top 27) (He.ga K "is_at_least") fd) (hm : mg "is_at_least" = some (.ref (He.ga K "is_at_least"))) : FnZ P w K mg base "is_at_least" 2 [none, none] none S_is_at_least := by
  obtain ⟨fd, F⟩ := hF
  refine FnZ.of F hm (ps := ["value", "least"]) (fun _ _ _ _ _ _ us hl => match us, hl with | [_, _], _ => rfl) ?_
  exact fnZ0 (k := 1) (rk := none) (N := N_is_at_least) (ps := ["value", "least"]) (O' := [none, none]) (T := T_is_at_least) 2 F sc_is_at_least rfl (fun cdv A outer s H E b => by
    have nd := sc_is_at_least.nd
    exact bx_one (sx_ret (ex_and (ex_fn z_is_integer (b.room.mono (by decide)) b.tk (aj_cons (ex_var 0) (aj_nil))) (ex_one (ex_cmp (op_geZ b.hu) (sem_rD ordD_flat) (ex_var 0) (ex_var 1) (nomark _)))) (exOf_no (exOf_no (exOf_nil))))) (.inl rfl)
/-! ### is_head -/
def N_is_head : List Str := ["base", "value", "mark"]
theorem sc_is_head : FnScope N_is_head ["base", "value"] (defScope (top 32)) := ⟨rfl, rfl, rfl, by decide +kernel, rfl, by decide +kernel, by decide +kernel⟩
def T_is_head : Rho → Out Rho Flw := retT (andV (isiT "tuple" (varT 1)) (callB allD (consT (lcT [2] (seqT (varT 1)) (setG 2) (yesT) (orV (binT isD (varT 2) (cT .none)) (callT [none, none] S_is_sign (consT (varT 0) (consT (varT 2) (nilT)))))) (nilT))))
def S_is_head : List D → Out (List D) D := runF [] 3 T_is_head
theorem z_is_head {P : Program} {w : World} {K : PySem.W.Frag} {mg : Str → Option Value} {base : Heap} (g : Gk K mg) (z_is_sign : FnZ P w K mg base "is_sign" 2 [none, none] none S_is_sign) (hF : ∃ fd, Fun K "is_head" "is_head" (top 32) (He.ga K "is_head") fd) (hm : mg "is_head" = some (.ref (He.ga K "is_head"))) : FnZ P w K mg base "is_head" 3 [none, none] none S_is_head := by
  obtain ⟨fd, F⟩ := hF
  refine FnZ.of F hm (ps := ["base", "value"]) (fun _ _ _ _ _ _ us hl => match us, hl with | [_, _], _ => rfl) ?_
  exact fnZ0 (k := 2) (rk := none) (N := N_is_head) (ps := ["base", "value"]) (O' := [none, none, none]) (T := T_is_head) 2 F sc_is_head rfl (fun cdv A outer s H E b => by
    have nd := sc_is_head.nd
    exact bx_one (sx_ret (ex_and (ex_isi (b := "tuple") (ex_var 1) (by decide) g.f_isinstance g.f_tuple rfl) (ex_one (ex_callB (call_allZ b.calm) (sem_rDN allD_flat) g.f_all rfl (ax_cons (ex_of_fx (fx_lc (own := [("mark", 2)]) b.calm nd (ix_seqZ (ex_var 1)) (blkOk_of (by kernel_rfl)) (none_cons rfl (fun _ h => nomatch h)) (fun _ _ _ _ _ => gx_name 2 nd) (fun _ _ _ _ _ => txs_nil) (fun _ _ _ _ _ => ex_or (ex_cmp (op_isZ) (sem_rD isD_flat) (ex_var 2) (ex_non) (nomark _)) (ex_one (ex_fn z_is_sign (by exact b.room.mono (by decide)) takes0 (aj_cons (ex_var 0) (aj_cons (ex_var 2) (aj_nil)))))))) (ax_nil))))) (exOf_no (exOf_no (exOf_nil))))) (.inl rfl)
/-! ### is_format -/
def N_is_format : List Str := ["value", "base", "head", "width", "most", "tags", "others"]
theorem sc_is_format : FnScope N_is_format ["value"] (defScope (top 33)) := ⟨rfl, rfl, rfl, by decide +kernel, rfl, by decide +kernel, by decide +kernel⟩
def T_is_format : Rho → Out Rho Flw := sqT (ifT (orT (notT (isB (isiT "tuple" (varT 0)))) (isB (binT neD (callB lenD (consT (varT 0) (nilT))) (cT (.int 6))))) (retT (cT (.bool false))) (nxT)) (sqT (tgtT (tupG 6 (consG (setG 1) (consG (setG 2) (consG (setG 3) (consG (setG 4) (consG (setG 5) (consG (setG 6) (nilG)))))))) (varT 0)) (sqT (ifT (orT (notT (isB (callT [none, none] S_is_at_least (consT (varT 1) (consT (cT (.int 2)) (nilT)))))) (orT (isB (binT gtD (varT 1) (cT (.int 256)))) (notT (isB (callT [none, none] S_is_head (consT (varT 1) (consT (varT 2) (nilT)))))))) (retT (cT (.bool false))) (nxT)) (sqT (ifT (orT (notT (isB (callT [none, none] S_is_word_of (consT (varT 3) (consT (cT (.tuple [.str ("one" : Str), .str ("high" : Str), .str ("low" : Str)])) (nilT)))))) (notT (isB (callT [none, none] S_is_at_least (consT (varT 4) (consT (cT (.int 0)) (nilT))))))) (retT (cT (.bool false))) (nxT)) (retT (andV (callT [none, none] S_is_tags (consT (varT 1) (consT (varT 5) (nilT)))) (callT [none, none] S_is_word_of (consT (varT 6) (consT (cT (.tuple [.str ("skip" : Str), .str ("refuse" : Str)])) (nilT)))))))))
def S_is_format : List D → Out (List D) D := runF [] 7 T_is_format
theorem z_is_format {P : Program} {w : World} {K : PySem.W.Frag} {mg : Str → Option Value} {base : Heap} (g : Gk K mg) (z_is_at_least : FnZ P w K mg base "is_at_least" 2 [none, none] none S_is_at_least) (z_is_head : FnZ P w K mg base "is_head" 3 [none, none] none S_is_head) (z_is_tags : FnZ P w K mg base "is_tags" 3 [none, none] none S_is_tags) (z_is_word_of : FnZ P w K mg base "is_word_of" 1 [none, none] none S_is_word_of) (hF : ∃ fd, Fun K "is_format" "is_format" (top 33) (He.ga K "is_format") fd) (hm : mg "is_format" = some (.ref (He.ga K "is_format"))) : FnZ P w K mg base "is_format" 4 [none] none S_is_format := by
  obtain ⟨fd, F⟩ := hF
  refine FnZ.of F hm (ps := ["value"]) (fun _ _ _ _ _ _ us hl => match us, hl with | [_], _ => rfl) ?_
  exact fnZ0 (k := 3) (rk := none) (N := N_is_format) (ps := ["value"]) (O' := [none, none, none, none, none, none, none]) (T := T_is_format) 1 F sc_is_format rfl (fun cdv A outer s H E b => by
    have nd := sc_is_format.nd
    exact bx_cons (O1 := [none, none, none, none, none, none, none]) (sx_if (O' := [none, none, none, none, none, none, none]) (tx_pw (wx_or (tx_not (tx_val (ex_isi (b := "tuple") (ex_var 0) (by decide) g.f_isinstance g.f_tuple rfl))) (wx_or1 (tx_cmp (op_neZ b.hu) (sem_rD neD_flat) (ex_callB call_lenZ (sem_rDN lenD_flat) g.f_len rfl (ax_cons (ex_var 0) (ax_nil))) (ex_int) (nomark _))))) (bx_one (sx_ret (ex_bl) (exOf_no (exOf_nil)))) (bx_nil) (exOf_no (exOf_nil)))
      (bx_cons (O1 := [none, none, none, none, none, none, none]) (sx_tgt (ex_var 0) (gx_tup b.calm (gxs_cons (gx_name 1 nd) (gxs_cons (gx_name 2 nd) (gxs_cons (gx_name 3 nd) (gxs_cons (gx_name 4 nd) (gxs_cons (gx_name 5 nd) (gxs_cons (gx_name 6 nd) (gxs_nil)))))))) (exOf_no (exOf_nil)))
      (bx_cons (O1 := [none, none, none, none, none, none, none]) (sx_if (O' := [none, none, none, none, none, none, none]) (tx_pw (wx_or (tx_not (tx_val (ex_fn z_is_at_least (b.room.mono (by decide)) b.tk (aj_cons (ex_var 1) (aj_cons (ex_int) (aj_nil)))))) (wx_or (tx_cmp (op_gtZ b.hu) (sem_rD ordD_flat) (ex_var 1) (ex_kon g.k_GREATEST_BASE) (nomark _)) (wx_or1 (tx_not (tx_val (ex_fn z_is_head (b.room.mono (by decide)) b.tk (aj_cons (ex_var 1) (aj_cons (ex_var 2) (aj_nil)))))))))) (bx_one (sx_ret (ex_bl) (exOf_no (exOf_nil)))) (bx_nil) (exOf_no (exOf_nil)))
      (bx_cons (O1 := [none, none, none, none, none, none, none]) (sx_if (O' := [none, none, none, none, none, none, none]) (tx_pw (wx_or (tx_not (tx_val (ex_fn z_is_word_of (b.room.mono (by decide)) b.tk (aj_cons (ex_var 3) (aj_cons (ex_kon g.k_WIDTHS) (aj_nil)))))) (wx_or1 (tx_not (tx_val (ex_fn z_is_at_least (b.room.mono (by decide)) b.tk (aj_cons (ex_var 4) (aj_cons (ex_int) (aj_nil))))))))) (bx_one (sx_ret (ex_bl) (exOf_no (exOf_nil)))) (bx_nil) (exOf_no (exOf_nil)))
      (bx_one (sx_ret (ex_and (ex_fn z_is_tags (b.room.mono (by decide)) b.tk (aj_cons (ex_var 1) (aj_cons (ex_var 5) (aj_nil)))) (ex_one (ex_fn z_is_word_of (b.room.mono (by decide)) b.tk (aj_cons (ex_var 6) (aj_cons (ex_kon g.k_OTHERS) (aj_nil)))))) (exOf_no (exOf_nil)))))))) (.inl rfl)
/-! ### check_format -/
def N_check_format : List Str := ["form"]
theorem sc_check_format : FnScope N_check_format ["form"] (defScope (top 35)) := ⟨rfl, rfl, rfl, by decide +kernel, rfl, by decide +kernel, by decide +kernel⟩
def T_check_format : Rho → Out Rho Flw := ifT (notT (isB (callT [none] S_is_format (consT (varT 0) (nilT))))) (badT) (nxT)
def S_check_format : List D → Out (List D) D := runF [] 1 T_check_format
theorem z_check_format {P : Program} {w : World} {K : PySem.W.Frag} {mg : Str → Option Value} {base : Heap} (g : Gk K mg) (z_is_format : FnZ P w K mg base "is_format" 4 [none] none S_is_format) (hF : ∃ fd, Fun K "check_format" "check_format" (top 35) (He.ga K "check_format") fd) (hm : mg "check_format" = some (.ref (He.ga K "check_format"))) : FnZ P w K mg base "check_format" 5 [none] none S_check_format := by
  obtain ⟨fd, F⟩ := hF
  refine FnZ.of F hm (ps := ["form"]) (fun _ _ _ _ _ _ us hl => match us, hl with | [_], _ => rfl) ?_
  exact fnZ0 (k := 4) (rk := none) (N := N_check_format) (ps := ["form"]) (O' := [none]) (T := T_check_format) 1 F sc_check_format rfl (fun cdv A outer s H E b => by
    have nd := sc_check_format.nd
    exact bx_one (sx_if (O' := [none]) (tx_not (tx_val (ex_fn z_is_format (b.room.mono (by decide)) b.tk (aj_cons (ex_var 0) (aj_nil))))) (bx_one (sx_bad)) (bx_nil) (exOf_no (exOf_nil)))) (.inl rfl)
/-! ### greatest_length -/
def N_greatest_length : List Str := ["form", "base", "width", "most"]
theorem sc_greatest_length : FnScope N_greatest_length ["form"] (defScope (top 57)) := ⟨rfl, rfl, rfl, by decide +kernel, rfl, by decide +kernel, by decide +kernel⟩
def T_greatest_length : Rho → Out Rho Flw := sqT (par3T 1 2 3 (consT (binT idxD (varT 0) (cT (.int 0))) (consT (binT idxD (varT 0) (cT (.int 2))) (consT (binT idxD (varT 0) (cT (.int 3))) (nilT))))) (retT (callB minD (consT (varT 3) (consT (ifT (isB (binT eqD (varT 2) (cT (.str ("one" : Str))))) (binT subD (varT 1) (cT (.int 1))) (binT subD (binT mulD (varT 1) (varT 1)) (cT (.int 1)))) (nilT)))))
def S_greatest_length : List D → Out (List D) D := runF [] 4 T_greatest_length
theorem z_greatest_length {P : Program} {w : World} {K : PySem.W.Frag} {mg : Str → Option Value} {base : Heap} (g : Gk K mg) (hF : ∃ fd, Fun K "greatest_length" "greatest_length" (top 57) (He.ga K "greatest_length") fd) (hm : mg "greatest_length" = some (.ref (He.ga K "greatest_length"))) : FnZ P w K mg base "greatest_length" 1 [none] none S_greatest_length := by
  obtain ⟨fd, F⟩ := hF
  refine FnZ.of F hm (ps := ["form"]) (fun _ _ _ _ _ _ us hl => match us, hl with | [_], _ => rfl) ?_
  exact fnZ0 (k := 0) (rk := none) (N := N_greatest_length) (ps := ["form"]) (O' := [none, none, none, none]) (T := T_greatest_length) 1 F sc_greatest_length rfl (fun cdv A outer s H E b => by
    have nd := sc_greatest_length.nd
    exact bx_cons (O1 := [none, none, none, none]) (sx_par3 1 2 3 b.calm nd (ax_cons (ex_ix (ex_var 0) (ex_int)) (ax_cons (ex_ix (ex_var 0) (ex_int)) (ax_cons (ex_ix (ex_var 0) (ex_int)) (ax_nil)))) (exOf_no (exOf_nil)) (by rfl))
      (bx_one (sx_ret (ex_callB (call_minZ b.calm) (sem_rDN minD_flat) g.f_min rfl (ax_cons (ex_var 3) (ax_cons (ex_if (tx_cmp (op_eqZ b.hu) (sem_rD eqD_flat) (ex_var 2) (ex_kon g.k_ONE) (nomark _)) (ex_op op_subZ (sem_rD intD_flat) (ex_var 1) (ex_int)) (ex_op op_subZ (sem_rD intD_flat) (ex_op op_mulZ (sem_rD intD_flat) (ex_var 1) (ex_var 1)) (ex_int))) (ax_nil)))) (exOf_no (exOf_nil))))) (.inl rfl)
/-! ### use_at -/
def N_use_at : List Str := ["form", "sign", "tag", "use"]
theorem sc_use_at : FnScope N_use_at ["form", "sign"] (defScope (top 38)) := ⟨rfl, rfl, rfl, by decide +kernel, rfl, by decide +kernel, by decide +kernel⟩
def T_use_at : Rho → Out Rho Flw := sqT (forS (seqT (binT idxD (varT 0) (cT (.int 4)))) (tupG 2 (consG (setG 2) (consG (setG 3) (nilG)))) (ifT (isB (binT eqD (varT 2) (varT 1))) (retT (varT 3)) (nxT))) (retT (ifT (isB (binT eqD (binT idxD (varT 0) (cT (.int 5))) (cT (.str ("skip" : Str))))) (cT (.str ("skip" : Str))) (cT .none)))
def S_use_at : List D → Out (List D) D := runF [] 4 T_use_at
theorem z_use_at {P : Program} {w : World} {K : PySem.W.Frag} {mg : Str → Option Value} {base : Heap} (g : Gk K mg) (hF : ∃ fd, Fun K "use_at" "use_at" (top 38) (He.ga K "use_at") fd) (hm : mg "use_at" = some (.ref (He.ga K "use_at"))) : FnZ P w K mg base "use_at" 1 [none, none] none S_use_at := by
  obtain ⟨fd, F⟩ := hF
  refine FnZ.of F hm (ps := ["form", "sign"]) (fun _ _ _ _ _ _ us hl => match us, hl with | [_, _], _ => rfl) ?_
  exact fnZ0 (k := 0) (rk := none) (N := N_use_at) (ps := ["form", "sign"]) (O' := [none, none, none, none]) (T := T_use_at) 2 F sc_use_at rfl (fun cdv A outer s H E b => by
    have nd := sc_use_at.nd
    exact bx_cons (O1 := [none, none, none, none]) (sx_for b.own b.calm (ix_seqZ (ex_ix (ex_var 0) (ex_int))) (gx_tup b.calm (gxs_cons (gx_name 2 nd) (gxs_cons (gx_name 3 nd) (gxs_nil)))) (bx_one (sx_if (O' := [none, none, none, none]) (tx_cmp (op_eqZ b.hu) (sem_rD eqD_flat) (ex_var 2) (ex_var 1) (nomark _)) (bx_one (sx_ret (ex_var 3) (exOf_no (exOf_no (exOf_nil))))) (bx_nil) (exOf_no (exOf_no (exOf_nil))))) (exOf_no (exOf_no (exOf_nil))))
      (bx_one (sx_ret (ex_if (tx_cmp (op_eqZ b.hu) (sem_rD eqD_flat) (ex_ix (ex_var 0) (ex_int)) (ex_kon g.k_SKIP) (nomark _)) (ex_kon g.k_SKIP) (ex_non)) (exOf_no (exOf_no (exOf_nil)))))) (.inl rfl)
/-! ### is_signs -/
def N_is_signs : List Str := ["base", "value", "sign"]
theorem sc_is_signs : FnScope N_is_signs ["base", "value"] (defScope (top 29)) := ⟨rfl, rfl, rfl, by decide +kernel, rfl, by decide +kernel, by decide +kernel⟩
def T_is_signs : Rho → Out Rho Flw := retT (andV (isiT "tuple" (varT 1)) (callB allD (consT (lcT [2] (seqT (varT 1)) (setG 2) (yesT) (callT [none, none] S_is_sign (consT (varT 0) (consT (varT 2) (nilT))))) (nilT))))
def S_is_signs : List D → Out (List D) D := runF [] 3 T_is_signs
theorem z_is_signs {P : Program} {w : World} {K : PySem.W.Frag} {mg : Str → Option Value} {base : Heap} (g : Gk K mg) (z_is_sign : FnZ P w K mg base "is_sign" 2 [none, none] none S_is_sign) (hF : ∃ fd, Fun K "is_signs" "is_signs" (top 29) (He.ga K "is_signs") fd) (hm : mg "is_signs" = some (.ref (He.ga K "is_signs"))) : FnZ P w K mg base "is_signs" 3 [none, none] none S_is_signs := by
  obtain ⟨fd, F⟩ := hF
  refine FnZ.of F hm (ps := ["base", "value"]) (fun _ _ _ _ _ _ us hl => match us, hl with | [_, _], _ => rfl) ?_
  exact fnZ0 (k := 2) (rk := none) (N := N_is_signs) (ps := ["base", "value"]) (O' := [none, none, none]) (T := T_is_signs) 2 F sc_is_signs rfl (fun cdv A outer s H E b => by
    have nd := sc_is_signs.nd
    exact bx_one (sx_ret (ex_and (ex_isi (b := "tuple") (ex_var 1) (by decide) g.f_isinstance g.f_tuple rfl) (ex_one (ex_callB (call_allZ b.calm) (sem_rDN allD_flat) g.f_all rfl (ax_cons (ex_of_fx (fx_lc (own := [("sign", 2)]) b.calm nd (ix_seqZ (ex_var 1)) (blkOk_of (by kernel_rfl)) (none_cons rfl (fun _ h => nomatch h)) (fun _ _ _ _ _ => gx_name 2 nd) (fun _ _ _ _ _ => txs_nil) (fun _ _ _ _ _ => ex_fn z_is_sign (by exact b.room.mono (by decide)) takes0 (aj_cons (ex_var 0) (aj_cons (ex_var 2) (aj_nil)))))) (ax_nil))))) (exOf_no (exOf_no (exOf_nil))))) (.inl rfl)
/-! ### is_chunk -/
def N_is_chunk : List Str := ["form", "value"]
theorem sc_is_chunk : FnScope N_is_chunk ["form", "value"] (defScope (top 58)) := ⟨rfl, rfl, rfl, by decide +kernel, rfl, by decide +kernel, by decide +kernel⟩
def T_is_chunk : Rho → Out Rho Flw := sqT (ifT (orT (notT (isB (isiT "tuple" (varT 1)))) (orT (isB (binT neD (callB lenD (consT (varT 1) (nilT))) (cT (.int 2)))) (notT (isB (callT [none, none] S_is_sign (consT (binT idxD (varT 0) (cT (.int 0))) (consT (binT idxD (varT 1) (cT (.int 0))) (nilT)))))))) (retT (cT (.bool false))) (nxT)) (sqT (ifT (orT (isB (binT notInD (callT [none, none] S_use_at (consT (varT 0) (consT (binT idxD (varT 1) (cT (.int 0))) (nilT)))) (cT (.tuple [.str ("keep" : Str), .str ("check" : Str)])))) (notT (isB (callT [none, none] S_is_signs (consT (binT idxD (varT 0) (cT (.int 0))) (consT (binT idxD (varT 1) (cT (.int 1))) (nilT))))))) (retT (cT (.bool false))) (nxT)) (retT (binT leD (callB lenD (consT (binT idxD (varT 1) (cT (.int 1))) (nilT))) (callT [none] S_greatest_length (consT (varT 0) (nilT))))))
def S_is_chunk : List D → Out (List D) D := runF [] 2 T_is_chunk
theorem z_is_chunk {P : Program} {w : World} {K : PySem.W.Frag} {mg : Str → Option Value} {base : Heap} (g : Gk K mg) (z_greatest_length : FnZ P w K mg base "greatest_length" 1 [none] none S_greatest_length) (z_is_sign : FnZ P w K mg base "is_sign" 2 [none, none] none S_is_sign) (z_is_signs : FnZ P w K mg base "is_signs" 3 [none, none] none S_is_signs) (z_use_at : FnZ P w K mg base "use_at" 1 [none, none] none S_use_at) (hF : ∃ fd, Fun K "is_chunk" "is_chunk" (top 58) (He.ga K "is_chunk") fd) (hm : mg "is_chunk" = some (.ref (He.ga K "is_chunk"))) : FnZ P w K mg base "is_chunk" 4 [none, none] none S_is_chunk := by
  obtain ⟨fd, F⟩ := hF
  refine FnZ.of F hm (ps := ["form", "value"]) (fun _ _ _ _ _ _ us hl => match us, hl with | [_, _], _ => rfl) ?_
  exact fnZ0 (k := 3) (rk := none) (N := N_is_chunk) (ps := ["form", "value"]) (O' := [none, none]) (T := T_is_chunk) 2 F sc_is_chunk rfl (fun cdv A outer s H E b => by
    have nd := sc_is_chunk.nd
    exact bx_cons (O1 := [none, none]) (sx_if (O' := [none, none]) (tx_pw (wx_or (tx_not (tx_val (ex_isi (b := "tuple") (ex_var 1) (by decide) g.f_isinstance g.f_tuple rfl))) (wx_or (tx_cmp (op_neZ b.hu) (sem_rD neD_flat) (ex_callB call_lenZ (sem_rDN lenD_flat) g.f_len rfl (ax_cons (ex_var 1) (ax_nil))) (ex_int) (nomark _)) (wx_or1 (tx_not (tx_val (ex_fn z_is_sign (b.room.mono (by decide)) b.tk (aj_cons (ex_ix (ex_var 0) (ex_int)) (aj_cons (ex_ix (ex_var 1) (ex_int)) (aj_nil)))))))))) (bx_one (sx_ret (ex_bl) (exOf_no (exOf_no (exOf_nil))))) (bx_nil) (exOf_no (exOf_no (exOf_nil))))
      (bx_cons (O1 := [none, none]) (sx_if (O' := [none, none]) (tx_pw (wx_or (tx_cmp (op_notInZ b.hu) (sem_rD notInD_flat) (ex_fn z_use_at (b.room.mono (by decide)) b.tk (aj_cons (ex_var 0) (aj_cons (ex_ix (ex_var 1) (ex_int)) (aj_nil)))) (ex_kon g.k_TOLD) (by with_unfolding_all rfl)) (wx_or1 (tx_not (tx_val (ex_fn z_is_signs (b.room.mono (by decide)) b.tk (aj_cons (ex_ix (ex_var 0) (ex_int)) (aj_cons (ex_ix (ex_var 1) (ex_int)) (aj_nil))))))))) (bx_one (sx_ret (ex_bl) (exOf_no (exOf_no (exOf_nil))))) (bx_nil) (exOf_no (exOf_no (exOf_nil))))
      (bx_one (sx_ret (ex_cmp (op_leZ b.hu) (sem_rD ordD_flat) (ex_callB call_lenZ (sem_rDN lenD_flat) g.f_len rfl (ax_cons (ex_ix (ex_var 1) (ex_int)) (ax_nil))) (ex_fn z_greatest_length (b.room.mono (by decide)) b.tk (aj_cons (ex_var 0) (aj_nil))) (nomark _)) (exOf_no (exOf_no (exOf_nil))))))) (.inl rfl)
/-! ### is_content_of -/
def N_is_content_of : List Str := ["form", "value", "chunk"]
theorem sc_is_content_of : FnScope N_is_content_of ["form", "value"] (defScope (top 59)) := ⟨rfl, rfl, rfl, by decide +kernel, rfl, by decide +kernel, by decide +kernel⟩
def T_is_content_of : Rho → Out Rho Flw := retT (andV (isiT "tuple" (varT 1)) (callB allD (consT (lcT [2] (seqT (varT 1)) (setG 2) (yesT) (callT [none, none] S_is_chunk (consT (varT 0) (consT (varT 2) (nilT))))) (nilT))))
def S_is_content_of : List D → Out (List D) D := runF [] 3 T_is_content_of
theorem z_is_content_of {P : Program} {w : World} {K : PySem.W.Frag} {mg : Str → Option Value} {base : Heap} (g : Gk K mg) (z_is_chunk : FnZ P w K mg base "is_chunk" 4 [none, none] none S_is_chunk) (hF : ∃ fd, Fun K "is_content_of" "is_content_of" (top 59) (He.ga K "is_content_of") fd) (hm : mg "is_content_of" = some (.ref (He.ga K "is_content_of"))) : FnZ P w K mg base "is_content_of" 5 [none, none] none S_is_content_of := by
  obtain ⟨fd, F⟩ := hF
  refine FnZ.of F hm (ps := ["form", "value"]) (fun _ _ _ _ _ _ us hl => match us, hl with | [_, _], _ => rfl) ?_
  exact fnZ0 (k := 4) (rk := none) (N := N_is_content_of) (ps := ["form", "value"]) (O' := [none, none, none]) (T := T_is_content_of) 2 F sc_is_content_of rfl (fun cdv A outer s H E b => by
    have nd := sc_is_content_of.nd
    exact bx_one (sx_ret (ex_and (ex_isi (b := "tuple") (ex_var 1) (by decide) g.f_isinstance g.f_tuple rfl) (ex_one (ex_callB (call_allZ b.calm) (sem_rDN allD_flat) g.f_all rfl (ax_cons (ex_of_fx (fx_lc (own := [("chunk", 2)]) b.calm nd (ix_seqZ (ex_var 1)) (blkOk_of (by kernel_rfl)) (none_cons rfl (fun _ h => nomatch h)) (fun _ _ _ _ _ => gx_name 2 nd) (fun _ _ _ _ _ => txs_nil) (fun _ _ _ _ _ => ex_fn z_is_chunk (by exact b.room.mono (by decide)) takes0 (aj_cons (ex_var 0) (aj_cons (ex_var 2) (aj_nil)))))) (ax_nil))))) (exOf_no (exOf_no (exOf_nil))))) (.inl rfl)
/-! ### check_content -/
def N_check_content : List Str := ["form", "content"]
theorem sc_check_content : FnScope N_check_content ["form", "content"] (defScope (top 60)) := ⟨rfl, rfl, rfl, by decide +kernel, rfl, by decide +kernel, by decide +kernel⟩
def T_check_content : Rho → Out Rho Flw := ifT (notT (isB (callT [none, none] S_is_content_of (consT (varT 0) (consT (varT 1) (nilT)))))) (badT) (nxT)
def S_check_content : List D → Out (List D) D := runF [] 2 T_check_content
theorem z_check_content {P : Program} {w : World} {K : PySem.W.Frag} {mg : Str → Option Value} {base : Heap} (g : Gk K mg) (z_is_content_of : FnZ P w K mg base "is_content_of" 5 [none, none] none S_is_content_of) (hF : ∃ fd, Fun K "check_content" "check_content" (top 60) (He.ga K "check_content") fd) (hm : mg "check_content" = some (.ref (He.ga K "check_content"))) : FnZ P w K mg base "check_content" 6 [none, none] none S_check_content := by
  obtain ⟨fd, F⟩ := hF
  refine FnZ.of F hm (ps := ["form", "content"]) (fun _ _ _ _ _ _ us hl => match us, hl with | [_, _], _ => rfl) ?_
  exact fnZ0 (k := 5) (rk := none) (N := N_check_content) (ps := ["form", "content"]) (O' := [none, none]) (T := T_check_content) 2 F sc_check_content rfl (fun cdv A outer s H E b => by
    have nd := sc_check_content.nd
    exact bx_one (sx_if (O' := [none, none]) (tx_not (tx_val (ex_fn z_is_content_of (b.room.mono (by decide)) b.tk (aj_cons (ex_var 0) (aj_cons (ex_var 1) (aj_nil)))))) (bx_one (sx_bad)) (bx_nil) (exOf_no (exOf_no (exOf_nil))))) (.inl rfl)
/-! ### length_signs -/
def N_length_signs : List Str := ["form", "length", "high", "low"]
theorem sc_length_signs : FnScope N_length_signs ["form", "length"] (defScope (top 61)) := ⟨rfl, rfl, rfl, by decide +kernel, rfl, by decide +kernel, by decide +kernel⟩
def T_length_signs : Rho → Out Rho Flw := sqT (par2T 2 3 (consT (binT fdivD (varT 1) (binT idxD (varT 0) (cT (.int 0)))) (consT (binT modD (callB intC (consT (varT 1) (nilT))) (binT idxD (varT 0) (cT (.int 0)))) (nilT)))) (sqT (ifT (isB (binT eqD (binT idxD (varT 0) (cT (.int 2))) (cT (.str ("one" : Str))))) (retT (tupT (consT (varT 1) (nilT)))) (nxT)) (retT (ifT (isB (binT eqD (binT idxD (varT 0) (cT (.int 2))) (cT (.str ("high" : Str))))) (tupT (consT (varT 2) (consT (varT 3) (nilT)))) (tupT (consT (varT 3) (consT (varT 2) (nilT)))))))
def S_length_signs : List D → Out (List D) D := runF [] 4 T_length_signs
theorem z_length_signs {P : Program} {w : World} {K : PySem.W.Frag} {mg : Str → Option Value} {base : Heap} (g : Gk K mg) (hF : ∃ fd, Fun K "length_signs" "length_signs" (top 61) (He.ga K "length_signs") fd) (hm : mg "length_signs" = some (.ref (He.ga K "length_signs"))) : FnZ P w K mg base "length_signs" 1 [none, none] none S_length_signs := by
  obtain ⟨fd, F⟩ := hF
  refine FnZ.of F hm (ps := ["form", "length"]) (fun _ _ _ _ _ _ us hl => match us, hl with | [_, _], _ => rfl) ?_
  exact fnZ0 (k := 0) (rk := none) (N := N_length_signs) (ps := ["form", "length"]) (O' := [none, none, none, none]) (T := T_length_signs) 2 F sc_length_signs rfl (fun cdv A outer s H E b => by
    have nd := sc_length_signs.nd
    exact bx_cons (O1 := [none, none, none, none]) (sx_par2 2 3 (k := none) (l := none) b.calm nd (af_cons (ex_op op_fdivZ (sem_rD intD_flat) (ex_var 1) (ex_ix (ex_var 0) (ex_int))) (af_cons (ex_op op_modZ (sem_rD intD_flat) (ex_callTy call_intZ (sem_rDN intC_flat) g.f_int rfl (ax_cons (ex_var 1) (ax_nil))) (ex_ix (ex_var 0) (ex_int))) (af_nil))) (exOf_no (exOf_no (exOf_nil))) (by rfl))
      (bx_cons (O1 := [none, none, none, none]) (sx_if (O' := [none, none, none, none]) (tx_cmp (op_eqZ b.hu) (sem_rD eqD_flat) (ex_ix (ex_var 0) (ex_int)) (ex_kon g.k_ONE) (nomark _)) (bx_one (sx_ret (ex_tup (ax_cons (ex_var 1) (ax_nil))) (exOf_no (exOf_no (exOf_nil))))) (bx_nil) (exOf_no (exOf_no (exOf_nil))))
      (bx_one (sx_ret (ex_if (tx_cmp (op_eqZ b.hu) (sem_rD eqD_flat) (ex_ix (ex_var 0) (ex_int)) (ex_kon g.k_HIGH) (nomark _)) (ex_tup (ax_cons (ex_var 2) (ax_cons (ex_var 3) (ax_nil)))) (ex_tup (ax_cons (ex_var 3) (ax_cons (ex_var 2) (ax_nil))))) (exOf_no (exOf_no (exOf_nil))))))) (.inl rfl)
/-! ### chunk_signs -/
def N_chunk_signs : List Str := ["form", "chunk", "tag", "body", "signs"]
theorem sc_chunk_signs : FnScope N_chunk_signs ["form", "chunk"] (defScope (top 62)) := ⟨rfl, rfl, rfl, by decide +kernel, rfl, by decide +kernel, by decide +kernel⟩
def T_chunk_signs : Rho → Out Rho Flw := sqT (tgtT (tupG 2 (consG (setG 2) (consG (setG 3) (nilG)))) (varT 1)) (sqT (asgT 4 (tupT (consT (varT 2) (starT (callT [none, none] S_length_signs (consT (varT 0) (consT (callB lenD (consT (varT 3) (nilT))) (nilT)))) (starT (varT 3) (nilT)))))) (retT (ifT (isB (binT eqD (callT [none, none] S_use_at (consT (varT 0) (consT (varT 2) (nilT)))) (cT (.str ("check" : Str))))) (tupT (starT (varT 4) (consT (binT modD (callB intC (consT (callB sumD (consT (lstT (starT (varT 3) (nilT))) (nilT))) (nilT))) (binT idxD (varT 0) (cT (.int 0)))) (nilT)))) (varT 4))))
def S_chunk_signs : List D → Out (List D) D := runF [] 5 T_chunk_signs
theorem z_chunk_signs {P : Program} {w : World} {K : PySem.W.Frag} {mg : Str → Option Value} {base : Heap} (g : Gk K mg) (z_length_signs : FnZ P w K mg base "length_signs" 1 [none, none] none S_length_signs) (z_use_at : FnZ P w K mg base "use_at" 1 [none, none] none S_use_at) (hF : ∃ fd, Fun K "chunk_signs" "chunk_signs" (top 62) (He.ga K "chunk_signs") fd) (hm : mg "chunk_signs" = some (.ref (He.ga K "chunk_signs"))) : FnZ P w K mg base "chunk_signs" 2 [none, none] none S_chunk_signs := by
  obtain ⟨fd, F⟩ := hF
  refine FnZ.of F hm (ps := ["form", "chunk"]) (fun _ _ _ _ _ _ us hl => match us, hl with | [_, _], _ => rfl) ?_
  exact fnZ0 (k := 1) (rk := none) (N := N_chunk_signs) (ps := ["form", "chunk"]) (O' := [none, none, none, none, none]) (T := T_chunk_signs) 2 F sc_chunk_signs rfl (fun cdv A outer s H E b => by
    have nd := sc_chunk_signs.nd
    exact bx_cons (O1 := [none, none, none, none, none]) (sx_tgt (ex_var 1) (gx_tup b.calm (gxs_cons (gx_name 2 nd) (gxs_cons (gx_name 3 nd) (gxs_nil)))) (exOf_no (exOf_no (exOf_nil))))
      (bx_cons (O1 := [none, none, none, none, none]) (sx_set 4 nd (ex_tup (ax_cons (ex_var 2) (ax_star (ex_fn z_length_signs (b.room.mono (by decide)) b.tk (aj_cons (ex_var 0) (aj_cons (ex_callB call_lenZ (sem_rDN lenD_flat) g.f_len rfl (ax_cons (ex_var 3) (ax_nil))) (aj_nil)))) (ax_star (ex_var 3) (ax_nil))))) (exOf_no (exOf_no (exOf_nil))))
      (bx_one (sx_ret (ex_if (tx_cmp (op_eqZ b.hu) (sem_rD eqD_flat) (ex_fn z_use_at (b.room.mono (by decide)) b.tk (aj_cons (ex_var 0) (aj_cons (ex_var 2) (aj_nil)))) (ex_kon g.k_CHECK) (nomark _)) (ex_tup (ax_star (ex_var 4) (ax_cons (ex_op op_modZ (sem_rD intD_flat) (ex_callTy call_intZ (sem_rDN intC_flat) g.f_int rfl (ax_cons (ex_callB (call_sumZ b.calm) (sem_rDN sumD_flat) g.f_sum rfl (ax_cons (ex_of_fx (fx_lst (ax_star (ex_var 3) (ax_nil)))) (ax_nil))) (ax_nil))) (ex_ix (ex_var 0) (ex_int))) (ax_nil)))) (ex_var 4)) (exOf_no (exOf_no (exOf_nil))))))) (.inl rfl)
/-! ### written -/
def N_written : List Str := ["form", "content", "found", "chunk", "ends", "sign", "use", "mark"]
theorem sc_written : FnScope N_written ["form", "content"] (defScope (top 63)) := ⟨rfl, rfl, rfl, by decide +kernel, rfl, by decide +kernel, by decide +kernel⟩
def T_written : Rho → Out Rho Flw := sqT (asgT 2 (callB tupC (consT (lcT [7] (seqT (binT idxD (varT 0) (cT (.int 1)))) (setG 7) (yesT) (ifT (isB (binT isD (varT 7) (cT .none))) (cT (.int 0)) (varT 7))) (nilT)))) (sqT (forS (seqT (varT 1)) (setG 3) (asgT 2 (tupT (starT (varT 2) (starT (callT [none, none] S_chunk_signs (consT (varT 0) (consT (varT 3) (nilT)))) (nilT)))))) (sqT (asgT 4 (lcT [5, 6] (seqT (binT idxD (varT 0) (cT (.int 4)))) (tupG 2 (consG (setG 5) (consG (setG 6) (nilG)))) (isB (binT inD (varT 6) (tupT (consT (cT (.str ("end" : Str))) (consT (cT (.str ("stop" : Str))) (nilT)))))) (varT 5))) (retT (ifT (isB (binO 4 neD (lstT (nilT)))) (tupT (starT (varT 2) (consT (binO 4 idxD (cT (.int 0))) (nilT)))) (varT 2)))))
def S_written : List D → Out (List D) D := runF [] 8 T_written
theorem z_written {P : Program} {w : World} {K : PySem.W.Frag} {mg : Str → Option Value} {base : Heap} (g : Gk K mg) (z_chunk_signs : FnZ P w K mg base "chunk_signs" 2 [none, none] none S_chunk_signs) (hF : ∃ fd, Fun K "written" "written" (top 63) (He.ga K "written") fd) (hm : mg "written" = some (.ref (He.ga K "written"))) : FnZ P w K mg base "written" 3 [none, none] none S_written := by
  obtain ⟨fd, F⟩ := hF
  refine FnZ.of F hm (ps := ["form", "content"]) (fun _ _ _ _ _ _ us hl => match us, hl with | [_, _], _ => rfl) ?_
  exact fnZ0 (k := 2) (rk := none) (N := N_written) (ps := ["form", "content"]) (O' := [none, none, none, none, some .lst, none, none, none]) (T := T_written) 2 F sc_written rfl (fun cdv A outer s H E b => by
    have nd := sc_written.nd
    exact bx_cons (O1 := [none, none, none, none, none, none, none, none]) (sx_set 2 nd (ex_callTy call_tuple_of sem_tupC g.f_tuple rfl (ax_cons (ex_of_fx (fx_lc (own := [("mark", 7)]) b.calm nd (ix_seqZ (ex_ix (ex_var 0) (ex_int))) (blkOk_of (by kernel_rfl)) (none_cons rfl (fun _ h => nomatch h)) (fun _ _ _ _ _ => gx_name 7 nd) (fun _ _ _ _ _ => txs_nil) (fun _ _ _ _ _ => ex_if (tx_cmp (op_isZ) (sem_rD isD_flat) (ex_var 7) (ex_non) (nomark _)) (ex_int) (ex_var 7)))) (ax_nil))) (exOf_no (exOf_no (exOf_nil))))
      (bx_cons (O1 := [none, none, none, none, none, none, none, none]) (sx_for b.own b.calm (ix_seqZ (ex_var 1)) (gx_name 3 nd) (bx_one (sx_set 2 nd (ex_tup (ax_star (ex_var 2) (ax_star (ex_fn z_chunk_signs (b.room.mono (by decide)) b.tk (aj_cons (ex_var 0) (aj_cons (ex_var 3) (aj_nil)))) (ax_nil)))) (exOf_no (exOf_no (exOf_nil))))) (exOf_no (exOf_no (exOf_nil))))
      (bx_cons (O1 := [none, none, none, none, some .lst, none, none, none]) (sx_lc 4 (own := [("sign", 5), ("use", 6)]) b.calm nd (exOf_no (exOf_no (exOf_nil))) (ix_seqZ (ex_ix (ex_var 0) (ex_int))) (blkOk_of (by kernel_rfl)) (none_cons rfl (none_cons rfl (fun _ h => nomatch h))) (fun _ _ _ _ _ => gx_tup (by exact b.calm) (gxs_cons (gx_name 5 nd) (gxs_cons (gx_name 6 nd) (gxs_nil)))) (fun _ _ _ _ _ => txs_one (tx_cmp (op_inZ (by exact b.hu)) (sem_rD inD_flat) (ex_var 6) (ex_tup (ax_cons (ex_kon g.k_END) (ax_cons (ex_kon g.k_STOP) (ax_nil)))) (by with_unfolding_all rfl))) (fun _ _ _ _ _ => ex_var 5))
      (bx_one (sx_ret (ex_if (tx_cmpO 4 (op_neZ b.hu) neD_flat (ex_of_fx (fx_lst (ax_nil))) (nomark _)) (ex_tup (ax_star (ex_var 2) (ax_cons (ex_ixO 4 (ex_int)) (ax_nil)))) (ex_var 2)) (exOf_no (exOf_no (exOf_nil)))))))) (.inl rfl)
/-! ### write -/
def N_write : List Str := ["form", "content"]
theorem sc_write : FnScope N_write ["form", "content"] (defScope (top 69)) := ⟨rfl, rfl, rfl, by decide +kernel, rfl, by decide +kernel, by decide +kernel⟩
def T_write : Rho → Out Rho Flw := sqT (dropT (callT [none] S_check_format (consT (varT 0) (nilT)))) (sqT (dropT (callT [none, none] S_check_content (consT (varT 0) (consT (varT 1) (nilT))))) (retT (callT [none, none] S_written (consT (varT 0) (consT (varT 1) (nilT))))))
def S_write : List D → Out (List D) D := runF [] 2 T_write
theorem z_write {P : Program} {w : World} {K : PySem.W.Frag} {mg : Str → Option Value} {base : Heap} (g : Gk K mg) (z_check_content : FnZ P w K mg base "check_content" 6 [none, none] none S_check_content) (z_check_format : FnZ P w K mg base "check_format" 5 [none] none S_check_format) (z_written : FnZ P w K mg base "written" 3 [none, none] none S_written) (hF : ∃ fd, Fun K "write" "write" (top 69) (He.ga K "write") fd) (hm : mg "write" = some (.ref (He.ga K "write"))) : FnZ P w K mg base "write" 7 [none, none] none S_write := by
  obtain ⟨fd, F⟩ := hF
  refine FnZ.of F hm (ps := ["form", "content"]) (fun _ _ _ _ _ _ us hl => match us, hl with | [_, _], _ => rfl) ?_
  exact fnZ0 (k := 6) (rk := none) (N := N_write) (ps := ["form", "content"]) (O' := [none, none]) (T := T_write) 2 F sc_write rfl (fun cdv A outer s H E b => by
    have nd := sc_write.nd
    exact bx_cons (O1 := [none, none]) (sx_expr (ex_fn z_check_format (b.room.mono (by decide)) b.tk (aj_cons (ex_var 0) (aj_nil))) (exOf_no (exOf_no (exOf_nil))))
      (bx_cons (O1 := [none, none]) (sx_expr (ex_fn z_check_content (b.room.mono (by decide)) b.tk (aj_cons (ex_var 0) (aj_cons (ex_var 1) (aj_nil)))) (exOf_no (exOf_no (exOf_nil))))
      (bx_one (sx_ret (ex_fn z_written (b.room.mono (by decide)) b.tk (aj_cons (ex_var 0) (aj_cons (ex_var 1) (aj_nil)))) (exOf_no (exOf_no (exOf_nil))))))) (.inl rfl)
/-! ### _law_use -/
def N__law_use : List Str := ["form_here", "sign", "row"]
theorem sc__law_use : FnScope N__law_use ["form_here", "sign"] (defScope (top 80)) := ⟨rfl, rfl, rfl, by decide +kernel, rfl, by decide +kernel, by decide +kernel⟩
def T__law_use : Rho → Out Rho Flw := sqT (forS (seqT (binT idxD (varT 0) (cT (.int 4)))) (setG 2) (ifT (isB (binT eqD (binT idxD (varT 2) (cT (.int 0))) (varT 1))) (retT (binT idxD (varT 2) (cT (.int 1)))) (nxT))) (retT (ifT (isB (binT eqD (binT idxD (varT 0) (cT (.int 5))) (cT (.str ("skip" : Str))))) (cT (.str ("skip" : Str))) (cT (.str ("" : Str)))))
def S__law_use : List D → Out (List D) D := runF [] 3 T__law_use
theorem z__law_use {P : Program} {w : World} {K : PySem.W.Frag} {mg : Str → Option Value} {base : Heap} (g : Gk K mg) (hF : ∃ fd, Fun K "_law_use" "_law_use" (top 80) (He.ga K "_law_use") fd) (hm : mg "_law_use" = some (.ref (He.ga K "_law_use"))) : FnZ P w K mg base "_law_use" 1 [none, none] none S__law_use := by
  obtain ⟨fd, F⟩ := hF
  refine FnZ.of F hm (ps := ["form_here", "sign"]) (fun _ _ _ _ _ _ us hl => match us, hl with | [_, _], _ => rfl) ?_
  exact fnZ0 (k := 0) (rk := none) (N := N__law_use) (ps := ["form_here", "sign"]) (O' := [none, none, none]) (T := T__law_use) 2 F sc__law_use rfl (fun cdv A outer s H E b => by
    have nd := sc__law_use.nd
    exact bx_cons (O1 := [none, none, none]) (sx_for b.own b.calm (ix_seqZ (ex_ix (ex_var 0) (ex_int))) (gx_name 2 nd) (bx_one (sx_if (O' := [none, none, none]) (tx_cmp (op_eqZ b.hu) (sem_rD eqD_flat) (ex_ix (ex_var 2) (ex_int)) (ex_var 1) (nomark _)) (bx_one (sx_ret (ex_ix (ex_var 2) (ex_int)) (exOf_no (exOf_no (exOf_nil))))) (bx_nil) (exOf_no (exOf_no (exOf_nil))))) (exOf_no (exOf_no (exOf_nil))))
      (bx_one (sx_ret (ex_if (tx_cmp (op_eqZ b.hu) (sem_rD eqD_flat) (ex_ix (ex_var 0) (ex_int)) (ex_str) (nomark _)) (ex_str) (ex_str)) (exOf_no (exOf_no (exOf_nil)))))) (.inl rfl)
/-! ### _law_written -/
def N__law_written : List Str := ["bag", "form_here", "many_here", "base", "found", "ends", "k", "sign", "use_here", "worth", "body_here", "size", "row", "spot", "mark", "turn"]
theorem sc__law_written : FnScope N__law_written ["bag", "form_here", "many_here"] (defScope (top 84)) := ⟨rfl, rfl, rfl, by decide +kernel, rfl, by decide +kernel, by decide +kernel⟩
def T__law_written : Rho → Out Rho Flw := sqT (par2T 3 4 (consT (binT idxD (varT 1) (cT (.int 0))) (consT (lcT [14] (seqT (binT idxD (varT 1) (cT (.int 1)))) (setG 14) (yesT) (ifT (isB (binT isD (varT 14) (cT .none))) (callT [some 0, none] S__law_grab (ownT 0 (consT (binT idxD (varT 1) (cT (.int 0))) (nilT)))) (varT 14))) (nilT)))) (sqT (asgT 5 (lcT [12] (seqT (binT idxD (varT 1) (cT (.int 4)))) (setG 12) (isB (binT inD (binT idxD (varT 12) (cT (.int 1))) (tupT (consT (cT (.str ("end" : Str))) (consT (cT (.str ("stop" : Str))) (nilT)))))) (varT 12))) (sqT (forS (rngT rng1D (consT (callT [some 0, none] S__law_grab (ownT 0 (consT (binT addD (varT 2) (cT (.int 1))) (nilT)))) (nilT))) (setG 6) (sqT (asgT 7 (callT [some 0, none] S__law_grab (ownT 0 (consT (varT 3) (nilT))))) (sqT (asgT 8 (callT [none, none] S__law_use (consT (varT 1) (consT (varT 7) (nilT))))) (ifT (isB (binT inD (varT 8) (tupT (consT (cT (.str ("keep" : Str))) (consT (cT (.str ("check" : Str))) (consT (cT (.str ("skip" : Str))) (nilT))))))) (sqT (asgT 9 (callT [some 0, none] S__law_grab (ownT 0 (consT (binT addD (callB minD (consT (binT idxD (varT 1) (cT (.int 3))) (consT (binT idxD (lstT (consT (cT (.int 2)) (consT (cT (.int 6)) (consT (cT (.int 150)) (nilT))))) (callT [some 0, none] S__law_grab (ownT 0 (consT (cT (.int 3)) (nilT))))) (nilT)))) (cT (.int 1))) (nilT))))) (sqT (asgT 9 (ifT (isB (binT eqD (binT idxD (varT 1) (cT (.int 2))) (cT (.str ("one" : Str))))) (callB minD (consT (varT 9) (consT (binT subD (varT 3) (cT (.int 1))) (nilT)))) (callB minD (consT (varT 9) (consT (binT subD (binT mulD (varT 3) (varT 3)) (cT (.int 1))) (nilT)))))) (sqT (asgT 10 (lcT [15] (rngT rng1D (consT (varT 9) (nilT))) (setG 15) (yesT) (callT [some 0, none] S__law_grab (ownT 0 (consT (varT 3) (nilT)))))) (sqT (asgT 11 (ifT (isB (binT eqD (binT idxD (varT 1) (cT (.int 2))) (cT (.str ("high" : Str))))) (lstT (consT (binT fdivD (varT 9) (varT 3)) (consT (binT modD (callB intC (consT (varT 9) (nilT))) (varT 3)) (nilT)))) (lstT (consT (binT modD (callB intC (consT (varT 9) (nilT))) (varT 3)) (consT (binT fdivD (varT 9) (varT 3)) (nilT)))))) (sqT (asgT 4 (binT catLD (binT addD (binT addD (varT 4) (lstT (consT (varT 7) (nilT)))) (ifT (isB (binT eqD (binT idxD (varT 1) (cT (.int 2))) (cT (.str ("one" : Str))))) (lstT (consT (varT 9) (nilT))) (varT 11))) (varT 10))) (ifT (isB (binT eqD (varT 8) (cT (.str ("check" : Str))))) (appT 4 (binT modD (callB intC (consT (callB sumD (consT (varT 10) (nilT))) (nilT))) (varT 3))) (nxT))))))) (nxT))))) (sqT (ifT (isB (binO 5 neD (lstT (nilT)))) (sqT (asgT 12 (binO 5 idxD (callT [some 0, none] S__law_grab (ownT 0 (consT (callO 5 lenD) (nilT)))))) (sqT (appT 4 (binT idxD (varT 12) (cT (.int 0)))) (ifT (isB (binT eqD (binT idxD (varT 12) (cT (.int 1))) (cT (.str ("end" : Str))))) (asgT 4 (binT catLD (varT 4) (lcT [15] (rngT rng1D (consT (callT [some 0, none] S__law_grab (ownT 0 (consT (cT (.int 4)) (nilT)))) (nilT))) (setG 15) (yesT) (callT [some 0, none] S__law_grab (ownT 0 (consT (varT 3) (nilT))))))) (nxT)))) (nxT)) (sqT (ifT (andT (isB (binT eqD (callT [some 0, none] S__law_grab (ownT 0 (consT (cT (.int 4)) (nilT)))) (cT (.int 0)))) (isB (binO 4 neD (lstT (nilT))))) (sqT (asgT 13 (callT [some 0, none] S__law_grab (ownT 0 (consT (callO 4 lenD) (nilT))))) (asgT 4 (binT catLD (binT addD (slcT (varT 4) (noP) (someP (varT 13))) (lstT (consT (callT [some 0, none] S__law_grab (ownT 0 (consT (varT 3) (nilT)))) (nilT)))) (slcT (varT 4) (someP (binT addD (varT 13) (callT [some 0, none] S__law_grab (ownT 0 (consT (cT (.int 2)) (nilT)))))) (noP))))) (nxT)) (retT (callO 4 tupC))))))
def S__law_written : List D → Out (List D) D := runF [0] 16 T__law_written
theorem z__law_written {P : Program} {w : World} {K : PySem.W.Frag} {mg : Str → Option Value} {base : Heap} (g : Gk K mg) (z__law_grab : FnZ P w K mg base "_law_grab" 1 [some .lst, none] none S__law_grab) (z__law_use : FnZ P w K mg base "_law_use" 1 [none, none] none S__law_use) (hF : ∃ fd, Fun K "_law_written" "_law_written" (top 84) (He.ga K "_law_written") fd) (hm : mg "_law_written" = some (.ref (He.ga K "_law_written"))) : FnZ P w K mg base "_law_written" 2 [some .lst, none, none] none S__law_written := by
  obtain ⟨fd, F⟩ := hF
  refine FnZ.of F hm (ps := ["bag", "form_here", "many_here"]) (fun _ _ _ _ _ _ us hl => match us, hl with | [_, _, _], _ => rfl) ?_
  exact fnZ1 (k := 1) (rk := none) (N := N__law_written) (ps := ["bag", "form_here", "many_here"]) (O' := [some .lst, none, none, none, some .lst, some .lst, none, none, none, none, none, none, none, none, none, none]) (T := T__law_written) .lst 2 F sc__law_written rfl (fun cdv A outer s H E a b => by
    have nd := sc__law_written.nd
    exact bx_cons (O1 := [some .lst, none, none, none, some .lst, none, none, none, none, none, none, none, none, none, none, none]) (sx_parL 3 4 (k := none) (l := (some .lst)) b.calm nd (af_cons (ex_ix (ex_var 1) (ex_int)) (af_new (fx_lc (own := [("mark", 14)]) b.calm nd (ix_seqZ (ex_ix (ex_var 1) (ex_int))) (blkOk_of (by kernel_rfl)) (none_cons rfl (fun _ h => nomatch h)) (fun _ _ _ _ _ => gx_name 14 nd) (fun _ _ _ _ _ => txs_nil) (fun _ _ _ _ _ => ex_if (tx_cmp (op_isZ) (sem_rD isD_flat) (ex_var 14) (ex_non) (nomark _)) (ex_fn z__law_grab (by exact b.room.mono (by decide)) takes0 (aj_own 0 (aj_cons (ex_ix (ex_var 1) (ex_int)) (aj_nil)))) (ex_var 14))) (af_nil))) (exOf_yes (exOf_no (exOf_no (exOf_nil)))))
      (bx_cons (O1 := [some .lst, none, none, none, some .lst, some .lst, none, none, none, none, none, none, none, none, none, none]) (sx_lc 5 (own := [("row", 12)]) b.calm nd (exOf_yes (exOf_no (exOf_no (exOf_nil)))) (ix_seqZ (ex_ix (ex_var 1) (ex_int))) (blkOk_of (by kernel_rfl)) (none_cons rfl (fun _ h => nomatch h)) (fun _ _ _ _ _ => gx_name 12 nd) (fun _ _ _ _ _ => txs_one (tx_cmp (op_inZ (by exact b.hu)) (sem_rD inD_flat) (ex_ix (ex_var 12) (ex_int)) (ex_tup (ax_cons (ex_str) (ax_cons (ex_str) (ax_nil)))) (by with_unfolding_all rfl))) (fun _ _ _ _ _ => ex_var 12))
      (bx_cons (O1 := [some .lst, none, none, none, some .lst, some .lst, none, none, none, none, none, none, none, none, none, none]) (sx_for b.own b.calm (ix_rng1 g.f_range (ax_cons (ex_fn z__law_grab (b.room.mono (by decide)) b.tk (aj_own 0 (aj_cons (ex_op op_addZ (sem_add) (ex_var 2) (ex_int)) (aj_nil)))) (ax_nil))) (gx_name 6 nd) (bx_cons (O1 := [some .lst, none, none, none, some .lst, some .lst, none, none, none, none, none, none, none, none, none, none]) (sx_set 7 nd (ex_fn z__law_grab (b.room.mono (by decide)) b.tk (aj_own 0 (aj_cons (ex_var 3) (aj_nil)))) (exOf_yes (exOf_no (exOf_no (exOf_nil)))))
      (bx_cons (O1 := [some .lst, none, none, none, some .lst, some .lst, none, none, none, none, none, none, none, none, none, none]) (sx_set 8 nd (ex_fn z__law_use (b.room.mono (by decide)) b.tk (aj_cons (ex_var 1) (aj_cons (ex_var 7) (aj_nil)))) (exOf_yes (exOf_no (exOf_no (exOf_nil)))))
      (bx_one (sx_if (O' := [some .lst, none, none, none, some .lst, some .lst, none, none, none, none, none, none, none, none, none, none]) (tx_cmp (op_inZ b.hu) (sem_rD inD_flat) (ex_var 8) (ex_tup (ax_cons (ex_str) (ax_cons (ex_str) (ax_cons (ex_str) (ax_nil))))) (by with_unfolding_all rfl)) (bx_cons (O1 := [some .lst, none, none, none, some .lst, some .lst, none, none, none, none, none, none, none, none, none, none]) (sx_set 9 nd (ex_fn z__law_grab (b.room.mono (by decide)) b.tk (aj_own 0 (aj_cons (ex_op op_addZ (sem_add) (ex_callB (call_minZ b.calm) (sem_rDN minD_flat) g.f_min rfl (ax_cons (ex_ix (ex_var 1) (ex_int)) (ax_cons (ex_ix (ex_of_fx (fx_lst (ax_cons (ex_int) (ax_cons (ex_int) (ax_cons (ex_int) (ax_nil)))))) (ex_fn z__law_grab (b.room.mono (by decide)) b.tk (aj_own 0 (aj_cons (ex_int) (aj_nil))))) (ax_nil)))) (ex_int)) (aj_nil)))) (exOf_yes (exOf_no (exOf_no (exOf_nil)))))
      (bx_cons (O1 := [some .lst, none, none, none, some .lst, some .lst, none, none, none, none, none, none, none, none, none, none]) (sx_set 9 nd (ex_if (tx_cmp (op_eqZ b.hu) (sem_rD eqD_flat) (ex_ix (ex_var 1) (ex_int)) (ex_str) (nomark _)) (ex_callB (call_minZ b.calm) (sem_rDN minD_flat) g.f_min rfl (ax_cons (ex_var 9) (ax_cons (ex_op op_subZ (sem_rD intD_flat) (ex_var 3) (ex_int)) (ax_nil)))) (ex_callB (call_minZ b.calm) (sem_rDN minD_flat) g.f_min rfl (ax_cons (ex_var 9) (ax_cons (ex_op op_subZ (sem_rD intD_flat) (ex_op op_mulZ (sem_rD intD_flat) (ex_var 3) (ex_var 3)) (ex_int)) (ax_nil))))) (exOf_yes (exOf_no (exOf_no (exOf_nil)))))
      (bx_cons (O1 := [some .lst, none, none, none, some .lst, some .lst, none, none, none, none, some .lst, none, none, none, none, none]) (sx_lc 10 (own := [("turn", 15)]) b.calm nd (exOf_yes (exOf_no (exOf_no (exOf_nil)))) (ix_rng1 g.f_range (ax_cons (ex_var 9) (ax_nil))) (blkOk_of (by kernel_rfl)) (none_cons rfl (fun _ h => nomatch h)) (fun _ _ _ _ _ => gx_name 15 nd) (fun _ _ _ _ _ => txs_nil) (fun _ _ _ _ _ => ex_fn z__law_grab (by exact b.room.mono (by decide)) takes0 (aj_own 0 (aj_cons (ex_var 3) (aj_nil)))))
      (bx_cons (O1 := [some .lst, none, none, none, some .lst, some .lst, none, none, none, none, some .lst, none, none, none, none, none]) (sx_set 11 nd (ex_if (tx_cmp (op_eqZ b.hu) (sem_rD eqD_flat) (ex_ix (ex_var 1) (ex_int)) (ex_str) (nomark _)) (ex_of_fx (fx_lst (ax_cons (ex_op op_fdivZ (sem_rD intD_flat) (ex_var 9) (ex_var 3)) (ax_cons (ex_op op_modZ (sem_rD intD_flat) (ex_callTy call_intZ (sem_rDN intC_flat) g.f_int rfl (ax_cons (ex_var 9) (ax_nil))) (ex_var 3)) (ax_nil))))) (ex_of_fx (fx_lst (ax_cons (ex_op op_modZ (sem_rD intD_flat) (ex_callTy call_intZ (sem_rDN intC_flat) g.f_int rfl (ax_cons (ex_var 9) (ax_nil))) (ex_var 3)) (ax_cons (ex_op op_fdivZ (sem_rD intD_flat) (ex_var 9) (ex_var 3)) (ax_nil)))))) (exOf_yes (exOf_no (exOf_no (exOf_nil)))))
      (bx_cons (O1 := [some .lst, none, none, none, some .lst, some .lst, none, none, none, none, none, none, none, none, none, none]) (sx_freeze 10 (O1 := [some .lst, none, none, none, some .lst, some .lst, none, none, none, none, none, none, none, none, none, none]) (sx_freeze 4 (O1 := [some .lst, none, none, none, none, some .lst, none, none, none, none, none, none, none, none, none, none]) (sx_own 4 nd (fx_cat (ex_op op_addZ (sem_add) (ex_op op_addZ (sem_add) (ex_var 4) (ex_of_fx (fx_lst (ax_cons (ex_var 7) (ax_nil))))) (ex_if (tx_cmp (op_eqZ b.hu) (sem_rD eqD_flat) (ex_ix (ex_var 1) (ex_int)) (ex_str) (nomark _)) (ex_of_fx (fx_lst (ax_cons (ex_var 9) (ax_nil)))) (ex_var 11))) (ex_var 10)) (exOf_yes (exOf_no (exOf_no (exOf_nil)))))))
      (bx_one (sx_if (O' := [some .lst, none, none, none, some .lst, some .lst, none, none, none, none, none, none, none, none, none, none]) (tx_cmp (op_eqZ b.hu) (sem_rD eqD_flat) (ex_var 8) (ex_str) (nomark _)) (bx_one (sx_append 4 (ex_op op_modZ (sem_rD intD_flat) (ex_callTy call_intZ (sem_rDN intC_flat) g.f_int rfl (ax_cons (ex_callB (call_sumZ b.calm) (sem_rDN sumD_flat) g.f_sum rfl (ax_cons (ex_var 10) (ax_nil))) (ax_nil))) (ex_var 3)) (exOf_yes (exOf_no (exOf_no (exOf_nil)))))) (bx_nil) (exOf_yes (exOf_no (exOf_no (exOf_nil))))))))))) (bx_nil) (exOf_yes (exOf_no (exOf_no (exOf_nil)))))))) (exOf_yes (exOf_no (exOf_no (exOf_nil)))))
      (bx_cons (O1 := [some .lst, none, none, none, some .lst, some .lst, none, none, none, none, none, none, none, none, none, none]) (sx_if (O' := [some .lst, none, none, none, some .lst, some .lst, none, none, none, none, none, none, none, none, none, none]) (tx_cmpO 5 (op_neZ b.hu) neD_flat (ex_of_fx (fx_lst (ax_nil))) (nomark _)) (bx_cons (O1 := [some .lst, none, none, none, some .lst, some .lst, none, none, none, none, none, none, none, none, none, none]) (sx_set 12 nd (ex_ixO 5 (ex_fn z__law_grab (b.room.mono (by decide)) b.tk (aj_own 0 (aj_cons (ex_callO 5 call_lenZ (own_rDN lenD_flat) g.f_len rfl (ax_own1 5)) (aj_nil))))) (exOf_yes (exOf_no (exOf_no (exOf_nil)))))
      (bx_cons (O1 := [some .lst, none, none, none, some .lst, some .lst, none, none, none, none, none, none, none, none, none, none]) (sx_append 4 (ex_ix (ex_var 12) (ex_int)) (exOf_yes (exOf_no (exOf_no (exOf_nil)))))
      (bx_one (sx_if (O' := [some .lst, none, none, none, some .lst, some .lst, none, none, none, none, none, none, none, none, none, none]) (tx_cmp (op_eqZ b.hu) (sem_rD eqD_flat) (ex_ix (ex_var 12) (ex_int)) (ex_str) (nomark _)) (bx_one (sx_freeze 4 (O1 := [some .lst, none, none, none, none, some .lst, none, none, none, none, none, none, none, none, none, none]) (sx_own 4 nd (fx_cat (ex_var 4) (ex_of_fx (fx_lc (own := [("turn", 15)]) b.calm nd (ix_rng1 g.f_range (ax_cons (ex_fn z__law_grab (b.room.mono (by decide)) b.tk (aj_own 0 (aj_cons (ex_int) (aj_nil)))) (ax_nil))) (blkOk_of (by kernel_rfl)) (none_cons rfl (fun _ h => nomatch h)) (fun _ _ _ _ _ => gx_name 15 nd) (fun _ _ _ _ _ => txs_nil) (fun _ _ _ _ _ => ex_fn z__law_grab (by exact b.room.mono (by decide)) takes0 (aj_own 0 (aj_cons (ex_var 3) (aj_nil))))))) (exOf_yes (exOf_no (exOf_no (exOf_nil))))))) (bx_nil) (exOf_yes (exOf_no (exOf_no (exOf_nil)))))))) (bx_nil) (exOf_yes (exOf_no (exOf_no (exOf_nil)))))
      (bx_cons (O1 := [some .lst, none, none, none, some .lst, some .lst, none, none, none, none, none, none, none, none, none, none]) (sx_if (O' := [some .lst, none, none, none, some .lst, some .lst, none, none, none, none, none, none, none, none, none, none]) (tx_pw (wx_and (tx_cmp (op_eqZ b.hu) (sem_rD eqD_flat) (ex_fn z__law_grab (b.room.mono (by decide)) b.tk (aj_own 0 (aj_cons (ex_int) (aj_nil)))) (ex_int) (nomark _)) (wx_and1 (tx_cmpO 4 (op_neZ b.hu) neD_flat (ex_of_fx (fx_lst (ax_nil))) (nomark _))))) (bx_cons (O1 := [some .lst, none, none, none, some .lst, some .lst, none, none, none, none, none, none, none, none, none, none]) (sx_set 13 nd (ex_fn z__law_grab (b.room.mono (by decide)) b.tk (aj_own 0 (aj_cons (ex_callO 4 call_lenZ (own_rDN lenD_flat) g.f_len rfl (ax_own1 4)) (aj_nil)))) (exOf_yes (exOf_no (exOf_no (exOf_nil)))))
      (bx_one (sx_freeze 4 (O1 := [some .lst, none, none, none, none, some .lst, none, none, none, none, none, none, none, none, none, none]) (sx_own 4 nd (fx_cat (ex_op op_addZ (sem_add) (ex_slice (ex_var 4) (px_none) (px_some (ex_var 13))) (ex_of_fx (fx_lst (ax_cons (ex_fn z__law_grab (b.room.mono (by decide)) b.tk (aj_own 0 (aj_cons (ex_var 3) (aj_nil)))) (ax_nil))))) (ex_slice (ex_var 4) (px_some (ex_op op_addZ (sem_add) (ex_var 13) (ex_fn z__law_grab (b.room.mono (by decide)) b.tk (aj_own 0 (aj_cons (ex_int) (aj_nil)))))) (px_none))) (exOf_yes (exOf_no (exOf_no (exOf_nil)))))))) (bx_nil) (exOf_yes (exOf_no (exOf_no (exOf_nil)))))
      (bx_one (sx_ret (ex_callTyO 4 call_tuple_of own_tupC g.f_tuple rfl (ax_own1 4)) (exOf_yes (exOf_no (exOf_no (exOf_nil))))))))))) (.inl rfl) (exOf_yes (exOf_no (exOf_no (exOf_nil))))
/-! ### _law_long -/
def N__law_long : List Str := ["form_here", "signs_here", "at", "base", "wide", "top", "first", "second", "worth"]
theorem sc__law_long : FnScope N__law_long ["form_here", "signs_here", "at"] (defScope (top 81)) := ⟨rfl, rfl, rfl, by decide +kernel, rfl, by decide +kernel, by decide +kernel⟩
def T__law_long : Rho → Out Rho Flw := sqT (par3T 3 4 5 (consT (binT idxD (varT 0) (cT (.int 0))) (consT (binT idxD (varT 0) (cT (.int 2))) (consT (binT idxD (varT 0) (cT (.int 3))) (nilT))))) (sqT (ifT (isB (binT geD (varT 2) (callB lenD (consT (varT 1) (nilT))))) (retT (tupT (consT (cT .none) (consT (tupT (consT (callB lenD (consT (varT 1) (nilT))) (consT (cT (.str ("short" : Str))) (nilT)))) (nilT))))) (nxT)) (sqT (asgT 6 (binT idxD (varT 1) (varT 2))) (sqT (ifT (isB (binT eqD (varT 4) (cT (.str ("one" : Str))))) (retT (ifT (isB (binT leD (varT 6) (varT 5))) (tupT (consT (varT 6) (consT (binT addD (varT 2) (cT (.int 1))) (nilT)))) (tupT (consT (cT .none) (consT (tupT (consT (varT 2) (consT (cT (.str ("length" : Str))) (nilT)))) (nilT)))))) (nxT)) (sqT (ifT (isB (binT gtD (ifT (isB (binT eqD (varT 4) (cT (.str ("high" : Str))))) (binT mulD (varT 6) (varT 3)) (varT 6)) (varT 5))) (retT (tupT (consT (cT .none) (consT (tupT (consT (varT 2) (consT (cT (.str ("length" : Str))) (nilT)))) (nilT))))) (nxT)) (sqT (ifT (isB (binT geD (binT addD (varT 2) (cT (.int 1))) (callB lenD (consT (varT 1) (nilT))))) (retT (tupT (consT (cT .none) (consT (tupT (consT (callB lenD (consT (varT 1) (nilT))) (consT (cT (.str ("short" : Str))) (nilT)))) (nilT))))) (nxT)) (sqT (asgT 7 (binT idxD (varT 1) (binT addD (varT 2) (cT (.int 1))))) (sqT (asgT 8 (ifT (isB (binT eqD (varT 4) (cT (.str ("high" : Str))))) (binT addD (binT mulD (varT 6) (varT 3)) (varT 7)) (binT addD (binT mulD (varT 7) (varT 3)) (varT 6)))) (retT (ifT (isB (binT leD (varT 8) (varT 5))) (tupT (consT (varT 8) (consT (binT addD (varT 2) (cT (.int 2))) (nilT)))) (tupT (consT (cT .none) (consT (tupT (consT (binT addD (varT 2) (cT (.int 1))) (consT (cT (.str ("length" : Str))) (nilT)))) (nilT)))))))))))))
def S__law_long : List D → Out (List D) D := runF [] 9 T__law_long
theorem z__law_long {P : Program} {w : World} {K : PySem.W.Frag} {mg : Str → Option Value} {base : Heap} (g : Gk K mg) (hF : ∃ fd, Fun K "_law_long" "_law_long" (top 81) (He.ga K "_law_long") fd) (hm : mg "_law_long" = some (.ref (He.ga K "_law_long"))) : FnZ P w K mg base "_law_long" 1 [none, none, none] none S__law_long := by
  obtain ⟨fd, F⟩ := hF
  refine FnZ.of F hm (ps := ["form_here", "signs_here", "at"]) (fun _ _ _ _ _ _ us hl => match us, hl with | [_, _, _], _ => rfl) ?_
  exact fnZ0 (k := 0) (rk := none) (N := N__law_long) (ps := ["form_here", "signs_here", "at"]) (O' := [none, none, none, none, none, none, none, none, none]) (T := T__law_long) 3 F sc__law_long rfl (fun cdv A outer s H E b => by
    have nd := sc__law_long.nd
    exact bx_cons (O1 := [none, none, none, none, none, none, none, none, none]) (sx_par3 3 4 5 b.calm nd (ax_cons (ex_ix (ex_var 0) (ex_int)) (ax_cons (ex_ix (ex_var 0) (ex_int)) (ax_cons (ex_ix (ex_var 0) (ex_int)) (ax_nil)))) (exOf_no (exOf_no (exOf_no (exOf_nil)))) (by rfl))
      (bx_cons (O1 := [none, none, none, none, none, none, none, none, none]) (sx_if (O' := [none, none, none, none, none, none, none, none, none]) (tx_cmp (op_geZ b.hu) (sem_rD ordD_flat) (ex_var 2) (ex_callB call_lenZ (sem_rDN lenD_flat) g.f_len rfl (ax_cons (ex_var 1) (ax_nil))) (nomark _)) (bx_one (sx_ret (ex_tup (ax_cons (ex_non) (ax_cons (ex_tup (ax_cons (ex_callB call_lenZ (sem_rDN lenD_flat) g.f_len rfl (ax_cons (ex_var 1) (ax_nil))) (ax_cons (ex_str) (ax_nil)))) (ax_nil)))) (exOf_no (exOf_no (exOf_no (exOf_nil)))))) (bx_nil) (exOf_no (exOf_no (exOf_no (exOf_nil)))))
      (bx_cons (O1 := [none, none, none, none, none, none, none, none, none]) (sx_set 6 nd (ex_ix (ex_var 1) (ex_var 2)) (exOf_no (exOf_no (exOf_no (exOf_nil)))))
      (bx_cons (O1 := [none, none, none, none, none, none, none, none, none]) (sx_if (O' := [none, none, none, none, none, none, none, none, none]) (tx_cmp (op_eqZ b.hu) (sem_rD eqD_flat) (ex_var 4) (ex_str) (nomark _)) (bx_one (sx_ret (ex_if (tx_cmp (op_leZ b.hu) (sem_rD ordD_flat) (ex_var 6) (ex_var 5) (nomark _)) (ex_tup (ax_cons (ex_var 6) (ax_cons (ex_op op_addZ (sem_add) (ex_var 2) (ex_int)) (ax_nil)))) (ex_tup (ax_cons (ex_non) (ax_cons (ex_tup (ax_cons (ex_var 2) (ax_cons (ex_str) (ax_nil)))) (ax_nil))))) (exOf_no (exOf_no (exOf_no (exOf_nil)))))) (bx_nil) (exOf_no (exOf_no (exOf_no (exOf_nil)))))
      (bx_cons (O1 := [none, none, none, none, none, none, none, none, none]) (sx_if (O' := [none, none, none, none, none, none, none, none, none]) (tx_cmp (op_gtZ b.hu) (sem_rD ordD_flat) (ex_if (tx_cmp (op_eqZ b.hu) (sem_rD eqD_flat) (ex_var 4) (ex_str) (nomark _)) (ex_op op_mulZ (sem_rD intD_flat) (ex_var 6) (ex_var 3)) (ex_var 6)) (ex_var 5) (nomark _)) (bx_one (sx_ret (ex_tup (ax_cons (ex_non) (ax_cons (ex_tup (ax_cons (ex_var 2) (ax_cons (ex_str) (ax_nil)))) (ax_nil)))) (exOf_no (exOf_no (exOf_no (exOf_nil)))))) (bx_nil) (exOf_no (exOf_no (exOf_no (exOf_nil)))))
      (bx_cons (O1 := [none, none, none, none, none, none, none, none, none]) (sx_if (O' := [none, none, none, none, none, none, none, none, none]) (tx_cmp (op_geZ b.hu) (sem_rD ordD_flat) (ex_op op_addZ (sem_add) (ex_var 2) (ex_int)) (ex_callB call_lenZ (sem_rDN lenD_flat) g.f_len rfl (ax_cons (ex_var 1) (ax_nil))) (nomark _)) (bx_one (sx_ret (ex_tup (ax_cons (ex_non) (ax_cons (ex_tup (ax_cons (ex_callB call_lenZ (sem_rDN lenD_flat) g.f_len rfl (ax_cons (ex_var 1) (ax_nil))) (ax_cons (ex_str) (ax_nil)))) (ax_nil)))) (exOf_no (exOf_no (exOf_no (exOf_nil)))))) (bx_nil) (exOf_no (exOf_no (exOf_no (exOf_nil)))))
      (bx_cons (O1 := [none, none, none, none, none, none, none, none, none]) (sx_set 7 nd (ex_ix (ex_var 1) (ex_op op_addZ (sem_add) (ex_var 2) (ex_int))) (exOf_no (exOf_no (exOf_no (exOf_nil)))))
      (bx_cons (O1 := [none, none, none, none, none, none, none, none, none]) (sx_set 8 nd (ex_if (tx_cmp (op_eqZ b.hu) (sem_rD eqD_flat) (ex_var 4) (ex_str) (nomark _)) (ex_op op_addZ (sem_add) (ex_op op_mulZ (sem_rD intD_flat) (ex_var 6) (ex_var 3)) (ex_var 7)) (ex_op op_addZ (sem_add) (ex_op op_mulZ (sem_rD intD_flat) (ex_var 7) (ex_var 3)) (ex_var 6))) (exOf_no (exOf_no (exOf_no (exOf_nil)))))
      (bx_one (sx_ret (ex_if (tx_cmp (op_leZ b.hu) (sem_rD ordD_flat) (ex_var 8) (ex_var 5) (nomark _)) (ex_tup (ax_cons (ex_var 8) (ax_cons (ex_op op_addZ (sem_add) (ex_var 2) (ex_int)) (ax_nil)))) (ex_tup (ax_cons (ex_non) (ax_cons (ex_tup (ax_cons (ex_op op_addZ (sem_add) (ex_var 2) (ex_int)) (ax_cons (ex_str) (ax_nil)))) (ax_nil))))) (exOf_no (exOf_no (exOf_no (exOf_nil)))))))))))))) (.inl rfl)
/-! ### _law_chunk -/
def N__law_chunk : List Str := ["form_here", "signs_here", "at", "use_here", "worth", "body_here", "good"]
theorem sc__law_chunk : FnScope N__law_chunk ["form_here", "signs_here", "at", "use_here"] (defScope (top 82)) := ⟨rfl, rfl, rfl, by decide +kernel, rfl, by decide +kernel, by decide +kernel⟩
def T__law_chunk : Rho → Out Rho Flw := sqT (tgtT (tupG 2 (consG (setG 4) (consG (setG 2) (nilG)))) (callT [none, none, none] S__law_long (consT (varT 0) (consT (varT 1) (consT (varT 2) (nilT)))))) (sqT (ifT (isB (binT isD (varT 4) (cT .none))) (retT (tupT (consT (cT .none) (consT (varT 2) (nilT))))) (nxT)) (sqT (ifT (isB (binT gtD (binT addD (varT 2) (varT 4)) (callB lenD (consT (varT 1) (nilT))))) (retT (tupT (consT (cT .none) (consT (tupT (consT (callB lenD (consT (varT 1) (nilT))) (consT (cT (.str ("short" : Str))) (nilT)))) (nilT))))) (nxT)) (sqT (asgT 5 (slcT (varT 1) (someP (varT 2)) (someP (binT addD (varT 2) (varT 4))))) (sqT (asgT 2 (binT addD (varT 2) (varT 4))) (sqT (ifT (isB (binT neD (varT 3) (cT (.str ("check" : Str))))) (retT (tupT (consT (varT 5) (consT (varT 2) (nilT))))) (nxT)) (sqT (ifT (isB (binT geD (varT 2) (callB lenD (consT (varT 1) (nilT))))) (retT (tupT (consT (cT .none) (consT (tupT (consT (callB lenD (consT (varT 1) (nilT))) (consT (cT (.str ("short" : Str))) (nilT)))) (nilT))))) (nxT)) (sqT (asgT 6 (binT eqD (binT idxD (varT 1) (varT 2)) (binT modD (callB intC (consT (callB sumD (consT (varT 5) (nilT))) (nilT))) (binT idxD (varT 0) (cT (.int 0)))))) (retT (ifT (isB (varT 6)) (tupT (consT (varT 5) (consT (binT addD (varT 2) (cT (.int 1))) (nilT)))) (tupT (consT (cT .none) (consT (tupT (consT (varT 2) (consT (cT (.str ("check" : Str))) (nilT)))) (nilT)))))))))))))
def S__law_chunk : List D → Out (List D) D := runF [] 7 T__law_chunk
theorem z__law_chunk {P : Program} {w : World} {K : PySem.W.Frag} {mg : Str → Option Value} {base : Heap} (g : Gk K mg) (z__law_long : FnZ P w K mg base "_law_long" 1 [none, none, none] none S__law_long) (hF : ∃ fd, Fun K "_law_chunk" "_law_chunk" (top 82) (He.ga K "_law_chunk") fd) (hm : mg "_law_chunk" = some (.ref (He.ga K "_law_chunk"))) : FnZ P w K mg base "_law_chunk" 2 [none, none, none, none] none S__law_chunk := by
  obtain ⟨fd, F⟩ := hF
  refine FnZ.of F hm (ps := ["form_here", "signs_here", "at", "use_here"]) (fun _ _ _ _ _ _ us hl => match us, hl with | [_, _, _, _], _ => rfl) ?_
  exact fnZ0 (k := 1) (rk := none) (N := N__law_chunk) (ps := ["form_here", "signs_here", "at", "use_here"]) (O' := [none, none, none, none, none, none, none]) (T := T__law_chunk) 4 F sc__law_chunk rfl (fun cdv A outer s H E b => by
    have nd := sc__law_chunk.nd
    exact bx_cons (O1 := [none, none, none, none, none, none, none]) (sx_tgt (ex_fn z__law_long (b.room.mono (by decide)) b.tk (aj_cons (ex_var 0) (aj_cons (ex_var 1) (aj_cons (ex_var 2) (aj_nil))))) (gx_tup b.calm (gxs_cons (gx_name 4 nd) (gxs_cons (gx_name 2 nd) (gxs_nil)))) (exOf_no (exOf_no (exOf_no (exOf_no (exOf_nil))))))
      (bx_cons (O1 := [none, none, none, none, none, none, none]) (sx_if (O' := [none, none, none, none, none, none, none]) (tx_cmp (op_isZ) (sem_rD isD_flat) (ex_var 4) (ex_non) (nomark _)) (bx_one (sx_ret (ex_tup (ax_cons (ex_non) (ax_cons (ex_var 2) (ax_nil)))) (exOf_no (exOf_no (exOf_no (exOf_no (exOf_nil))))))) (bx_nil) (exOf_no (exOf_no (exOf_no (exOf_no (exOf_nil))))))
      (bx_cons (O1 := [none, none, none, none, none, none, none]) (sx_if (O' := [none, none, none, none, none, none, none]) (tx_cmp (op_gtZ b.hu) (sem_rD ordD_flat) (ex_op op_addZ (sem_add) (ex_var 2) (ex_var 4)) (ex_callB call_lenZ (sem_rDN lenD_flat) g.f_len rfl (ax_cons (ex_var 1) (ax_nil))) (nomark _)) (bx_one (sx_ret (ex_tup (ax_cons (ex_non) (ax_cons (ex_tup (ax_cons (ex_callB call_lenZ (sem_rDN lenD_flat) g.f_len rfl (ax_cons (ex_var 1) (ax_nil))) (ax_cons (ex_str) (ax_nil)))) (ax_nil)))) (exOf_no (exOf_no (exOf_no (exOf_no (exOf_nil))))))) (bx_nil) (exOf_no (exOf_no (exOf_no (exOf_no (exOf_nil))))))
      (bx_cons (O1 := [none, none, none, none, none, none, none]) (sx_set 5 nd (ex_slice (ex_var 1) (px_some (ex_var 2)) (px_some (ex_op op_addZ (sem_add) (ex_var 2) (ex_var 4)))) (exOf_no (exOf_no (exOf_no (exOf_no (exOf_nil))))))
      (bx_cons (O1 := [none, none, none, none, none, none, none]) (sx_set 2 nd (ex_op op_addZ (sem_add) (ex_var 2) (ex_var 4)) (exOf_no (exOf_no (exOf_no (exOf_no (exOf_nil))))))
      (bx_cons (O1 := [none, none, none, none, none, none, none]) (sx_if (O' := [none, none, none, none, none, none, none]) (tx_cmp (op_neZ b.hu) (sem_rD neD_flat) (ex_var 3) (ex_str) (nomark _)) (bx_one (sx_ret (ex_tup (ax_cons (ex_var 5) (ax_cons (ex_var 2) (ax_nil)))) (exOf_no (exOf_no (exOf_no (exOf_no (exOf_nil))))))) (bx_nil) (exOf_no (exOf_no (exOf_no (exOf_no (exOf_nil))))))
      (bx_cons (O1 := [none, none, none, none, none, none, none]) (sx_if (O' := [none, none, none, none, none, none, none]) (tx_cmp (op_geZ b.hu) (sem_rD ordD_flat) (ex_var 2) (ex_callB call_lenZ (sem_rDN lenD_flat) g.f_len rfl (ax_cons (ex_var 1) (ax_nil))) (nomark _)) (bx_one (sx_ret (ex_tup (ax_cons (ex_non) (ax_cons (ex_tup (ax_cons (ex_callB call_lenZ (sem_rDN lenD_flat) g.f_len rfl (ax_cons (ex_var 1) (ax_nil))) (ax_cons (ex_str) (ax_nil)))) (ax_nil)))) (exOf_no (exOf_no (exOf_no (exOf_no (exOf_nil))))))) (bx_nil) (exOf_no (exOf_no (exOf_no (exOf_no (exOf_nil))))))
      (bx_cons (O1 := [none, none, none, none, none, none, none]) (sx_set 6 nd (ex_cmp (op_eqZ b.hu) (sem_rD eqD_flat) (ex_ix (ex_var 1) (ex_var 2)) (ex_op op_modZ (sem_rD intD_flat) (ex_callTy call_intZ (sem_rDN intC_flat) g.f_int rfl (ax_cons (ex_callB (call_sumZ b.calm) (sem_rDN sumD_flat) g.f_sum rfl (ax_cons (ex_var 5) (ax_nil))) (ax_nil))) (ex_ix (ex_var 0) (ex_int))) (nomark _)) (exOf_no (exOf_no (exOf_no (exOf_no (exOf_nil))))))
      (bx_one (sx_ret (ex_if (tx_val (ex_var 6)) (ex_tup (ax_cons (ex_var 5) (ax_cons (ex_op op_addZ (sem_add) (ex_var 2) (ex_int)) (ax_nil)))) (ex_tup (ax_cons (ex_non) (ax_cons (ex_tup (ax_cons (ex_var 2) (ax_cons (ex_str) (ax_nil)))) (ax_nil))))) (exOf_no (exOf_no (exOf_no (exOf_no (exOf_nil))))))))))))))) (.inl rfl)
/-! ### _law_reading -/
def N__law_reading : List Str := ["form_here", "signs_here", "content_here", "blind", "k", "at", "use_here", "good", "body_here", "after", "row"]
theorem sc__law_reading : FnScope N__law_reading ["form_here", "signs_here"] (defScope (top 83)) := ⟨rfl, rfl, rfl, by decide +kernel, rfl, by decide +kernel, by decide +kernel⟩
def T__law_reading : Rho → Out Rho Flw := sqT (par2T 2 3 (consT (lstT (nilT)) (consT (lstT (nilT)) (nilT)))) (sqT (forS (rngT rng1D (consT (callB lenD (consT (binT idxD (varT 0) (cT (.int 1))) (nilT))) (nilT))) (setG 4) (sqT (ifT (isB (binT geD (varT 4) (callB lenD (consT (varT 1) (nilT))))) (retT (tupT (consT (cT .none) (consT (cT .none) (consT (tupT (consT (callB lenD (consT (varT 1) (nilT))) (consT (cT (.str ("short" : Str))) (nilT)))) (nilT)))))) (nxT)) (ifT (isB (binT isD (binT idxD (binT idxD (varT 0) (cT (.int 1))) (varT 4)) (cT .none))) (appT 3 (varT 4)) (ifT (isB (binT neD (binT idxD (binT idxD (varT 0) (cT (.int 1))) (varT 4)) (binT idxD (varT 1) (varT 4)))) (retT (tupT (consT (cT .none) (consT (cT .none) (consT (tupT (consT (varT 4) (consT (cT (.str ("head" : Str))) (nilT)))) (nilT)))))) (nxT))))) (sqT (asgT 5 (callB lenD (consT (binT idxD (varT 0) (cT (.int 1))) (nilT)))) (sqT (whT (isB (binT ltD (varT 5) (callB lenD (consT (varT 1) (nilT))))) (sqT (asgT 6 (callT [none, none] S__law_use (consT (varT 0) (consT (binT idxD (varT 1) (varT 5)) (nilT))))) (sqT (ifT (isB (binT eqD (varT 6) (cT (.str ("" : Str))))) (retT (tupT (consT (cT .none) (consT (cT .none) (consT (tupT (consT (varT 5) (consT (cT (.str ("tag" : Str))) (nilT)))) (nilT)))))) (nxT)) (sqT (ifT (isB (binT eqD (varT 6) (cT (.str ("end" : Str))))) (retT (tupT (consT (callO 2 tupC) (consT (binT addD (varT 3) (binT lrgD (binT addD (varT 5) (cT (.int 1))) (callB lenD (consT (varT 1) (nilT))))) (consT (cT .none) (nilT)))))) (nxT)) (sqT (ifT (isB (binT eqD (varT 6) (cT (.str ("stop" : Str))))) (sqT (asgT 7 (binT eqD (binT addD (varT 5) (cT (.int 1))) (callB lenD (consT (varT 1) (nilT))))) (retT (ifT (isB (varT 7)) (tupT (consT (callO 2 tupC) (consT (varT 3) (consT (cT .none) (nilT))))) (tupT (consT (cT .none) (consT (cT .none) (consT (tupT (consT (binT addD (varT 5) (cT (.int 1))) (consT (cT (.str ("behind" : Str))) (nilT)))) (nilT)))))))) (nxT)) (sqT (tgtT (tupG 2 (consG (setG 8) (consG (setG 9) (nilG)))) (callT [none, none, none, none] S__law_chunk (consT (varT 0) (consT (varT 1) (consT (binT addD (varT 5) (cT (.int 1))) (consT (varT 6) (nilT))))))) (sqT (ifT (isB (binT isD (varT 8) (cT .none))) (retT (tupT (consT (cT .none) (consT (cT .none) (consT (varT 9) (nilT)))))) (nxT)) (sqT (ifT (isB (binT eqD (varT 6) (cT (.str ("skip" : Str))))) (asgT 3 (binT catLD (varT 3) (binT lrgD (binT subD (varT 9) (callB lenD (consT (varT 8) (nilT)))) (varT 9)))) (appT 2 (tupT (consT (binT idxD (varT 1) (varT 5)) (consT (varT 8) (nilT)))))) (asgT 5 (varT 9))))))))) fuel) (sqT (ifT (isB (binT neD (lcT [10] (seqT (binT idxD (varT 0) (cT (.int 4)))) (setG 10) (isB (binT inD (binT idxD (varT 10) (cT (.int 1))) (tupT (consT (cT (.str ("end" : Str))) (consT (cT (.str ("stop" : Str))) (nilT)))))) (varT 10)) (lstT (nilT)))) (retT (tupT (consT (cT .none) (consT (cT .none) (consT (tupT (consT (callB lenD (consT (varT 1) (nilT))) (consT (cT (.str ("short" : Str))) (nilT)))) (nilT)))))) (nxT)) (retT (tupT (consT (callO 2 tupC) (consT (varT 3) (consT (cT .none) (nilT))))))))))
def S__law_reading : List D → Out (List D) D := runF [] 11 T__law_reading
theorem z__law_reading {P : Program} {w : World} {K : PySem.W.Frag} {mg : Str → Option Value} {base : Heap} (g : Gk K mg) (z__law_chunk : FnZ P w K mg base "_law_chunk" 2 [none, none, none, none] none S__law_chunk) (z__law_use : FnZ P w K mg base "_law_use" 1 [none, none] none S__law_use) (hF : ∃ fd, Fun K "_law_reading" "_law_reading" (top 83) (He.ga K "_law_reading") fd) (hm : mg "_law_reading" = some (.ref (He.ga K "_law_reading"))) : FnZ P w K mg base "_law_reading" 3 [none, none] none S__law_reading := by
  obtain ⟨fd, F⟩ := hF
  refine FnZ.of F hm (ps := ["form_here", "signs_here"]) (fun _ _ _ _ _ _ us hl => match us, hl with | [_, _], _ => rfl) ?_
  exact fnZ0 (k := 2) (rk := none) (N := N__law_reading) (ps := ["form_here", "signs_here"]) (O' := [none, none, some .lst, none, none, none, none, none, none, none, none]) (T := T__law_reading) 2 F sc__law_reading rfl (fun cdv A outer s H E b => by
    have nd := sc__law_reading.nd
    exact bx_cons (O1 := [none, none, some .lst, some .lst, none, none, none, none, none, none, none]) (sx_par2 2 3 (k := (some .lst)) (l := (some .lst)) b.calm nd (af_new (fx_lst (ax_nil)) (af_new (fx_lst (ax_nil)) (af_nil))) (exOf_no (exOf_no (exOf_nil))) (by rfl))
      (bx_cons (O1 := [none, none, some .lst, some .lst, none, none, none, none, none, none, none]) (sx_for b.own b.calm (ix_rng1 g.f_range (ax_cons (ex_callB call_lenZ (sem_rDN lenD_flat) g.f_len rfl (ax_cons (ex_ix (ex_var 0) (ex_int)) (ax_nil))) (ax_nil))) (gx_name 4 nd) (bx_cons (O1 := [none, none, some .lst, some .lst, none, none, none, none, none, none, none]) (sx_if (O' := [none, none, some .lst, some .lst, none, none, none, none, none, none, none]) (tx_cmp (op_geZ b.hu) (sem_rD ordD_flat) (ex_var 4) (ex_callB call_lenZ (sem_rDN lenD_flat) g.f_len rfl (ax_cons (ex_var 1) (ax_nil))) (nomark _)) (bx_one (sx_ret (ex_tup (ax_cons (ex_non) (ax_cons (ex_non) (ax_cons (ex_tup (ax_cons (ex_callB call_lenZ (sem_rDN lenD_flat) g.f_len rfl (ax_cons (ex_var 1) (ax_nil))) (ax_cons (ex_str) (ax_nil)))) (ax_nil))))) (exOf_no (exOf_no (exOf_nil))))) (bx_nil) (exOf_no (exOf_no (exOf_nil))))
      (bx_one (sx_if (O' := [none, none, some .lst, some .lst, none, none, none, none, none, none, none]) (tx_cmp (op_isZ) (sem_rD isD_flat) (ex_ix (ex_ix (ex_var 0) (ex_int)) (ex_var 4)) (ex_non) (nomark _)) (bx_one (sx_append 3 (ex_var 4) (exOf_no (exOf_no (exOf_nil))))) (bx_one (sx_if (O' := [none, none, some .lst, some .lst, none, none, none, none, none, none, none]) (tx_cmp (op_neZ b.hu) (sem_rD neD_flat) (ex_ix (ex_ix (ex_var 0) (ex_int)) (ex_var 4)) (ex_ix (ex_var 1) (ex_var 4)) (nomark _)) (bx_one (sx_ret (ex_tup (ax_cons (ex_non) (ax_cons (ex_non) (ax_cons (ex_tup (ax_cons (ex_var 4) (ax_cons (ex_str) (ax_nil)))) (ax_nil))))) (exOf_no (exOf_no (exOf_nil))))) (bx_nil) (exOf_no (exOf_no (exOf_nil))))) (exOf_no (exOf_no (exOf_nil)))))) (exOf_no (exOf_no (exOf_nil))))
      (bx_cons (O1 := [none, none, some .lst, some .lst, none, none, none, none, none, none, none]) (sx_set 5 nd (ex_callB call_lenZ (sem_rDN lenD_flat) g.f_len rfl (ax_cons (ex_ix (ex_var 0) (ex_int)) (ax_nil))) (exOf_no (exOf_no (exOf_nil))))
      (bx_cons (O1 := [none, none, some .lst, some .lst, none, none, none, none, none, none, none]) (sx_while fuel b.own (tx_cmp (op_ltZ b.hu) (sem_rD ordD_flat) (ex_var 5) (ex_callB call_lenZ (sem_rDN lenD_flat) g.f_len rfl (ax_cons (ex_var 1) (ax_nil))) (nomark _)) (bx_cons (O1 := [none, none, some .lst, some .lst, none, none, none, none, none, none, none]) (sx_set 6 nd (ex_fn z__law_use (b.room.mono (by decide)) b.tk (aj_cons (ex_var 0) (aj_cons (ex_ix (ex_var 1) (ex_var 5)) (aj_nil)))) (exOf_no (exOf_no (exOf_nil))))
      (bx_cons (O1 := [none, none, some .lst, some .lst, none, none, none, none, none, none, none]) (sx_if (O' := [none, none, some .lst, some .lst, none, none, none, none, none, none, none]) (tx_cmp (op_eqZ b.hu) (sem_rD eqD_flat) (ex_var 6) (ex_str) (nomark _)) (bx_one (sx_ret (ex_tup (ax_cons (ex_non) (ax_cons (ex_non) (ax_cons (ex_tup (ax_cons (ex_var 5) (ax_cons (ex_str) (ax_nil)))) (ax_nil))))) (exOf_no (exOf_no (exOf_nil))))) (bx_nil) (exOf_no (exOf_no (exOf_nil))))
      (bx_cons (O1 := [none, none, some .lst, some .lst, none, none, none, none, none, none, none]) (sx_if (O' := [none, none, some .lst, some .lst, none, none, none, none, none, none, none]) (tx_cmp (op_eqZ b.hu) (sem_rD eqD_flat) (ex_var 6) (ex_str) (nomark _)) (bx_one (sx_freeze 3 (O1 := [none, none, some .lst, none, none, none, none, none, none, none, none]) (sx_ret (ex_tup (ax_cons (ex_callTyO 2 call_tuple_of own_tupC g.f_tuple rfl (ax_own1 2)) (ax_cons (ex_op op_addZ (sem_add) (ex_var 3) (ex_of_fx (fx_listRg b.calm (ex_op op_addZ (sem_add) (ex_var 5) (ex_int)) (ex_callB call_lenZ (sem_rDN lenD_flat) g.f_len rfl (ax_cons (ex_var 1) (ax_nil))) g.f_list g.f_range))) (ax_cons (ex_non) (ax_nil))))) (exOf_no (exOf_no (exOf_nil)))))) (bx_nil) (exOf_no (exOf_no (exOf_nil))))
      (bx_cons (O1 := [none, none, some .lst, some .lst, none, none, none, none, none, none, none]) (sx_if (O' := [none, none, some .lst, some .lst, none, none, none, none, none, none, none]) (tx_cmp (op_eqZ b.hu) (sem_rD eqD_flat) (ex_var 6) (ex_str) (nomark _)) (bx_cons (O1 := [none, none, some .lst, some .lst, none, none, none, none, none, none, none]) (sx_set 7 nd (ex_cmp (op_eqZ b.hu) (sem_rD eqD_flat) (ex_op op_addZ (sem_add) (ex_var 5) (ex_int)) (ex_callB call_lenZ (sem_rDN lenD_flat) g.f_len rfl (ax_cons (ex_var 1) (ax_nil))) (nomark _)) (exOf_no (exOf_no (exOf_nil))))
      (bx_one (sx_freeze 3 (O1 := [none, none, some .lst, none, none, none, none, none, none, none, none]) (sx_ret (ex_if (tx_val (ex_var 7)) (ex_tup (ax_cons (ex_callTyO 2 call_tuple_of own_tupC g.f_tuple rfl (ax_own1 2)) (ax_cons (ex_var 3) (ax_cons (ex_non) (ax_nil))))) (ex_tup (ax_cons (ex_non) (ax_cons (ex_non) (ax_cons (ex_tup (ax_cons (ex_op op_addZ (sem_add) (ex_var 5) (ex_int)) (ax_cons (ex_str) (ax_nil)))) (ax_nil)))))) (exOf_no (exOf_no (exOf_nil))))))) (bx_nil) (exOf_no (exOf_no (exOf_nil))))
      (bx_cons (O1 := [none, none, some .lst, some .lst, none, none, none, none, none, none, none]) (sx_tgt (ex_fn z__law_chunk (b.room.mono (by decide)) b.tk (aj_cons (ex_var 0) (aj_cons (ex_var 1) (aj_cons (ex_op op_addZ (sem_add) (ex_var 5) (ex_int)) (aj_cons (ex_var 6) (aj_nil)))))) (gx_tup b.calm (gxs_cons (gx_name 8 nd) (gxs_cons (gx_name 9 nd) (gxs_nil)))) (exOf_no (exOf_no (exOf_nil))))
      (bx_cons (O1 := [none, none, some .lst, some .lst, none, none, none, none, none, none, none]) (sx_if (O' := [none, none, some .lst, some .lst, none, none, none, none, none, none, none]) (tx_cmp (op_isZ) (sem_rD isD_flat) (ex_var 8) (ex_non) (nomark _)) (bx_one (sx_ret (ex_tup (ax_cons (ex_non) (ax_cons (ex_non) (ax_cons (ex_var 9) (ax_nil))))) (exOf_no (exOf_no (exOf_nil))))) (bx_nil) (exOf_no (exOf_no (exOf_nil))))
      (bx_cons (O1 := [none, none, some .lst, some .lst, none, none, none, none, none, none, none]) (sx_if (O' := [none, none, some .lst, some .lst, none, none, none, none, none, none, none]) (tx_cmp (op_eqZ b.hu) (sem_rD eqD_flat) (ex_var 6) (ex_str) (nomark _)) (bx_one (sx_freeze 3 (O1 := [none, none, some .lst, none, none, none, none, none, none, none, none]) (sx_own 3 nd (fx_cat (ex_var 3) (ex_of_fx (fx_listRg b.calm (ex_op op_subZ (sem_rD intD_flat) (ex_var 9) (ex_callB call_lenZ (sem_rDN lenD_flat) g.f_len rfl (ax_cons (ex_var 8) (ax_nil)))) (ex_var 9) g.f_list g.f_range))) (exOf_no (exOf_no (exOf_nil)))))) (bx_one (sx_append 2 (ex_tup (ax_cons (ex_ix (ex_var 1) (ex_var 5)) (ax_cons (ex_var 8) (ax_nil)))) (exOf_no (exOf_no (exOf_nil))))) (exOf_no (exOf_no (exOf_nil))))
      (bx_one (sx_set 5 nd (ex_var 9) (exOf_no (exOf_no (exOf_nil)))))))))))) (exOf_no (exOf_no (exOf_nil))))
      (bx_cons (O1 := [none, none, some .lst, some .lst, none, none, none, none, none, none, none]) (sx_if (O' := [none, none, some .lst, some .lst, none, none, none, none, none, none, none]) (tx_cmp (op_neZ b.hu) (sem_rD neD_flat) (ex_of_fx (fx_lc (own := [("row", 10)]) b.calm nd (ix_seqZ (ex_ix (ex_var 0) (ex_int))) (blkOk_of (by kernel_rfl)) (none_cons rfl (fun _ h => nomatch h)) (fun _ _ _ _ _ => gx_name 10 nd) (fun _ _ _ _ _ => txs_one (tx_cmp (op_inZ (by exact b.hu)) (sem_rD inD_flat) (ex_ix (ex_var 10) (ex_int)) (ex_tup (ax_cons (ex_str) (ax_cons (ex_str) (ax_nil)))) (by with_unfolding_all rfl))) (fun _ _ _ _ _ => ex_var 10))) (ex_of_fx (fx_lst (ax_nil))) (nomark _)) (bx_one (sx_ret (ex_tup (ax_cons (ex_non) (ax_cons (ex_non) (ax_cons (ex_tup (ax_cons (ex_callB call_lenZ (sem_rDN lenD_flat) g.f_len rfl (ax_cons (ex_var 1) (ax_nil))) (ax_cons (ex_str) (ax_nil)))) (ax_nil))))) (exOf_no (exOf_no (exOf_nil))))) (bx_nil) (exOf_no (exOf_no (exOf_nil))))
      (bx_one (sx_freeze 3 (O1 := [none, none, some .lst, none, none, none, none, none, none, none, none]) (sx_ret (ex_tup (ax_cons (ex_callTyO 2 call_tuple_of own_tupC g.f_tuple rfl (ax_own1 2)) (ax_cons (ex_var 3) (ax_cons (ex_non) (ax_nil))))) (exOf_no (exOf_no (exOf_nil))))))))))) (.inl rfl)
/-! ### _law_good_file -/
def N__law_good_file : List Str := ["bag", "form_here", "many_here", "most_here", "turn", "row"]
theorem sc__law_good_file : FnScope N__law_good_file ["bag", "form_here", "many_here", "most_here"] (defScope (top 86)) := ⟨rfl, rfl, rfl, by decide +kernel, rfl, by decide +kernel, by decide +kernel⟩
def T__law_good_file : Rho → Out Rho Flw := sqT (forS (rngT rng1D (consT (cT (.int 4)) (nilT))) (setG 4) (sqT (asgT 5 (callT [some 0, none, none] S__law_written (ownT 0 (consT (varT 1) (consT (varT 2) (nilT)))))) (ifT (andT (isB (binT leD (callB lenD (consT (varT 5) (nilT))) (varT 3))) (isB (binT isD (binT idxD (callT [none, none] S__law_reading (consT (varT 1) (consT (varT 5) (nilT)))) (cT (.int 2))) (cT .none)))) (retT (varT 5)) (nxT)))) (retT (cT .none))
def S__law_good_file : List D → Out (List D) D := runF [0] 6 T__law_good_file
theorem z__law_good_file {P : Program} {w : World} {K : PySem.W.Frag} {mg : Str → Option Value} {base : Heap} (g : Gk K mg) (z__law_reading : FnZ P w K mg base "_law_reading" 3 [none, none] none S__law_reading) (z__law_written : FnZ P w K mg base "_law_written" 2 [some .lst, none, none] none S__law_written) (hF : ∃ fd, Fun K "_law_good_file" "_law_good_file" (top 86) (He.ga K "_law_good_file") fd) (hm : mg "_law_good_file" = some (.ref (He.ga K "_law_good_file"))) : FnZ P w K mg base "_law_good_file" 4 [some .lst, none, none, none] none S__law_good_file := by
  obtain ⟨fd, F⟩ := hF
  refine FnZ.of F hm (ps := ["bag", "form_here", "many_here", "most_here"]) (fun _ _ _ _ _ _ us hl => match us, hl with | [_, _, _, _], _ => rfl) ?_
  exact fnZ1 (k := 3) (rk := none) (N := N__law_good_file) (ps := ["bag", "form_here", "many_here", "most_here"]) (O' := [some .lst, none, none, none, none, none]) (T := T__law_good_file) .lst 3 F sc__law_good_file rfl (fun cdv A outer s H E a b => by
    have nd := sc__law_good_file.nd
    exact bx_cons (O1 := [some .lst, none, none, none, none, none]) (sx_for b.own b.calm (ix_rng1 g.f_range (ax_cons (ex_int) (ax_nil))) (gx_name 4 nd) (bx_cons (O1 := [some .lst, none, none, none, none, none]) (sx_set 5 nd (ex_fn z__law_written (b.room.mono (by decide)) b.tk (aj_own 0 (aj_cons (ex_var 1) (aj_cons (ex_var 2) (aj_nil))))) (exOf_yes (exOf_no (exOf_no (exOf_no (exOf_nil))))))
      (bx_one (sx_if (O' := [some .lst, none, none, none, none, none]) (tx_pw (wx_and (tx_cmp (op_leZ b.hu) (sem_rD ordD_flat) (ex_callB call_lenZ (sem_rDN lenD_flat) g.f_len rfl (ax_cons (ex_var 5) (ax_nil))) (ex_var 3) (nomark _)) (wx_and1 (tx_cmp (op_isZ) (sem_rD isD_flat) (ex_ix (ex_fn z__law_reading (b.room.mono (by decide)) b.tk (aj_cons (ex_var 1) (aj_cons (ex_var 5) (aj_nil)))) (ex_int)) (ex_non) (nomark _))))) (bx_one (sx_ret (ex_var 5) (exOf_yes (exOf_no (exOf_no (exOf_no (exOf_nil))))))) (bx_nil) (exOf_yes (exOf_no (exOf_no (exOf_no (exOf_nil)))))))) (exOf_yes (exOf_no (exOf_no (exOf_no (exOf_nil))))))
      (bx_one (sx_ret (ex_non) (exOf_yes (exOf_no (exOf_no (exOf_no (exOf_nil)))))))) (.inl rfl) (exOf_yes (exOf_no (exOf_no (exOf_no (exOf_nil)))))
/-! ### _law_equal -/
def N__law_equal : List Str := ["found", "due", "k"]
theorem sc__law_equal : FnScope N__law_equal ["found", "due"] (defScope (top 77)) := ⟨rfl, rfl, rfl, by decide +kernel, rfl, by decide +kernel, by decide +kernel⟩
def T__law_equal (S : List D → Out (List D) D) : Rho → Out Rho Flw := sqT (ifT (orT (isB (isiT "bool" (varT 0))) (isB (isiT "bool" (varT 1)))) (retT (andV (isiT "bool" (varT 0)) (andV (isiT "bool" (varT 1)) (binT eqD (varT 0) (varT 1))))) (nxT)) (sqT (ifT (orT (isB (binT neD (isiT "list" (varT 0)) (isiT "list" (varT 1)))) (isB (binT neD (isiT "tuple" (varT 0)) (isiT "tuple" (varT 1))))) (retT (cT (.bool false))) (nxT)) (sqT (ifT (orT (isB (binT neD (isiT "str" (varT 0)) (isiT "str" (varT 1)))) (isB (binT neD (isiT "int" (varT 0)) (isiT "int" (varT 1))))) (retT (cT (.bool false))) (nxT)) (sqT (ifT (isB (isi2T "list" "tuple" (varT 1))) (sqT (ifT (isB (binT neD (callB lenD (consT (varT 0) (nilT))) (callB lenD (consT (varT 1) (nilT))))) (retT (cT (.bool false))) (nxT)) (retT (binT eqD (lcT [2] (rngT rng1D (consT (callB lenD (consT (varT 1) (nilT))) (nilT))) (setG 2) (notT (isB (callT [none, none] S (consT (binT idxD (varT 0) (varT 2)) (consT (binT idxD (varT 1) (varT 2)) (nilT)))))) (varT 2)) (lstT (nilT))))) (nxT)) (retT (andV (binT eqD (binT isD (varT 0) (cT .none)) (binT isD (varT 1) (cT .none))) (binT eqD (varT 0) (varT 1)))))))
def S__law_equal : Nat → List D → Out (List D) D
  | 0 => fun _ => .bad
  | n + 1 => runF [] 3 (T__law_equal (S__law_equal n))
theorem z__law_equal {P : Program} {w : World} {K : PySem.W.Frag} {mg : Str → Option Value} {base : Heap} (g : Gk K mg) (hF : ∃ fd, Fun K "_law_equal" "_law_equal" (top 77) (He.ga K "_law_equal") fd) (hm : mg "_law_equal" = some (.ref (He.ga K "_law_equal"))) : ∀ n, FnZ P w K mg base "_law_equal" n [none, none] none (S__law_equal n) := by
  obtain ⟨fd, F⟩ := hF
  intro n
  induction n with
  | zero => exact FnZ.none F hm (ps := ["found", "due"]) (fun _ _ _ _ _ _ us hl => match us, hl with | [_, _], _ => rfl)
  | succ n zr =>
  refine FnZ.of F hm (ps := ["found", "due"]) (fun _ _ _ _ _ _ us hl => match us, hl with | [_, _], _ => rfl) ?_
  exact fnZ0 (k := n) (rk := none) (N := N__law_equal) (ps := ["found", "due"]) (O' := [none, none, none]) (T := T__law_equal (S__law_equal n)) 2 F sc__law_equal rfl (fun cdv A outer s H E b => by
    have nd := sc__law_equal.nd
    exact bx_cons (O1 := [none, none, none]) (sx_if (O' := [none, none, none]) (tx_pw (wx_or (tx_val (ex_isi (b := "bool") (ex_var 0) (by decide) g.f_isinstance g.f_bool rfl)) (wx_or1 (tx_val (ex_isi (b := "bool") (ex_var 1) (by decide) g.f_isinstance g.f_bool rfl))))) (bx_one (sx_ret (ex_and (ex_isi (b := "bool") (ex_var 0) (by decide) g.f_isinstance g.f_bool rfl) (ex_and (ex_isi (b := "bool") (ex_var 1) (by decide) g.f_isinstance g.f_bool rfl) (ex_one (ex_cmp (op_eqZ b.hu) (sem_rD eqD_flat) (ex_var 0) (ex_var 1) (nomark _))))) (exOf_no (exOf_no (exOf_nil))))) (bx_nil) (exOf_no (exOf_no (exOf_nil))))
      (bx_cons (O1 := [none, none, none]) (sx_if (O' := [none, none, none]) (tx_pw (wx_or (tx_cmp (op_neZ b.hu) (sem_rD neD_flat) (ex_isi (b := "list") (ex_var 0) (by decide) g.f_isinstance g.f_list rfl) (ex_isi (b := "list") (ex_var 1) (by decide) g.f_isinstance g.f_list rfl) (nomark _)) (wx_or1 (tx_cmp (op_neZ b.hu) (sem_rD neD_flat) (ex_isi (b := "tuple") (ex_var 0) (by decide) g.f_isinstance g.f_tuple rfl) (ex_isi (b := "tuple") (ex_var 1) (by decide) g.f_isinstance g.f_tuple rfl) (nomark _))))) (bx_one (sx_ret (ex_bl) (exOf_no (exOf_no (exOf_nil))))) (bx_nil) (exOf_no (exOf_no (exOf_nil))))
      (bx_cons (O1 := [none, none, none]) (sx_if (O' := [none, none, none]) (tx_pw (wx_or (tx_cmp (op_neZ b.hu) (sem_rD neD_flat) (ex_isi (b := "str") (ex_var 0) (by decide) g.f_isinstance g.f_str rfl) (ex_isi (b := "str") (ex_var 1) (by decide) g.f_isinstance g.f_str rfl) (nomark _)) (wx_or1 (tx_cmp (op_neZ b.hu) (sem_rD neD_flat) (ex_isi (b := "int") (ex_var 0) (by decide) g.f_isinstance g.f_int rfl) (ex_isi (b := "int") (ex_var 1) (by decide) g.f_isinstance g.f_int rfl) (nomark _))))) (bx_one (sx_ret (ex_bl) (exOf_no (exOf_no (exOf_nil))))) (bx_nil) (exOf_no (exOf_no (exOf_nil))))
      (bx_cons (O1 := [none, none, none]) (sx_if (O' := [none, none, none]) (tx_val (ex_isi2 (a := "list") (b := "tuple") (ex_var 1) (by decide) (by decide) g.f_isinstance g.f_list rfl g.f_tuple rfl)) (bx_cons (O1 := [none, none, none]) (sx_if (O' := [none, none, none]) (tx_cmp (op_neZ b.hu) (sem_rD neD_flat) (ex_callB call_lenZ (sem_rDN lenD_flat) g.f_len rfl (ax_cons (ex_var 0) (ax_nil))) (ex_callB call_lenZ (sem_rDN lenD_flat) g.f_len rfl (ax_cons (ex_var 1) (ax_nil))) (nomark _)) (bx_one (sx_ret (ex_bl) (exOf_no (exOf_no (exOf_nil))))) (bx_nil) (exOf_no (exOf_no (exOf_nil))))
      (bx_one (sx_ret (ex_cmp (op_eqZ b.hu) (sem_rD eqD_flat) (ex_of_fx (fx_lc (own := [("k", 2)]) b.calm nd (ix_rng1 g.f_range (ax_cons (ex_callB call_lenZ (sem_rDN lenD_flat) g.f_len rfl (ax_cons (ex_var 1) (ax_nil))) (ax_nil))) (blkOk_of (by kernel_rfl)) (none_cons rfl (fun _ h => nomatch h)) (fun _ _ _ _ _ => gx_name 2 nd) (fun _ _ _ _ _ => txs_one (tx_not (tx_val (ex_fn zr (by exact b.room.mono (by omega)) takes0 (aj_cons (ex_ix (ex_var 0) (ex_var 2)) (aj_cons (ex_ix (ex_var 1) (ex_var 2)) (aj_nil))))))) (fun _ _ _ _ _ => ex_var 2))) (ex_of_fx (fx_lst (ax_nil))) (nomark _)) (exOf_no (exOf_no (exOf_nil)))))) (bx_nil) (exOf_no (exOf_no (exOf_nil))))
      (bx_one (sx_ret (ex_and (ex_cmp (op_eqZ b.hu) (sem_rD eqD_flat) (ex_cmp (op_isZ) (sem_rD isD_flat) (ex_var 0) (ex_non) (nomark _)) (ex_cmp (op_isZ) (sem_rD isD_flat) (ex_var 1) (ex_non) (nomark _)) (nomark _)) (ex_one (ex_cmp (op_eqZ b.hu) (sem_rD eqD_flat) (ex_var 0) (ex_var 1) (nomark _)))) (exOf_no (exOf_no (exOf_nil))))))))) (.inl rfl)
/-! ### _law_turned_blind -/
def N__law_turned_blind : List Str := ["bag", "form_here", "row", "blind", "found", "k"]
theorem sc__law_turned_blind : FnScope N__law_turned_blind ["bag", "form_here", "row", "blind"] (defScope (top 87)) := ⟨rfl, rfl, rfl, by decide +kernel, rfl, by decide +kernel, by decide +kernel⟩
def T__law_turned_blind : Rho → Out Rho Flw := sqT (asgT 4 (fun ρ => ((varT 2) ρ).bind fun d ρ1 => .of (lstC d) ρ1)) (sqT (forS (seqT (varT 3)) (setG 5) (ifT (isB (binT eqD (callT [some 0, none] S__law_grab (ownT 0 (consT (cT (.int 2)) (nilT)))) (cT (.int 0)))) (stT 4 (varT 5) (callT [some 0, none] S__law_grab (ownT 0 (consT (binT idxD (varT 1) (cT (.int 0))) (nilT))))) (nxT))) (retT (callO 4 tupC)))
def S__law_turned_blind : List D → Out (List D) D := runF [0] 6 T__law_turned_blind
theorem z__law_turned_blind {P : Program} {w : World} {K : PySem.W.Frag} {mg : Str → Option Value} {base : Heap} (g : Gk K mg) (z__law_grab : FnZ P w K mg base "_law_grab" 1 [some .lst, none] none S__law_grab) (hF : ∃ fd, Fun K "_law_turned_blind" "_law_turned_blind" (top 87) (He.ga K "_law_turned_blind") fd) (hm : mg "_law_turned_blind" = some (.ref (He.ga K "_law_turned_blind"))) : FnZ P w K mg base "_law_turned_blind" 2 [some .lst, none, none, none] none S__law_turned_blind := by
  obtain ⟨fd, F⟩ := hF
  refine FnZ.of F hm (ps := ["bag", "form_here", "row", "blind"]) (fun _ _ _ _ _ _ us hl => match us, hl with | [_, _, _, _], _ => rfl) ?_
  exact fnZ1 (k := 1) (rk := none) (N := N__law_turned_blind) (ps := ["bag", "form_here", "row", "blind"]) (O' := [some .lst, none, none, none, some .lst, none]) (T := T__law_turned_blind) .lst 3 F sc__law_turned_blind rfl (fun cdv A outer s H E a b => by
    have nd := sc__law_turned_blind.nd
    exact bx_cons (O1 := [some .lst, none, none, none, some .lst, none]) (sx_own 4 nd (fx_list (ex_var 2) g.f_list) (exOf_yes (exOf_no (exOf_no (exOf_no (exOf_nil))))))
      (bx_cons (O1 := [some .lst, none, none, none, some .lst, none]) (sx_for b.own b.calm (ix_seqZ (ex_var 3)) (gx_name 5 nd) (bx_one (sx_if (O' := [some .lst, none, none, none, some .lst, none]) (tx_cmp (op_eqZ b.hu) (sem_rD eqD_flat) (ex_fn z__law_grab (b.room.mono (by decide)) b.tk (aj_own 0 (aj_cons (ex_int) (aj_nil)))) (ex_int) (nomark _)) (bx_one (sx_store 4 (ex_var 5) (ex_fn z__law_grab (b.room.mono (by decide)) b.tk (aj_own 0 (aj_cons (ex_ix (ex_var 1) (ex_int)) (aj_nil)))) (exOf_yes (exOf_no (exOf_no (exOf_no (exOf_nil))))))) (bx_nil) (exOf_yes (exOf_no (exOf_no (exOf_no (exOf_nil))))))) (exOf_yes (exOf_no (exOf_no (exOf_no (exOf_nil))))))
      (bx_one (sx_ret (ex_callTyO 4 call_tuple_of own_tupC g.f_tuple rfl (ax_own1 4)) (exOf_yes (exOf_no (exOf_no (exOf_no (exOf_nil))))))))) (.inl rfl) (exOf_yes (exOf_no (exOf_no (exOf_no (exOf_nil)))))
/-! ### is_content -/
def N_is_content : List Str := ["form", "value"]
theorem sc_is_content : FnScope N_is_content ["form", "value"] (defScope (top 68)) := ⟨rfl, rfl, rfl, by decide +kernel, rfl, by decide +kernel, by decide +kernel⟩
def T_is_content : Rho → Out Rho Flw := sqT (dropT (callT [none] S_check_format (consT (varT 0) (nilT)))) (retT (callT [none, none] S_is_content_of (consT (varT 0) (consT (varT 1) (nilT)))))
def S_is_content : List D → Out (List D) D := runF [] 2 T_is_content
theorem z_is_content {P : Program} {w : World} {K : PySem.W.Frag} {mg : Str → Option Value} {base : Heap} (g : Gk K mg) (z_check_format : FnZ P w K mg base "check_format" 5 [none] none S_check_format) (z_is_content_of : FnZ P w K mg base "is_content_of" 5 [none, none] none S_is_content_of) (hF : ∃ fd, Fun K "is_content" "is_content" (top 68) (He.ga K "is_content") fd) (hm : mg "is_content" = some (.ref (He.ga K "is_content"))) : FnZ P w K mg base "is_content" 6 [none, none] none S_is_content := by
  obtain ⟨fd, F⟩ := hF
  refine FnZ.of F hm (ps := ["form", "value"]) (fun _ _ _ _ _ _ us hl => match us, hl with | [_, _], _ => rfl) ?_
  exact fnZ0 (k := 5) (rk := none) (N := N_is_content) (ps := ["form", "value"]) (O' := [none, none]) (T := T_is_content) 2 F sc_is_content rfl (fun cdv A outer s H E b => by
    have nd := sc_is_content.nd
    exact bx_cons (O1 := [none, none]) (sx_expr (ex_fn z_check_format (b.room.mono (by decide)) b.tk (aj_cons (ex_var 0) (aj_nil))) (exOf_no (exOf_no (exOf_nil))))
      (bx_one (sx_ret (ex_fn z_is_content_of (b.room.mono (by decide)) b.tk (aj_cons (ex_var 0) (aj_cons (ex_var 1) (aj_nil)))) (exOf_no (exOf_no (exOf_nil)))))) (.inl rfl)
/-! ### is_file_of -/
def N_is_file_of : List Str := ["form", "value"]
theorem sc_is_file_of : FnScope N_is_file_of ["form", "value"] (defScope (top 34)) := ⟨rfl, rfl, rfl, by decide +kernel, rfl, by decide +kernel, by decide +kernel⟩
def T_is_file_of : Rho → Out Rho Flw := retT (callT [none, none] S_is_signs (consT (binT idxD (varT 0) (cT (.int 0))) (consT (varT 1) (nilT))))
def S_is_file_of : List D → Out (List D) D := runF [] 2 T_is_file_of
theorem z_is_file_of {P : Program} {w : World} {K : PySem.W.Frag} {mg : Str → Option Value} {base : Heap} (g : Gk K mg) (z_is_signs : FnZ P w K mg base "is_signs" 3 [none, none] none S_is_signs) (hF : ∃ fd, Fun K "is_file_of" "is_file_of" (top 34) (He.ga K "is_file_of") fd) (hm : mg "is_file_of" = some (.ref (He.ga K "is_file_of"))) : FnZ P w K mg base "is_file_of" 4 [none, none] none S_is_file_of := by
  obtain ⟨fd, F⟩ := hF
  refine FnZ.of F hm (ps := ["form", "value"]) (fun _ _ _ _ _ _ us hl => match us, hl with | [_, _], _ => rfl) ?_
  exact fnZ0 (k := 3) (rk := none) (N := N_is_file_of) (ps := ["form", "value"]) (O' := [none, none]) (T := T_is_file_of) 2 F sc_is_file_of rfl (fun cdv A outer s H E b => by
    have nd := sc_is_file_of.nd
    exact bx_one (sx_ret (ex_fn z_is_signs (b.room.mono (by decide)) b.tk (aj_cons (ex_ix (ex_var 0) (ex_int)) (aj_cons (ex_var 1) (aj_nil)))) (exOf_no (exOf_no (exOf_nil))))) (.inl rfl)
/-! ### check_file -/
def N_check_file : List Str := ["form", "file"]
theorem sc_check_file : FnScope N_check_file ["form", "file"] (defScope (top 36)) := ⟨rfl, rfl, rfl, by decide +kernel, rfl, by decide +kernel, by decide +kernel⟩
def T_check_file : Rho → Out Rho Flw := ifT (notT (isB (callT [none, none] S_is_file_of (consT (varT 0) (consT (varT 1) (nilT)))))) (badT) (nxT)
def S_check_file : List D → Out (List D) D := runF [] 2 T_check_file
theorem z_check_file {P : Program} {w : World} {K : PySem.W.Frag} {mg : Str → Option Value} {base : Heap} (g : Gk K mg) (z_is_file_of : FnZ P w K mg base "is_file_of" 4 [none, none] none S_is_file_of) (hF : ∃ fd, Fun K "check_file" "check_file" (top 36) (He.ga K "check_file") fd) (hm : mg "check_file" = some (.ref (He.ga K "check_file"))) : FnZ P w K mg base "check_file" 5 [none, none] none S_check_file := by
  obtain ⟨fd, F⟩ := hF
  refine FnZ.of F hm (ps := ["form", "file"]) (fun _ _ _ _ _ _ us hl => match us, hl with | [_, _], _ => rfl) ?_
  exact fnZ0 (k := 4) (rk := none) (N := N_check_file) (ps := ["form", "file"]) (O' := [none, none]) (T := T_check_file) 2 F sc_check_file rfl (fun cdv A outer s H E b => by
    have nd := sc_check_file.nd
    exact bx_one (sx_if (O' := [none, none]) (tx_not (tx_val (ex_fn z_is_file_of (b.room.mono (by decide)) b.tk (aj_cons (ex_var 0) (aj_cons (ex_var 1) (aj_nil)))))) (bx_one (sx_bad)) (bx_nil) (exOf_no (exOf_no (exOf_nil))))) (.inl rfl)
/-! ### first_stand -/
def N_first_stand : List Str := ["form"]
theorem sc_first_stand : FnScope N_first_stand ["form"] (defScope (top 37)) := ⟨rfl, rfl, rfl, by decide +kernel, rfl, by decide +kernel, by decide +kernel⟩
def T_first_stand : Rho → Out Rho Flw := retT (ifT (isB (binT neD (binT idxD (varT 0) (cT (.int 1))) (tupT (nilT)))) (tupT (consT (cT (.str ("head" : Str))) (consT (cT (.int 0)) (nilT)))) (cT (.tuple [.str ("tag" : Str)])))
def S_first_stand : List D → Out (List D) D := runF [] 1 T_first_stand
theorem z_first_stand {P : Program} {w : World} {K : PySem.W.Frag} {mg : Str → Option Value} {base : Heap} (g : Gk K mg) (hF : ∃ fd, Fun K "first_stand" "first_stand" (top 37) (He.ga K "first_stand") fd) (hm : mg "first_stand" = some (.ref (He.ga K "first_stand"))) : FnZ P w K mg base "first_stand" 1 [none] none S_first_stand := by
  obtain ⟨fd, F⟩ := hF
  refine FnZ.of F hm (ps := ["form"]) (fun _ _ _ _ _ _ us hl => match us, hl with | [_], _ => rfl) ?_
  exact fnZ0 (k := 0) (rk := none) (N := N_first_stand) (ps := ["form"]) (O' := [none]) (T := T_first_stand) 1 F sc_first_stand rfl (fun cdv A outer s H E b => by
    have nd := sc_first_stand.nd
    exact bx_one (sx_ret (ex_if (tx_cmp (op_neZ b.hu) (sem_rD neD_flat) (ex_ix (ex_var 0) (ex_int)) (ex_tup (ax_nil)) (nomark _)) (ex_tup (ax_cons (ex_str) (ax_cons (ex_int) (ax_nil)))) (ex_kon g.k_TAG)) (exOf_no (exOf_nil)))) (.inl rfl)
/-! ### behind_head -/
def N_behind_head : List Str := ["form", "place", "sign", "mark"]
theorem sc_behind_head : FnScope N_behind_head ["form", "place", "sign"] (defScope (top 43)) := ⟨rfl, rfl, rfl, by decide +kernel, rfl, by decide +kernel, by decide +kernel⟩
def T_behind_head : Rho → Out Rho Flw := sqT (asgT 3 (binT idxD (binT idxD (varT 0) (cT (.int 1))) (varT 1))) (sqT (ifT (andT (isB (binT isNotD (varT 3) (cT .none))) (isB (binT neD (varT 3) (varT 2)))) (retT (cT .none)) (nxT)) (retT (ifT (isB (binT ltD (binT addD (varT 1) (cT (.int 1))) (callB lenD (consT (binT idxD (varT 0) (cT (.int 1))) (nilT))))) (tupT (consT (cT (.str ("head" : Str))) (consT (binT addD (varT 1) (cT (.int 1))) (nilT)))) (cT (.tuple [.str ("tag" : Str)])))))
def S_behind_head : List D → Out (List D) D := runF [] 4 T_behind_head
theorem z_behind_head {P : Program} {w : World} {K : PySem.W.Frag} {mg : Str → Option Value} {base : Heap} (g : Gk K mg) (hF : ∃ fd, Fun K "behind_head" "behind_head" (top 43) (He.ga K "behind_head") fd) (hm : mg "behind_head" = some (.ref (He.ga K "behind_head"))) : FnZ P w K mg base "behind_head" 1 [none, none, none] none S_behind_head := by
  obtain ⟨fd, F⟩ := hF
  refine FnZ.of F hm (ps := ["form", "place", "sign"]) (fun _ _ _ _ _ _ us hl => match us, hl with | [_, _, _], _ => rfl) ?_
  exact fnZ0 (k := 0) (rk := none) (N := N_behind_head) (ps := ["form", "place", "sign"]) (O' := [none, none, none, none]) (T := T_behind_head) 3 F sc_behind_head rfl (fun cdv A outer s H E b => by
    have nd := sc_behind_head.nd
    exact bx_cons (O1 := [none, none, none, none]) (sx_set 3 nd (ex_ix (ex_ix (ex_var 0) (ex_int)) (ex_var 1)) (exOf_no (exOf_no (exOf_no (exOf_nil)))))
      (bx_cons (O1 := [none, none, none, none]) (sx_if (O' := [none, none, none, none]) (tx_pw (wx_and (tx_cmp (op_isNotZ) (sem_rD isNotD_flat) (ex_var 3) (ex_non) (nomark _)) (wx_and1 (tx_cmp (op_neZ b.hu) (sem_rD neD_flat) (ex_var 3) (ex_var 2) (nomark _))))) (bx_one (sx_ret (ex_non) (exOf_no (exOf_no (exOf_no (exOf_nil)))))) (bx_nil) (exOf_no (exOf_no (exOf_no (exOf_nil)))))
      (bx_one (sx_ret (ex_if (tx_cmp (op_ltZ b.hu) (sem_rD ordD_flat) (ex_op op_addZ (sem_add) (ex_var 1) (ex_int)) (ex_callB call_lenZ (sem_rDN lenD_flat) g.f_len rfl (ax_cons (ex_ix (ex_var 0) (ex_int)) (ax_nil))) (nomark _)) (ex_tup (ax_cons (ex_str) (ax_cons (ex_op op_addZ (sem_add) (ex_var 1) (ex_int)) (ax_nil)))) (ex_kon g.k_TAG)) (exOf_no (exOf_no (exOf_no (exOf_nil)))))))) (.inl rfl)
/-! ### behind_tag -/
def N_behind_tag : List Str := ["form", "sign", "use"]
theorem sc_behind_tag : FnScope N_behind_tag ["form", "sign"] (defScope (top 44)) := ⟨rfl, rfl, rfl, by decide +kernel, rfl, by decide +kernel, by decide +kernel⟩
def T_behind_tag : Rho → Out Rho Flw := sqT (asgT 2 (callT [none, none] S_use_at (consT (varT 0) (consT (varT 1) (nilT))))) (sqT (ifT (isB (binT isD (varT 2) (cT .none))) (retT (cT .none)) (nxT)) (sqT (ifT (isB (binT eqD (varT 2) (cT (.str ("end" : Str))))) (retT (cT (.tuple [.str ("room" : Str)]))) (nxT)) (retT (ifT (isB (binT eqD (varT 2) (cT (.str ("stop" : Str))))) (cT (.tuple [.str ("over" : Str)])) (tupT (consT (cT (.str ("length" : Str))) (consT (varT 2) (nilT))))))))
def S_behind_tag : List D → Out (List D) D := runF [] 3 T_behind_tag
theorem z_behind_tag {P : Program} {w : World} {K : PySem.W.Frag} {mg : Str → Option Value} {base : Heap} (g : Gk K mg) (z_use_at : FnZ P w K mg base "use_at" 1 [none, none] none S_use_at) (hF : ∃ fd, Fun K "behind_tag" "behind_tag" (top 44) (He.ga K "behind_tag") fd) (hm : mg "behind_tag" = some (.ref (He.ga K "behind_tag"))) : FnZ P w K mg base "behind_tag" 2 [none, none] none S_behind_tag := by
  obtain ⟨fd, F⟩ := hF
  refine FnZ.of F hm (ps := ["form", "sign"]) (fun _ _ _ _ _ _ us hl => match us, hl with | [_, _], _ => rfl) ?_
  exact fnZ0 (k := 1) (rk := none) (N := N_behind_tag) (ps := ["form", "sign"]) (O' := [none, none, none]) (T := T_behind_tag) 2 F sc_behind_tag rfl (fun cdv A outer s H E b => by
    have nd := sc_behind_tag.nd
    exact bx_cons (O1 := [none, none, none]) (sx_set 2 nd (ex_fn z_use_at (b.room.mono (by decide)) b.tk (aj_cons (ex_var 0) (aj_cons (ex_var 1) (aj_nil)))) (exOf_no (exOf_no (exOf_nil))))
      (bx_cons (O1 := [none, none, none]) (sx_if (O' := [none, none, none]) (tx_cmp (op_isZ) (sem_rD isD_flat) (ex_var 2) (ex_non) (nomark _)) (bx_one (sx_ret (ex_non) (exOf_no (exOf_no (exOf_nil))))) (bx_nil) (exOf_no (exOf_no (exOf_nil))))
      (bx_cons (O1 := [none, none, none]) (sx_if (O' := [none, none, none]) (tx_cmp (op_eqZ b.hu) (sem_rD eqD_flat) (ex_var 2) (ex_kon g.k_END) (nomark _)) (bx_one (sx_ret (ex_kon g.k_ROOM) (exOf_no (exOf_no (exOf_nil))))) (bx_nil) (exOf_no (exOf_no (exOf_nil))))
      (bx_one (sx_ret (ex_if (tx_cmp (op_eqZ b.hu) (sem_rD eqD_flat) (ex_var 2) (ex_kon g.k_STOP) (nomark _)) (ex_kon g.k_OVER) (ex_tup (ax_cons (ex_str) (ax_cons (ex_var 2) (ax_nil))))) (exOf_no (exOf_no (exOf_nil)))))))) (.inl rfl)
/-! ### body_stand -/
def N_body_stand : List Str := ["use", "length"]
theorem sc_body_stand : FnScope N_body_stand ["use", "length"] (defScope (top 39)) := ⟨rfl, rfl, rfl, by decide +kernel, rfl, by decide +kernel, by decide +kernel⟩
def T_body_stand : Rho → Out Rho Flw := sqT (ifT (isB (binT gtD (varT 1) (cT (.int 0)))) (retT (tupT (consT (cT (.str ("body" : Str))) (consT (varT 0) (consT (varT 1) (consT (cT (.int 0)) (nilT))))))) (nxT)) (retT (ifT (isB (binT eqD (varT 0) (cT (.str ("check" : Str))))) (tupT (consT (cT (.str ("sum" : Str))) (consT (cT (.int 0)) (nilT)))) (cT (.tuple [.str ("tag" : Str)]))))
def S_body_stand : List D → Out (List D) D := runF [] 2 T_body_stand
theorem z_body_stand {P : Program} {w : World} {K : PySem.W.Frag} {mg : Str → Option Value} {base : Heap} (g : Gk K mg) (hF : ∃ fd, Fun K "body_stand" "body_stand" (top 39) (He.ga K "body_stand") fd) (hm : mg "body_stand" = some (.ref (He.ga K "body_stand"))) : FnZ P w K mg base "body_stand" 1 [none, none] none S_body_stand := by
  obtain ⟨fd, F⟩ := hF
  refine FnZ.of F hm (ps := ["use", "length"]) (fun _ _ _ _ _ _ us hl => match us, hl with | [_, _], _ => rfl) ?_
  exact fnZ0 (k := 0) (rk := none) (N := N_body_stand) (ps := ["use", "length"]) (O' := [none, none]) (T := T_body_stand) 2 F sc_body_stand rfl (fun cdv A outer s H E b => by
    have nd := sc_body_stand.nd
    exact bx_cons (O1 := [none, none]) (sx_if (O' := [none, none]) (tx_cmp (op_gtZ b.hu) (sem_rD ordD_flat) (ex_var 1) (ex_int) (nomark _)) (bx_one (sx_ret (ex_tup (ax_cons (ex_str) (ax_cons (ex_var 0) (ax_cons (ex_var 1) (ax_cons (ex_int) (ax_nil)))))) (exOf_no (exOf_no (exOf_nil))))) (bx_nil) (exOf_no (exOf_no (exOf_nil))))
      (bx_one (sx_ret (ex_if (tx_cmp (op_eqZ b.hu) (sem_rD eqD_flat) (ex_var 0) (ex_kon g.k_CHECK) (nomark _)) (ex_tup (ax_cons (ex_str) (ax_cons (ex_int) (ax_nil)))) (ex_kon g.k_TAG)) (exOf_no (exOf_no (exOf_nil)))))) (.inl rfl)
/-! ### behind_length -/
def N_behind_length : List Str := ["form", "use", "sign", "base", "most", "least"]
theorem sc_behind_length : FnScope N_behind_length ["form", "use", "sign"] (defScope (top 40)) := ⟨rfl, rfl, rfl, by decide +kernel, rfl, by decide +kernel, by decide +kernel⟩
def T_behind_length : Rho → Out Rho Flw := sqT (par2T 3 4 (consT (binT idxD (varT 0) (cT (.int 0))) (consT (binT idxD (varT 0) (cT (.int 3))) (nilT)))) (sqT (ifT (isB (binT eqD (binT idxD (varT 0) (cT (.int 2))) (cT (.str ("one" : Str))))) (retT (ifT (isB (binT leD (varT 2) (varT 4))) (callT [none, none] S_body_stand (consT (varT 1) (consT (varT 2) (nilT)))) (cT .none))) (nxT)) (sqT (asgT 5 (ifT (isB (binT eqD (binT idxD (varT 0) (cT (.int 2))) (cT (.str ("high" : Str))))) (binT mulD (varT 2) (varT 3)) (varT 2))) (retT (ifT (isB (binT leD (varT 5) (varT 4))) (tupT (consT (cT (.str ("second" : Str))) (consT (varT 1) (consT (varT 2) (nilT))))) (cT .none)))))
def S_behind_length : List D → Out (List D) D := runF [] 6 T_behind_length
theorem z_behind_length {P : Program} {w : World} {K : PySem.W.Frag} {mg : Str → Option Value} {base : Heap} (g : Gk K mg) (z_body_stand : FnZ P w K mg base "body_stand" 1 [none, none] none S_body_stand) (hF : ∃ fd, Fun K "behind_length" "behind_length" (top 40) (He.ga K "behind_length") fd) (hm : mg "behind_length" = some (.ref (He.ga K "behind_length"))) : FnZ P w K mg base "behind_length" 2 [none, none, none] none S_behind_length := by
  obtain ⟨fd, F⟩ := hF
  refine FnZ.of F hm (ps := ["form", "use", "sign"]) (fun _ _ _ _ _ _ us hl => match us, hl with | [_, _, _], _ => rfl) ?_
  exact fnZ0 (k := 1) (rk := none) (N := N_behind_length) (ps := ["form", "use", "sign"]) (O' := [none, none, none, none, none, none]) (T := T_behind_length) 3 F sc_behind_length rfl (fun cdv A outer s H E b => by
    have nd := sc_behind_length.nd
    exact bx_cons (O1 := [none, none, none, none, none, none]) (sx_par2 3 4 (k := none) (l := none) b.calm nd (af_cons (ex_ix (ex_var 0) (ex_int)) (af_cons (ex_ix (ex_var 0) (ex_int)) (af_nil))) (exOf_no (exOf_no (exOf_no (exOf_nil)))) (by rfl))
      (bx_cons (O1 := [none, none, none, none, none, none]) (sx_if (O' := [none, none, none, none, none, none]) (tx_cmp (op_eqZ b.hu) (sem_rD eqD_flat) (ex_ix (ex_var 0) (ex_int)) (ex_kon g.k_ONE) (nomark _)) (bx_one (sx_ret (ex_if (tx_cmp (op_leZ b.hu) (sem_rD ordD_flat) (ex_var 2) (ex_var 4) (nomark _)) (ex_fn z_body_stand (b.room.mono (by decide)) b.tk (aj_cons (ex_var 1) (aj_cons (ex_var 2) (aj_nil)))) (ex_non)) (exOf_no (exOf_no (exOf_no (exOf_nil)))))) (bx_nil) (exOf_no (exOf_no (exOf_no (exOf_nil)))))
      (bx_cons (O1 := [none, none, none, none, none, none]) (sx_set 5 nd (ex_if (tx_cmp (op_eqZ b.hu) (sem_rD eqD_flat) (ex_ix (ex_var 0) (ex_int)) (ex_kon g.k_HIGH) (nomark _)) (ex_op op_mulZ (sem_rD intD_flat) (ex_var 2) (ex_var 3)) (ex_var 2)) (exOf_no (exOf_no (exOf_no (exOf_nil)))))
      (bx_one (sx_ret (ex_if (tx_cmp (op_leZ b.hu) (sem_rD ordD_flat) (ex_var 5) (ex_var 4) (nomark _)) (ex_tup (ax_cons (ex_str) (ax_cons (ex_var 1) (ax_cons (ex_var 2) (ax_nil))))) (ex_non)) (exOf_no (exOf_no (exOf_no (exOf_nil))))))))) (.inl rfl)
/-! ### behind_second -/
def N_behind_second : List Str := ["form", "use", "first", "sign", "length"]
theorem sc_behind_second : FnScope N_behind_second ["form", "use", "first", "sign"] (defScope (top 41)) := ⟨rfl, rfl, rfl, by decide +kernel, rfl, by decide +kernel, by decide +kernel⟩
def T_behind_second : Rho → Out Rho Flw := sqT (asgT 4 (ifT (isB (binT eqD (binT idxD (varT 0) (cT (.int 2))) (cT (.str ("high" : Str))))) (binT addD (binT mulD (varT 2) (binT idxD (varT 0) (cT (.int 0)))) (varT 3)) (binT addD (binT mulD (varT 3) (binT idxD (varT 0) (cT (.int 0)))) (varT 2)))) (retT (ifT (isB (binT leD (varT 4) (binT idxD (varT 0) (cT (.int 3))))) (callT [none, none] S_body_stand (consT (varT 1) (consT (varT 4) (nilT)))) (cT .none)))
def S_behind_second : List D → Out (List D) D := runF [] 5 T_behind_second
theorem z_behind_second {P : Program} {w : World} {K : PySem.W.Frag} {mg : Str → Option Value} {base : Heap} (g : Gk K mg) (z_body_stand : FnZ P w K mg base "body_stand" 1 [none, none] none S_body_stand) (hF : ∃ fd, Fun K "behind_second" "behind_second" (top 41) (He.ga K "behind_second") fd) (hm : mg "behind_second" = some (.ref (He.ga K "behind_second"))) : FnZ P w K mg base "behind_second" 2 [none, none, none, none] none S_behind_second := by
  obtain ⟨fd, F⟩ := hF
  refine FnZ.of F hm (ps := ["form", "use", "first", "sign"]) (fun _ _ _ _ _ _ us hl => match us, hl with | [_, _, _, _], _ => rfl) ?_
  exact fnZ0 (k := 1) (rk := none) (N := N_behind_second) (ps := ["form", "use", "first", "sign"]) (O' := [none, none, none, none, none]) (T := T_behind_second) 4 F sc_behind_second rfl (fun cdv A outer s H E b => by
    have nd := sc_behind_second.nd
    exact bx_cons (O1 := [none, none, none, none, none]) (sx_set 4 nd (ex_if (tx_cmp (op_eqZ b.hu) (sem_rD eqD_flat) (ex_ix (ex_var 0) (ex_int)) (ex_kon g.k_HIGH) (nomark _)) (ex_op op_addZ (sem_add) (ex_op op_mulZ (sem_rD intD_flat) (ex_var 2) (ex_ix (ex_var 0) (ex_int))) (ex_var 3)) (ex_op op_addZ (sem_add) (ex_op op_mulZ (sem_rD intD_flat) (ex_var 3) (ex_ix (ex_var 0) (ex_int))) (ex_var 2))) (exOf_no (exOf_no (exOf_no (exOf_no (exOf_nil))))))
      (bx_one (sx_ret (ex_if (tx_cmp (op_leZ b.hu) (sem_rD ordD_flat) (ex_var 4) (ex_ix (ex_var 0) (ex_int)) (nomark _)) (ex_fn z_body_stand (b.room.mono (by decide)) b.tk (aj_cons (ex_var 1) (aj_cons (ex_var 4) (aj_nil)))) (ex_non)) (exOf_no (exOf_no (exOf_no (exOf_no (exOf_nil)))))))) (.inl rfl)
/-! ### behind_body -/
def N_behind_body : List Str := ["form", "stand", "sign", "use", "left", "total"]
theorem sc_behind_body : FnScope N_behind_body ["form", "stand", "sign"] (defScope (top 42)) := ⟨rfl, rfl, rfl, by decide +kernel, rfl, by decide +kernel, by decide +kernel⟩
def T_behind_body : Rho → Out Rho Flw := sqT (tgtT (tupG 3 (consG (setG 3) (consG (setG 4) (consG (setG 5) (nilG))))) (slcT (varT 1) (someP (cT (.int 1))) (noP))) (sqT (ifT (isB (binT eqD (varT 3) (cT (.str ("check" : Str))))) (asgT 5 (binT modD (callB intC (consT (binT addD (varT 5) (varT 2)) (nilT))) (binT idxD (varT 0) (cT (.int 0))))) (nxT)) (sqT (ifT (isB (binT gtD (varT 4) (cT (.int 1)))) (retT (tupT (consT (cT (.str ("body" : Str))) (consT (varT 3) (consT (binT subD (varT 4) (cT (.int 1))) (consT (varT 5) (nilT))))))) (nxT)) (retT (ifT (isB (binT eqD (varT 3) (cT (.str ("check" : Str))))) (tupT (consT (cT (.str ("sum" : Str))) (consT (varT 5) (nilT)))) (cT (.tuple [.str ("tag" : Str)]))))))
def S_behind_body : List D → Out (List D) D := runF [] 6 T_behind_body
theorem z_behind_body {P : Program} {w : World} {K : PySem.W.Frag} {mg : Str → Option Value} {base : Heap} (g : Gk K mg) (hF : ∃ fd, Fun K "behind_body" "behind_body" (top 42) (He.ga K "behind_body") fd) (hm : mg "behind_body" = some (.ref (He.ga K "behind_body"))) : FnZ P w K mg base "behind_body" 1 [none, none, none] none S_behind_body := by
  obtain ⟨fd, F⟩ := hF
  refine FnZ.of F hm (ps := ["form", "stand", "sign"]) (fun _ _ _ _ _ _ us hl => match us, hl with | [_, _, _], _ => rfl) ?_
  exact fnZ0 (k := 0) (rk := none) (N := N_behind_body) (ps := ["form", "stand", "sign"]) (O' := [none, none, none, none, none, none]) (T := T_behind_body) 3 F sc_behind_body rfl (fun cdv A outer s H E b => by
    have nd := sc_behind_body.nd
    exact bx_cons (O1 := [none, none, none, none, none, none]) (sx_tgt (ex_slice (ex_var 1) (px_some (ex_int)) (px_none)) (gx_tup b.calm (gxs_cons (gx_name 3 nd) (gxs_cons (gx_name 4 nd) (gxs_cons (gx_name 5 nd) (gxs_nil))))) (exOf_no (exOf_no (exOf_no (exOf_nil)))))
      (bx_cons (O1 := [none, none, none, none, none, none]) (sx_if (O' := [none, none, none, none, none, none]) (tx_cmp (op_eqZ b.hu) (sem_rD eqD_flat) (ex_var 3) (ex_kon g.k_CHECK) (nomark _)) (bx_one (sx_set 5 nd (ex_op op_modZ (sem_rD intD_flat) (ex_callTy call_intZ (sem_rDN intC_flat) g.f_int rfl (ax_cons (ex_op op_addZ (sem_add) (ex_var 5) (ex_var 2)) (ax_nil))) (ex_ix (ex_var 0) (ex_int))) (exOf_no (exOf_no (exOf_no (exOf_nil)))))) (bx_nil) (exOf_no (exOf_no (exOf_no (exOf_nil)))))
      (bx_cons (O1 := [none, none, none, none, none, none]) (sx_if (O' := [none, none, none, none, none, none]) (tx_cmp (op_gtZ b.hu) (sem_rD ordD_flat) (ex_var 4) (ex_int) (nomark _)) (bx_one (sx_ret (ex_tup (ax_cons (ex_str) (ax_cons (ex_var 3) (ax_cons (ex_op op_subZ (sem_rD intD_flat) (ex_var 4) (ex_int)) (ax_cons (ex_var 5) (ax_nil)))))) (exOf_no (exOf_no (exOf_no (exOf_nil)))))) (bx_nil) (exOf_no (exOf_no (exOf_no (exOf_nil)))))
      (bx_one (sx_ret (ex_if (tx_cmp (op_eqZ b.hu) (sem_rD eqD_flat) (ex_var 3) (ex_kon g.k_CHECK) (nomark _)) (ex_tup (ax_cons (ex_str) (ax_cons (ex_var 5) (ax_nil)))) (ex_kon g.k_TAG)) (exOf_no (exOf_no (exOf_no (exOf_nil))))))))) (.inl rfl)
/-! ### step -/
def N_step : List Str := ["form", "stand", "sign", "word"]
theorem sc_step : FnScope N_step ["form", "stand", "sign"] (defScope (top 45)) := ⟨rfl, rfl, rfl, by decide +kernel, rfl, by decide +kernel, by decide +kernel⟩
def T_step : Rho → Out Rho Flw := sqT (asgT 3 (binT idxD (varT 1) (cT (.int 0)))) (sqT (ifT (isB (binT eqD (varT 3) (cT (.str ("head" : Str))))) (retT (callT [none, none, none] S_behind_head (consT (varT 0) (consT (binT idxD (varT 1) (cT (.int 1))) (consT (varT 2) (nilT)))))) (nxT)) (sqT (ifT (isB (binT eqD (varT 3) (cT (.str ("tag" : Str))))) (retT (callT [none, none] S_behind_tag (consT (varT 0) (consT (varT 2) (nilT))))) (nxT)) (sqT (ifT (isB (binT eqD (varT 3) (cT (.str ("length" : Str))))) (retT (callT [none, none, none] S_behind_length (consT (varT 0) (consT (binT idxD (varT 1) (cT (.int 1))) (consT (varT 2) (nilT)))))) (nxT)) (sqT (ifT (isB (binT eqD (varT 3) (cT (.str ("second" : Str))))) (retT (callT [none, none, none, none] S_behind_second (consT (varT 0) (consT (binT idxD (varT 1) (cT (.int 1))) (consT (binT idxD (varT 1) (cT (.int 2))) (consT (varT 2) (nilT))))))) (nxT)) (sqT (ifT (isB (binT eqD (varT 3) (cT (.str ("body" : Str))))) (retT (callT [none, none, none] S_behind_body (consT (varT 0) (consT (varT 1) (consT (varT 2) (nilT)))))) (nxT)) (sqT (ifT (isB (binT eqD (varT 3) (cT (.str ("sum" : Str))))) (retT (ifT (isB (binT eqD (varT 2) (binT idxD (varT 1) (cT (.int 1))))) (cT (.tuple [.str ("tag" : Str)])) (cT .none))) (nxT)) (retT (ifT (isB (binT eqD (varT 3) (cT (.str ("room" : Str))))) (cT (.tuple [.str ("room" : Str)])) (cT .none)))))))))
def S_step : List D → Out (List D) D := runF [] 4 T_step
theorem z_step {P : Program} {w : World} {K : PySem.W.Frag} {mg : Str → Option Value} {base : Heap} (g : Gk K mg) (z_behind_body : FnZ P w K mg base "behind_body" 1 [none, none, none] none S_behind_body) (z_behind_head : FnZ P w K mg base "behind_head" 1 [none, none, none] none S_behind_head) (z_behind_length : FnZ P w K mg base "behind_length" 2 [none, none, none] none S_behind_length) (z_behind_second : FnZ P w K mg base "behind_second" 2 [none, none, none, none] none S_behind_second) (z_behind_tag : FnZ P w K mg base "behind_tag" 2 [none, none] none S_behind_tag) (hF : ∃ fd, Fun K "step" "step" (top 45) (He.ga K "step") fd) (hm : mg "step" = some (.ref (He.ga K "step"))) : FnZ P w K mg base "step" 3 [none, none, none] none S_step := by
  obtain ⟨fd, F⟩ := hF
  refine FnZ.of F hm (ps := ["form", "stand", "sign"]) (fun _ _ _ _ _ _ us hl => match us, hl with | [_, _, _], _ => rfl) ?_
  exact fnZ0 (k := 2) (rk := none) (N := N_step) (ps := ["form", "stand", "sign"]) (O' := [none, none, none, none]) (T := T_step) 3 F sc_step rfl (fun cdv A outer s H E b => by
    have nd := sc_step.nd
    exact bx_cons (O1 := [none, none, none, none]) (sx_set 3 nd (ex_ix (ex_var 1) (ex_int)) (exOf_no (exOf_no (exOf_no (exOf_nil)))))
      (bx_cons (O1 := [none, none, none, none]) (sx_if (O' := [none, none, none, none]) (tx_cmp (op_eqZ b.hu) (sem_rD eqD_flat) (ex_var 3) (ex_str) (nomark _)) (bx_one (sx_ret (ex_fn z_behind_head (b.room.mono (by decide)) b.tk (aj_cons (ex_var 0) (aj_cons (ex_ix (ex_var 1) (ex_int)) (aj_cons (ex_var 2) (aj_nil))))) (exOf_no (exOf_no (exOf_no (exOf_nil)))))) (bx_nil) (exOf_no (exOf_no (exOf_no (exOf_nil)))))
      (bx_cons (O1 := [none, none, none, none]) (sx_if (O' := [none, none, none, none]) (tx_cmp (op_eqZ b.hu) (sem_rD eqD_flat) (ex_var 3) (ex_str) (nomark _)) (bx_one (sx_ret (ex_fn z_behind_tag (b.room.mono (by decide)) b.tk (aj_cons (ex_var 0) (aj_cons (ex_var 2) (aj_nil)))) (exOf_no (exOf_no (exOf_no (exOf_nil)))))) (bx_nil) (exOf_no (exOf_no (exOf_no (exOf_nil)))))
      (bx_cons (O1 := [none, none, none, none]) (sx_if (O' := [none, none, none, none]) (tx_cmp (op_eqZ b.hu) (sem_rD eqD_flat) (ex_var 3) (ex_str) (nomark _)) (bx_one (sx_ret (ex_fn z_behind_length (b.room.mono (by decide)) b.tk (aj_cons (ex_var 0) (aj_cons (ex_ix (ex_var 1) (ex_int)) (aj_cons (ex_var 2) (aj_nil))))) (exOf_no (exOf_no (exOf_no (exOf_nil)))))) (bx_nil) (exOf_no (exOf_no (exOf_no (exOf_nil)))))
      (bx_cons (O1 := [none, none, none, none]) (sx_if (O' := [none, none, none, none]) (tx_cmp (op_eqZ b.hu) (sem_rD eqD_flat) (ex_var 3) (ex_str) (nomark _)) (bx_one (sx_ret (ex_fn z_behind_second (b.room.mono (by decide)) b.tk (aj_cons (ex_var 0) (aj_cons (ex_ix (ex_var 1) (ex_int)) (aj_cons (ex_ix (ex_var 1) (ex_int)) (aj_cons (ex_var 2) (aj_nil)))))) (exOf_no (exOf_no (exOf_no (exOf_nil)))))) (bx_nil) (exOf_no (exOf_no (exOf_no (exOf_nil)))))
      (bx_cons (O1 := [none, none, none, none]) (sx_if (O' := [none, none, none, none]) (tx_cmp (op_eqZ b.hu) (sem_rD eqD_flat) (ex_var 3) (ex_str) (nomark _)) (bx_one (sx_ret (ex_fn z_behind_body (b.room.mono (by decide)) b.tk (aj_cons (ex_var 0) (aj_cons (ex_var 1) (aj_cons (ex_var 2) (aj_nil))))) (exOf_no (exOf_no (exOf_no (exOf_nil)))))) (bx_nil) (exOf_no (exOf_no (exOf_no (exOf_nil)))))
      (bx_cons (O1 := [none, none, none, none]) (sx_if (O' := [none, none, none, none]) (tx_cmp (op_eqZ b.hu) (sem_rD eqD_flat) (ex_var 3) (ex_str) (nomark _)) (bx_one (sx_ret (ex_if (tx_cmp (op_eqZ b.hu) (sem_rD eqD_flat) (ex_var 2) (ex_ix (ex_var 1) (ex_int)) (nomark _)) (ex_kon g.k_TAG) (ex_non)) (exOf_no (exOf_no (exOf_no (exOf_nil)))))) (bx_nil) (exOf_no (exOf_no (exOf_no (exOf_nil)))))
      (bx_one (sx_ret (ex_if (tx_cmp (op_eqZ b.hu) (sem_rD eqD_flat) (ex_var 3) (ex_str) (nomark _)) (ex_kon g.k_ROOM) (ex_non)) (exOf_no (exOf_no (exOf_no (exOf_nil))))))))))))) (.inl rfl)
/-! ### is_ending -/
def N_is_ending : List Str := ["form", "stand", "sign", "use"]
theorem sc_is_ending : FnScope N_is_ending ["form", "stand"] (defScope (top 46)) := ⟨rfl, rfl, rfl, by decide +kernel, rfl, by decide +kernel, by decide +kernel⟩
def T_is_ending : Rho → Out Rho Flw := sqT (ifT (isB (binT inD (varT 1) (tupT (consT (cT (.tuple [.str ("room" : Str)])) (consT (cT (.tuple [.str ("over" : Str)])) (nilT)))))) (retT (cT (.bool true))) (nxT)) (retT (andV (binT eqD (varT 1) (cT (.tuple [.str ("tag" : Str)]))) (notV (callB anyD (consT (lcT [2, 3] (seqT (binT idxD (varT 0) (cT (.int 4)))) (tupG 2 (consG (setG 2) (consG (setG 3) (nilG)))) (yesT) (binT inD (varT 3) (tupT (consT (cT (.str ("end" : Str))) (consT (cT (.str ("stop" : Str))) (nilT)))))) (nilT))))))
def S_is_ending : List D → Out (List D) D := runF [] 4 T_is_ending
theorem z_is_ending {P : Program} {w : World} {K : PySem.W.Frag} {mg : Str → Option Value} {base : Heap} (g : Gk K mg) (hF : ∃ fd, Fun K "is_ending" "is_ending" (top 46) (He.ga K "is_ending") fd) (hm : mg "is_ending" = some (.ref (He.ga K "is_ending"))) : FnZ P w K mg base "is_ending" 1 [none, none] none S_is_ending := by
  obtain ⟨fd, F⟩ := hF
  refine FnZ.of F hm (ps := ["form", "stand"]) (fun _ _ _ _ _ _ us hl => match us, hl with | [_, _], _ => rfl) ?_
  exact fnZ0 (k := 0) (rk := none) (N := N_is_ending) (ps := ["form", "stand"]) (O' := [none, none, none, none]) (T := T_is_ending) 2 F sc_is_ending rfl (fun cdv A outer s H E b => by
    have nd := sc_is_ending.nd
    exact bx_cons (O1 := [none, none, none, none]) (sx_if (O' := [none, none, none, none]) (tx_cmp (op_inZ b.hu) (sem_rD inD_flat) (ex_var 1) (ex_tup (ax_cons (ex_kon g.k_ROOM) (ax_cons (ex_kon g.k_OVER) (ax_nil)))) (by with_unfolding_all rfl)) (bx_one (sx_ret (ex_bl) (exOf_no (exOf_no (exOf_nil))))) (bx_nil) (exOf_no (exOf_no (exOf_nil))))
      (bx_one (sx_ret (ex_and (ex_cmp (op_eqZ b.hu) (sem_rD eqD_flat) (ex_var 1) (ex_kon g.k_TAG) (nomark _)) (ex_one (ex_not (ex_callB (call_anyZ b.calm) (sem_rDN anyD_flat) g.f_any rfl (ax_cons (ex_of_fx (fx_lc (own := [("sign", 2), ("use", 3)]) b.calm nd (ix_seqZ (ex_ix (ex_var 0) (ex_int))) (blkOk_of (by kernel_rfl)) (none_cons rfl (none_cons rfl (fun _ h => nomatch h))) (fun _ _ _ _ _ => gx_tup (by exact b.calm) (gxs_cons (gx_name 2 nd) (gxs_cons (gx_name 3 nd) (gxs_nil)))) (fun _ _ _ _ _ => txs_nil) (fun _ _ _ _ _ => ex_cmp (op_inZ (by exact b.hu)) (sem_rD inD_flat) (ex_var 3) (ex_tup (ax_cons (ex_kon g.k_END) (ax_cons (ex_kon g.k_STOP) (ax_nil)))) (by with_unfolding_all rfl)))) (ax_nil)))))) (exOf_no (exOf_no (exOf_nil)))))) (.inl rfl)
/-! ### word_at -/
def N_word_at : List Str := ["stand"]
theorem sc_word_at : FnScope N_word_at ["stand"] (defScope (top 52)) := ⟨rfl, rfl, rfl, by decide +kernel, rfl, by decide +kernel, by decide +kernel⟩
def T_word_at : Rho → Out Rho Flw := badT
def S_word_at : List D → Out (List D) D := runF [] 1 T_word_at
theorem z_word_at {P : Program} {w : World} {K : PySem.W.Frag} {mg : Str → Option Value} {base : Heap} (g : Gk K mg) (hF : ∃ fd, Fun K "word_at" "word_at" (top 52) (He.ga K "word_at") fd) (hm : mg "word_at" = some (.ref (He.ga K "word_at"))) : FnZ P w K mg base "word_at" 1 [none] none S_word_at := by
  obtain ⟨fd, F⟩ := hF
  refine FnZ.of F hm (ps := ["stand"]) (fun _ _ _ _ _ _ us hl => match us, hl with | [_], _ => rfl) ?_
  exact fnZ0 (k := 0) (rk := none) (N := N_word_at) (ps := ["stand"]) (O' := [none]) (T := T_word_at) 1 F sc_word_at rfl (fun cdv A outer s H E b => by
    have nd := sc_word_at.nd
    exact bx_one (sx_bad)) (.inl rfl)
/-! ### refusal_of -/
def N_refusal_of : List Str := ["form", "file", "stand", "index", "sign", "after"]
theorem sc_refusal_of : FnScope N_refusal_of ["form", "file"] (defScope (top 53)) := ⟨rfl, rfl, rfl, by decide +kernel, rfl, by decide +kernel, by decide +kernel⟩
def T_refusal_of : Rho → Out Rho Flw := sqT (asgT 2 (callT [none] S_first_stand (consT (varT 0) (nilT)))) (sqT (forS (rngT enumD (consT (varT 1) (nilT))) (tupG 2 (consG (setG 3) (consG (setG 4) (nilG)))) (sqT (asgT 5 (callT [none, none, none] S_step (consT (varT 0) (consT (varT 2) (consT (varT 4) (nilT)))))) (sqT (ifT (isB (binT isD (varT 5) (cT .none))) (retT (tupT (consT (varT 3) (consT (callT [none] S_word_at (consT (varT 2) (nilT))) (nilT))))) (nxT)) (asgT 2 (varT 5))))) (retT (ifT (isB (callT [none, none] S_is_ending (consT (varT 0) (consT (varT 2) (nilT))))) (cT .none) (tupT (consT (callB lenD (consT (varT 1) (nilT))) (consT (cT (.str ("short" : Str))) (nilT)))))))
def S_refusal_of : List D → Out (List D) D := runF [] 6 T_refusal_of
theorem z_refusal_of {P : Program} {w : World} {K : PySem.W.Frag} {mg : Str → Option Value} {base : Heap} (g : Gk K mg) (z_first_stand : FnZ P w K mg base "first_stand" 1 [none] none S_first_stand) (z_is_ending : FnZ P w K mg base "is_ending" 1 [none, none] none S_is_ending) (z_step : FnZ P w K mg base "step" 3 [none, none, none] none S_step) (z_word_at : FnZ P w K mg base "word_at" 1 [none] none S_word_at) (hF : ∃ fd, Fun K "refusal_of" "refusal_of" (top 53) (He.ga K "refusal_of") fd) (hm : mg "refusal_of" = some (.ref (He.ga K "refusal_of"))) : FnZ P w K mg base "refusal_of" 4 [none, none] none S_refusal_of := by
  obtain ⟨fd, F⟩ := hF
  refine FnZ.of F hm (ps := ["form", "file"]) (fun _ _ _ _ _ _ us hl => match us, hl with | [_, _], _ => rfl) ?_
  exact fnZ0 (k := 3) (rk := none) (N := N_refusal_of) (ps := ["form", "file"]) (O' := [none, none, none, none, none, none]) (T := T_refusal_of) 2 F sc_refusal_of rfl (fun cdv A outer s H E b => by
    have nd := sc_refusal_of.nd
    exact bx_cons (O1 := [none, none, none, none, none, none]) (sx_set 2 nd (ex_fn z_first_stand (b.room.mono (by decide)) b.tk (aj_cons (ex_var 0) (aj_nil))) (exOf_no (exOf_no (exOf_nil))))
      (bx_cons (O1 := [none, none, none, none, none, none]) (sx_for b.own b.calm (ix_enum g.f_enumerate (ax_cons (ex_var 1) (ax_nil))) (gx_tup b.calm (gxs_cons (gx_name 3 nd) (gxs_cons (gx_name 4 nd) (gxs_nil)))) (bx_cons (O1 := [none, none, none, none, none, none]) (sx_set 5 nd (ex_fn z_step (b.room.mono (by decide)) b.tk (aj_cons (ex_var 0) (aj_cons (ex_var 2) (aj_cons (ex_var 4) (aj_nil))))) (exOf_no (exOf_no (exOf_nil))))
      (bx_cons (O1 := [none, none, none, none, none, none]) (sx_if (O' := [none, none, none, none, none, none]) (tx_cmp (op_isZ) (sem_rD isD_flat) (ex_var 5) (ex_non) (nomark _)) (bx_one (sx_ret (ex_tup (ax_cons (ex_var 3) (ax_cons (ex_fn z_word_at (b.room.mono (by decide)) b.tk (aj_cons (ex_var 2) (aj_nil))) (ax_nil)))) (exOf_no (exOf_no (exOf_nil))))) (bx_nil) (exOf_no (exOf_no (exOf_nil))))
      (bx_one (sx_set 2 nd (ex_var 5) (exOf_no (exOf_no (exOf_nil))))))) (exOf_no (exOf_no (exOf_nil))))
      (bx_one (sx_ret (ex_if (tx_val (ex_fn z_is_ending (b.room.mono (by decide)) b.tk (aj_cons (ex_var 0) (aj_cons (ex_var 2) (aj_nil))))) (ex_non) (ex_tup (ax_cons (ex_callB call_lenZ (sem_rDN lenD_flat) g.f_len rfl (ax_cons (ex_var 1) (ax_nil))) (ax_cons (ex_kon g.k_SHORT) (ax_nil))))) (exOf_no (exOf_no (exOf_nil))))))) (.inl rfl)
/-! ### check_read -/
def N_check_read : List Str := ["form", "file", "found", "index", "word"]
theorem sc_check_read : FnScope N_check_read ["form", "file"] (defScope (top 64)) := ⟨rfl, rfl, rfl, by decide +kernel, rfl, by decide +kernel, by decide +kernel⟩
def T_check_read : Rho → Out Rho Flw := sqT (asgT 2 (callT [none, none] S_refusal_of (consT (varT 0) (consT (varT 1) (nilT))))) (ifT (isB (binT isNotD (varT 2) (cT .none))) (sqT (tgtT (tupG 2 (consG (setG 3) (consG (setG 4) (nilG)))) (varT 2)) (badT)) (nxT))
def S_check_read : List D → Out (List D) D := runF [] 5 T_check_read
theorem z_check_read {P : Program} {w : World} {K : PySem.W.Frag} {mg : Str → Option Value} {base : Heap} (g : Gk K mg) (z_refusal_of : FnZ P w K mg base "refusal_of" 4 [none, none] none S_refusal_of) (hF : ∃ fd, Fun K "check_read" "check_read" (top 64) (He.ga K "check_read") fd) (hm : mg "check_read" = some (.ref (He.ga K "check_read"))) : FnZ P w K mg base "check_read" 5 [none, none] none S_check_read := by
  obtain ⟨fd, F⟩ := hF
  refine FnZ.of F hm (ps := ["form", "file"]) (fun _ _ _ _ _ _ us hl => match us, hl with | [_, _], _ => rfl) ?_
  exact fnZ0 (k := 4) (rk := none) (N := N_check_read) (ps := ["form", "file"]) (O' := [none, none, none, none, none]) (T := T_check_read) 2 F sc_check_read rfl (fun cdv A outer s H E b => by
    have nd := sc_check_read.nd
    exact bx_cons (O1 := [none, none, none, none, none]) (sx_set 2 nd (ex_fn z_refusal_of (b.room.mono (by decide)) b.tk (aj_cons (ex_var 0) (aj_cons (ex_var 1) (aj_nil)))) (exOf_no (exOf_no (exOf_nil))))
      (bx_one (sx_if (O' := [none, none, none, none, none]) (tx_cmp (op_isNotZ) (sem_rD isNotD_flat) (ex_var 2) (ex_non) (nomark _)) (bx_cons (O1 := [none, none, none, none, none]) (sx_tgt (ex_var 2) (gx_tup b.calm (gxs_cons (gx_name 3 nd) (gxs_cons (gx_name 4 nd) (gxs_nil)))) (exOf_no (exOf_no (exOf_nil))))
      (bx_one (sx_bad))) (bx_nil) (exOf_no (exOf_no (exOf_nil)))))) (.inl rfl)
/-! ### told_at -/
def N_told_at : List Str := ["form", "stand", "sign", "told", "ahead", "tag", "body"]
theorem sc_told_at : FnScope N_told_at ["form", "stand", "sign", "told"] (defScope (top 54)) := ⟨rfl, rfl, rfl, by decide +kernel, rfl, by decide +kernel, by decide +kernel⟩
def T_told_at : Rho → Out Rho Flw := sqT (ifT (andT (isB (binT eqD (varT 1) (cT (.tuple [.str ("tag" : Str)])))) (isB (binT inD (callT [none, none] S_use_at (consT (varT 0) (consT (varT 2) (nilT)))) (cT (.tuple [.str ("keep" : Str), .str ("check" : Str)]))))) (retT (tupT (starT (varT 3) (consT (tupT (consT (varT 2) (consT (tupT (nilT)) (nilT)))) (nilT))))) (nxT)) (sqT (ifT (andT (isB (binT eqD (binT idxD (varT 1) (cT (.int 0))) (cT (.str ("body" : Str))))) (isB (binT inD (binT idxD (varT 1) (cT (.int 1))) (cT (.tuple [.str ("keep" : Str), .str ("check" : Str)]))))) (sqT (tgtT (starG 2 0 (consG (setG 4) (consG (tupG 2 (consG (setG 5) (consG (setG 6) (nilG)))) (nilG)))) (varT 3)) (retT (tupT (starT (varT 4) (consT (tupT (consT (varT 5) (consT (tupT (starT (varT 6) (consT (varT 2) (nilT)))) (nilT)))) (nilT)))))) (nxT)) (retT (varT 3)))
def S_told_at : List D → Out (List D) D := runF [] 7 T_told_at
theorem z_told_at {P : Program} {w : World} {K : PySem.W.Frag} {mg : Str → Option Value} {base : Heap} (g : Gk K mg) (z_use_at : FnZ P w K mg base "use_at" 1 [none, none] none S_use_at) (hF : ∃ fd, Fun K "told_at" "told_at" (top 54) (He.ga K "told_at") fd) (hm : mg "told_at" = some (.ref (He.ga K "told_at"))) : FnZ P w K mg base "told_at" 2 [none, none, none, none] none S_told_at := by
  obtain ⟨fd, F⟩ := hF
  refine FnZ.of F hm (ps := ["form", "stand", "sign", "told"]) (fun _ _ _ _ _ _ us hl => match us, hl with | [_, _, _, _], _ => rfl) ?_
  exact fnZ0 (k := 1) (rk := none) (N := N_told_at) (ps := ["form", "stand", "sign", "told"]) (O' := [none, none, none, none, none, none, none]) (T := T_told_at) 4 F sc_told_at rfl (fun cdv A outer s H E b => by
    have nd := sc_told_at.nd
    exact bx_cons (O1 := [none, none, none, none, none, none, none]) (sx_if (O' := [none, none, none, none, none, none, none]) (tx_pw (wx_and (tx_cmp (op_eqZ b.hu) (sem_rD eqD_flat) (ex_var 1) (ex_kon g.k_TAG) (nomark _)) (wx_and1 (tx_cmp (op_inZ b.hu) (sem_rD inD_flat) (ex_fn z_use_at (b.room.mono (by decide)) b.tk (aj_cons (ex_var 0) (aj_cons (ex_var 2) (aj_nil)))) (ex_kon g.k_TOLD) (by with_unfolding_all rfl))))) (bx_one (sx_ret (ex_tup (ax_star (ex_var 3) (ax_cons (ex_tup (ax_cons (ex_var 2) (ax_cons (ex_tup (ax_nil)) (ax_nil)))) (ax_nil)))) (exOf_no (exOf_no (exOf_no (exOf_no (exOf_nil))))))) (bx_nil) (exOf_no (exOf_no (exOf_no (exOf_no (exOf_nil))))))
      (bx_cons (O1 := [none, none, none, none, none, none, none]) (sx_if (O' := [none, none, none, none, none, none, none]) (tx_pw (wx_and (tx_cmp (op_eqZ b.hu) (sem_rD eqD_flat) (ex_ix (ex_var 1) (ex_int)) (ex_str) (nomark _)) (wx_and1 (tx_cmp (op_inZ b.hu) (sem_rD inD_flat) (ex_ix (ex_var 1) (ex_int)) (ex_kon g.k_TOLD) (by with_unfolding_all rfl))))) (bx_cons (O1 := [none, none, none, none, none, none, none]) (sx_star b.calm (ex_var 3) (gxs_star (gx_name 4 nd) (gxs_cons (gx_tup b.calm (gxs_cons (gx_name 5 nd) (gxs_cons (gx_name 6 nd) (gxs_nil)))) (gxs_nil))) (exOf_no (exOf_no (exOf_no (exOf_no (exOf_nil))))))
      (bx_one (sx_ret (ex_tup (ax_star (ex_var 4) (ax_cons (ex_tup (ax_cons (ex_var 5) (ax_cons (ex_tup (ax_star (ex_var 6) (ax_cons (ex_var 2) (ax_nil)))) (ax_nil)))) (ax_nil)))) (exOf_no (exOf_no (exOf_no (exOf_no (exOf_nil)))))))) (bx_nil) (exOf_no (exOf_no (exOf_no (exOf_no (exOf_nil))))))
      (bx_one (sx_ret (ex_var 3) (exOf_no (exOf_no (exOf_no (exOf_no (exOf_nil))))))))) (.inl rfl)
/-! ### told_in -/
def N_told_in : List Str := ["form", "signs", "stand", "told", "sign"]
theorem sc_told_in : FnScope N_told_in ["form", "signs"] (defScope (top 55)) := ⟨rfl, rfl, rfl, by decide +kernel, rfl, by decide +kernel, by decide +kernel⟩
def T_told_in : Rho → Out Rho Flw := sqT (par2T 2 3 (consT (callT [none] S_first_stand (consT (varT 0) (nilT))) (consT (tupT (nilT)) (nilT)))) (sqT (forS (seqT (varT 1)) (setG 4) (sqT (asgT 3 (callT [none, none, none, none] S_told_at (consT (varT 0) (consT (varT 2) (consT (varT 4) (consT (varT 3) (nilT))))))) (asgT 2 (callT [none, none, none] S_step (consT (varT 0) (consT (varT 2) (consT (varT 4) (nilT)))))))) (retT (varT 3)))
def S_told_in : List D → Out (List D) D := runF [] 5 T_told_in
theorem z_told_in {P : Program} {w : World} {K : PySem.W.Frag} {mg : Str → Option Value} {base : Heap} (g : Gk K mg) (z_first_stand : FnZ P w K mg base "first_stand" 1 [none] none S_first_stand) (z_step : FnZ P w K mg base "step" 3 [none, none, none] none S_step) (z_told_at : FnZ P w K mg base "told_at" 2 [none, none, none, none] none S_told_at) (hF : ∃ fd, Fun K "told_in" "told_in" (top 55) (He.ga K "told_in") fd) (hm : mg "told_in" = some (.ref (He.ga K "told_in"))) : FnZ P w K mg base "told_in" 4 [none, none] none S_told_in := by
  obtain ⟨fd, F⟩ := hF
  refine FnZ.of F hm (ps := ["form", "signs"]) (fun _ _ _ _ _ _ us hl => match us, hl with | [_, _], _ => rfl) ?_
  exact fnZ0 (k := 3) (rk := none) (N := N_told_in) (ps := ["form", "signs"]) (O' := [none, none, none, none, none]) (T := T_told_in) 2 F sc_told_in rfl (fun cdv A outer s H E b => by
    have nd := sc_told_in.nd
    exact bx_cons (O1 := [none, none, none, none, none]) (sx_par2 2 3 (k := none) (l := none) b.calm nd (af_cons (ex_fn z_first_stand (b.room.mono (by decide)) b.tk (aj_cons (ex_var 0) (aj_nil))) (af_cons (ex_tup (ax_nil)) (af_nil))) (exOf_no (exOf_no (exOf_nil))) (by rfl))
      (bx_cons (O1 := [none, none, none, none, none]) (sx_for b.own b.calm (ix_seqZ (ex_var 1)) (gx_name 4 nd) (bx_cons (O1 := [none, none, none, none, none]) (sx_set 3 nd (ex_fn z_told_at (b.room.mono (by decide)) b.tk (aj_cons (ex_var 0) (aj_cons (ex_var 2) (aj_cons (ex_var 4) (aj_cons (ex_var 3) (aj_nil)))))) (exOf_no (exOf_no (exOf_nil))))
      (bx_one (sx_set 2 nd (ex_fn z_step (b.room.mono (by decide)) b.tk (aj_cons (ex_var 0) (aj_cons (ex_var 2) (aj_cons (ex_var 4) (aj_nil))))) (exOf_no (exOf_no (exOf_nil)))))) (exOf_no (exOf_no (exOf_nil))))
      (bx_one (sx_ret (ex_var 3) (exOf_no (exOf_no (exOf_nil))))))) (.inl rfl)
/-! ### read -/
def N_read : List Str := ["form", "file"]
theorem sc_read : FnScope N_read ["form", "file"] (defScope (top 65)) := ⟨rfl, rfl, rfl, by decide +kernel, rfl, by decide +kernel, by decide +kernel⟩
def T_read : Rho → Out Rho Flw := sqT (dropT (callT [none] S_check_format (consT (varT 0) (nilT)))) (sqT (dropT (callT [none, none] S_check_file (consT (varT 0) (consT (varT 1) (nilT))))) (sqT (dropT (callT [none, none] S_check_read (consT (varT 0) (consT (varT 1) (nilT))))) (retT (callT [none, none] S_told_in (consT (varT 0) (consT (varT 1) (nilT)))))))
def S_read : List D → Out (List D) D := runF [] 2 T_read
theorem z_read {P : Program} {w : World} {K : PySem.W.Frag} {mg : Str → Option Value} {base : Heap} (g : Gk K mg) (z_check_file : FnZ P w K mg base "check_file" 5 [none, none] none S_check_file) (z_check_format : FnZ P w K mg base "check_format" 5 [none] none S_check_format) (z_check_read : FnZ P w K mg base "check_read" 5 [none, none] none S_check_read) (z_told_in : FnZ P w K mg base "told_in" 4 [none, none] none S_told_in) (hF : ∃ fd, Fun K "read" "read" (top 65) (He.ga K "read") fd) (hm : mg "read" = some (.ref (He.ga K "read"))) : FnZ P w K mg base "read" 6 [none, none] none S_read := by
  obtain ⟨fd, F⟩ := hF
  refine FnZ.of F hm (ps := ["form", "file"]) (fun _ _ _ _ _ _ us hl => match us, hl with | [_, _], _ => rfl) ?_
  exact fnZ0 (k := 5) (rk := none) (N := N_read) (ps := ["form", "file"]) (O' := [none, none]) (T := T_read) 2 F sc_read rfl (fun cdv A outer s H E b => by
    have nd := sc_read.nd
    exact bx_cons (O1 := [none, none]) (sx_expr (ex_fn z_check_format (b.room.mono (by decide)) b.tk (aj_cons (ex_var 0) (aj_nil))) (exOf_no (exOf_no (exOf_nil))))
      (bx_cons (O1 := [none, none]) (sx_expr (ex_fn z_check_file (b.room.mono (by decide)) b.tk (aj_cons (ex_var 0) (aj_cons (ex_var 1) (aj_nil)))) (exOf_no (exOf_no (exOf_nil))))
      (bx_cons (O1 := [none, none]) (sx_expr (ex_fn z_check_read (b.room.mono (by decide)) b.tk (aj_cons (ex_var 0) (aj_cons (ex_var 1) (aj_nil)))) (exOf_no (exOf_no (exOf_nil))))
      (bx_one (sx_ret (ex_fn z_told_in (b.room.mono (by decide)) b.tk (aj_cons (ex_var 0) (aj_cons (ex_var 1) (aj_nil)))) (exOf_no (exOf_no (exOf_nil)))))))) (.inl rfl)
/-! ### refusal -/
def N_refusal : List Str := ["form", "file"]
theorem sc_refusal : FnScope N_refusal ["form", "file"] (defScope (top 66)) := ⟨rfl, rfl, rfl, by decide +kernel, rfl, by decide +kernel, by decide +kernel⟩
def T_refusal : Rho → Out Rho Flw := sqT (dropT (callT [none] S_check_format (consT (varT 0) (nilT)))) (sqT (dropT (callT [none, none] S_check_file (consT (varT 0) (consT (varT 1) (nilT))))) (retT (callT [none, none] S_refusal_of (consT (varT 0) (consT (varT 1) (nilT))))))
def S_refusal : List D → Out (List D) D := runF [] 2 T_refusal
theorem z_refusal {P : Program} {w : World} {K : PySem.W.Frag} {mg : Str → Option Value} {base : Heap} (g : Gk K mg) (z_check_file : FnZ P w K mg base "check_file" 5 [none, none] none S_check_file) (z_check_format : FnZ P w K mg base "check_format" 5 [none] none S_check_format) (z_refusal_of : FnZ P w K mg base "refusal_of" 4 [none, none] none S_refusal_of) (hF : ∃ fd, Fun K "refusal" "refusal" (top 66) (He.ga K "refusal") fd) (hm : mg "refusal" = some (.ref (He.ga K "refusal"))) : FnZ P w K mg base "refusal" 6 [none, none] none S_refusal := by
  obtain ⟨fd, F⟩ := hF
  refine FnZ.of F hm (ps := ["form", "file"]) (fun _ _ _ _ _ _ us hl => match us, hl with | [_, _], _ => rfl) ?_
  exact fnZ0 (k := 5) (rk := none) (N := N_refusal) (ps := ["form", "file"]) (O' := [none, none]) (T := T_refusal) 2 F sc_refusal rfl (fun cdv A outer s H E b => by
    have nd := sc_refusal.nd
    exact bx_cons (O1 := [none, none]) (sx_expr (ex_fn z_check_format (b.room.mono (by decide)) b.tk (aj_cons (ex_var 0) (aj_nil))) (exOf_no (exOf_no (exOf_nil))))
      (bx_cons (O1 := [none, none]) (sx_expr (ex_fn z_check_file (b.room.mono (by decide)) b.tk (aj_cons (ex_var 0) (aj_cons (ex_var 1) (aj_nil)))) (exOf_no (exOf_no (exOf_nil))))
      (bx_one (sx_ret (ex_fn z_refusal_of (b.room.mono (by decide)) b.tk (aj_cons (ex_var 0) (aj_cons (ex_var 1) (aj_nil)))) (exOf_no (exOf_no (exOf_nil))))))) (.inl rfl)
/-! ### stand_from -/
def N_stand_from : List Str := ["form", "stand", "signs", "sign"]
theorem sc_stand_from : FnScope N_stand_from ["form", "stand", "signs"] (defScope (top 48)) := ⟨rfl, rfl, rfl, by decide +kernel, rfl, by decide +kernel, by decide +kernel⟩
def T_stand_from : Rho → Out Rho Flw := sqT (forS (seqT (varT 2)) (setG 3) (sqT (ifT (isB (binT isD (varT 1) (cT .none))) (retT (cT .none)) (nxT)) (asgT 1 (callT [none, none, none] S_step (consT (varT 0) (consT (varT 1) (consT (varT 3) (nilT)))))))) (retT (varT 1))
def S_stand_from : List D → Out (List D) D := runF [] 4 T_stand_from
theorem z_stand_from {P : Program} {w : World} {K : PySem.W.Frag} {mg : Str → Option Value} {base : Heap} (g : Gk K mg) (z_step : FnZ P w K mg base "step" 3 [none, none, none] none S_step) (hF : ∃ fd, Fun K "stand_from" "stand_from" (top 48) (He.ga K "stand_from") fd) (hm : mg "stand_from" = some (.ref (He.ga K "stand_from"))) : FnZ P w K mg base "stand_from" 4 [none, none, none] none S_stand_from := by
  obtain ⟨fd, F⟩ := hF
  refine FnZ.of F hm (ps := ["form", "stand", "signs"]) (fun _ _ _ _ _ _ us hl => match us, hl with | [_, _, _], _ => rfl) ?_
  exact fnZ0 (k := 3) (rk := none) (N := N_stand_from) (ps := ["form", "stand", "signs"]) (O' := [none, none, none, none]) (T := T_stand_from) 3 F sc_stand_from rfl (fun cdv A outer s H E b => by
    have nd := sc_stand_from.nd
    exact bx_cons (O1 := [none, none, none, none]) (sx_for b.own b.calm (ix_seqZ (ex_var 2)) (gx_name 3 nd) (bx_cons (O1 := [none, none, none, none]) (sx_if (O' := [none, none, none, none]) (tx_cmp (op_isZ) (sem_rD isD_flat) (ex_var 1) (ex_non) (nomark _)) (bx_one (sx_ret (ex_non) (exOf_no (exOf_no (exOf_no (exOf_nil)))))) (bx_nil) (exOf_no (exOf_no (exOf_no (exOf_nil)))))
      (bx_one (sx_set 1 nd (ex_fn z_step (b.room.mono (by decide)) b.tk (aj_cons (ex_var 0) (aj_cons (ex_var 1) (aj_cons (ex_var 3) (aj_nil))))) (exOf_no (exOf_no (exOf_no (exOf_nil))))))) (exOf_no (exOf_no (exOf_no (exOf_nil)))))
      (bx_one (sx_ret (ex_var 1) (exOf_no (exOf_no (exOf_no (exOf_nil))))))) (.inl rfl)
/-! ### Reader_stand -/
def N_Reader_stand : List Str := ["self"]
theorem sc_Reader_stand : FnScope N_Reader_stand ["self"] (defScope (inClass (top 73) 4)) := ⟨rfl, rfl, rfl, by decide +kernel, rfl, by decide +kernel, by decide +kernel⟩
def T_Reader_stand : Rho → Out Rho Flw := retT (callT [none, none, none] S_stand_from (consT (fldT 0 ("own_form" : Str)) (consT (callT [none] S_first_stand (consT (fldT 0 ("own_form" : Str)) (nilT))) (consT (fldT 0 ("taken" : Str)) (nilT)))))
def S_Reader_stand : List D → Out (List D) D := runF [0] 1 T_Reader_stand
theorem z_Reader_stand {P : Program} {w : World} {K : PySem.W.Frag} {mg : Str → Option Value} {base : Heap} (g : Gk K mg) (z_first_stand : FnZ P w K mg base "first_stand" 1 [none] none S_first_stand) (z_stand_from : FnZ P w K mg base "stand_from" 4 [none, none, none] none S_stand_from) (hF : ∃ fd, Fun K "stand" "Reader.stand" (inClass (top 73) 4) (prG K (He.ga K "Reader") "stand") fd) : FaZ P w K mg base (prG K (He.ga K "Reader") "stand") 5 1 [some (.ins (He.ga K "Reader"))] none S_Reader_stand := by
  obtain ⟨fd, F⟩ := hF
  refine FaZ.of F (ps := ["self"]) (fun _ _ _ _ _ _ us hl => match us, hl with | [_], _ => rfl) ?_
  exact fnZ1 (k := 4) (rk := none) (N := N_Reader_stand) (ps := ["self"]) (O' := [some (.ins (He.ga K "Reader"))]) (T := T_Reader_stand) (.ins (He.ga K "Reader")) 0 F sc_Reader_stand rfl (fun cdv A outer s H E a b => by
    have nd := sc_Reader_stand.nd
    exact bx_one (sx_ret (ex_fn z_stand_from (b.room.mono (by decide)) b.tk (aj_cons (ex_fld 0 g.c_Reader g.n_Reader_own_form) (aj_cons (ex_fn z_first_stand (b.room.mono (by decide)) b.tk (aj_cons (ex_fld 0 g.c_Reader g.n_Reader_own_form) (aj_nil))) (aj_cons (ex_fld 0 g.c_Reader g.n_Reader_taken) (aj_nil))))) (exOf_yes (exOf_nil)))) (.inl rfl) (exOf_yes (exOf_nil))
/-! ### Reader___call__ -/
def N_Reader___call__ : List Str := ["self", "sign", "stand", "after", "index", "word"]
theorem sc_Reader___call__ : FnScope N_Reader___call__ ["self", "sign"] (defScope (inClass (top 73) 1)) := ⟨rfl, rfl, rfl, by decide +kernel, rfl, by decide +kernel, by decide +kernel⟩
def T_Reader___call__ : Rho → Out Rho Flw := sqT (ifT (notT (isB (callT [none, none] S_is_sign (consT (binT idxD (fldT 0 ("own_form" : Str)) (cT (.int 0))) (consT (varT 1) (nilT)))))) (badT) (nxT)) (sqT (asgT 2 (callQ [some 0] S_Reader_stand (ownT 0 nilT))) (sqT (asgT 3 (callT [none, none, none] S_step (consT (fldT 0 ("own_form" : Str)) (consT (varT 2) (consT (varT 1) (nilT)))))) (sqT (ifT (isB (binT isD (varT 3) (cT .none))) (sqT (par2T 4 5 (consT (callB lenD (consT (fldT 0 ("taken" : Str)) (nilT))) (consT (callT [none] S_word_at (consT (varT 2) (nilT))) (nilT)))) (badT)) (nxT)) (sqT (sfldT 0 ("taken" : Str) (tupT (starT (fldT 0 ("taken" : Str)) (consT (varT 1) (nilT))))) (retT (ifT (isB (callT [none, none] S_is_ending (consT (fldT 0 ("own_form" : Str)) (consT (varT 3) (nilT))))) (cT (.str ("done" : Str))) (cT (.str ("open" : Str)))))))))
def S_Reader___call__ : List D → Out (List D) D := runF [0] 6 T_Reader___call__
theorem z_Reader___call__ {P : Program} {w : World} {K : PySem.W.Frag} {mg : Str → Option Value} {base : Heap} (g : Gk K mg) (z_is_ending : FnZ P w K mg base "is_ending" 1 [none, none] none S_is_ending) (z_is_sign : FnZ P w K mg base "is_sign" 2 [none, none] none S_is_sign) (z_step : FnZ P w K mg base "step" 3 [none, none, none] none S_step) (z_word_at : FnZ P w K mg base "word_at" 1 [none] none S_word_at) (z_Reader_stand : FaZ P w K mg base (prG K (He.ga K "Reader") "stand") 5 1 [some (.ins (He.ga K "Reader"))] none S_Reader_stand) (hF : ∃ fd, Fun K "__call__" "Reader.__call__" (inClass (top 73) 1) (He.ma K (He.ga K "Reader") "__call__") fd) : FaZ P w K mg base (He.ma K (He.ga K "Reader") "__call__") 7 2 [some (.ins (He.ga K "Reader")), none] none S_Reader___call__ := by
  obtain ⟨fd, F⟩ := hF
  refine FaZ.of F (ps := ["self", "sign"]) (fun _ _ _ _ _ _ us hl => match us, hl with | [_, _], _ => rfl) ?_
  exact fnZ1 (k := 6) (rk := none) (N := N_Reader___call__) (ps := ["self", "sign"]) (O' := [some (.ins (He.ga K "Reader")), none, none, none, none, none]) (T := T_Reader___call__) (.ins (He.ga K "Reader")) 1 F sc_Reader___call__ rfl (fun cdv A outer s H E a b => by
    have nd := sc_Reader___call__.nd
    exact bx_cons (O1 := [some (.ins (He.ga K "Reader")), none, none, none, none, none]) (sx_if (O' := [some (.ins (He.ga K "Reader")), none, none, none, none, none]) (tx_not (tx_val (ex_fn z_is_sign (b.room.mono (by decide)) b.tk (aj_cons (ex_ix (ex_fld 0 g.c_Reader g.n_Reader_own_form) (ex_int)) (aj_cons (ex_var 1) (aj_nil)))))) (bx_one (sx_bad)) (bx_nil) (exOf_yes (exOf_no (exOf_nil))))
      (bx_cons (O1 := [some (.ins (He.ga K "Reader")), none, none, none, none, none]) (sx_set 2 nd (ex_propZ 0 g.c_Reader g.p_Reader_stand z_Reader_stand (b.room.mono (by decide))) (exOf_yes (exOf_no (exOf_nil))))
      (bx_cons (O1 := [some (.ins (He.ga K "Reader")), none, none, none, none, none]) (sx_set 3 nd (ex_fn z_step (b.room.mono (by decide)) b.tk (aj_cons (ex_fld 0 g.c_Reader g.n_Reader_own_form) (aj_cons (ex_var 2) (aj_cons (ex_var 1) (aj_nil))))) (exOf_yes (exOf_no (exOf_nil))))
      (bx_cons (O1 := [some (.ins (He.ga K "Reader")), none, none, none, none, none]) (sx_if (O' := [some (.ins (He.ga K "Reader")), none, none, none, none, none]) (tx_cmp (op_isZ) (sem_rD isD_flat) (ex_var 3) (ex_non) (nomark _)) (bx_cons (O1 := [some (.ins (He.ga K "Reader")), none, none, none, none, none]) (sx_par2 4 5 (k := none) (l := none) b.calm nd (af_cons (ex_callB call_lenZ (sem_rDN lenD_flat) g.f_len rfl (ax_cons (ex_fld 0 g.c_Reader g.n_Reader_taken) (ax_nil))) (af_cons (ex_fn z_word_at (b.room.mono (by decide)) b.tk (aj_cons (ex_var 2) (aj_nil))) (af_nil))) (exOf_yes (exOf_no (exOf_nil))) (by rfl))
      (bx_one (sx_bad))) (bx_nil) (exOf_yes (exOf_no (exOf_nil))))
      (bx_cons (O1 := [some (.ins (He.ga K "Reader")), none, none, none, none, none]) (sx_fld 0 g.c_Reader g.n_Reader_taken (ex_tup (ax_star (ex_fld 0 g.c_Reader g.n_Reader_taken) (ax_cons (ex_var 1) (ax_nil)))) (exOf_yes (exOf_no (exOf_nil))))
      (bx_one (sx_ret (ex_if (tx_val (ex_fn z_is_ending (b.room.mono (by decide)) b.tk (aj_cons (ex_fld 0 g.c_Reader g.n_Reader_own_form) (aj_cons (ex_var 3) (aj_nil))))) (ex_kon g.k_DONE) (ex_kon g.k_OPEN)) (exOf_yes (exOf_no (exOf_nil)))))))))) (.inl rfl) (exOf_yes (exOf_no (exOf_nil)))
/-! ### Reader___init__ -/
def N_Reader___init__ : List Str := ["self", "form"]
theorem sc_Reader___init__ : FnScope N_Reader___init__ ["self", "form"] (defScope (inClass (top 73) 0)) := ⟨rfl, rfl, rfl, by decide +kernel, rfl, by decide +kernel, by decide +kernel⟩
def T_Reader___init__ : Rho → Out Rho Flw := sqT (dropT (callT [none] S_check_format (consT (varT 1) (nilT)))) (sqT (sfldT 0 ("own_form" : Str) (varT 1)) (sfldT 0 ("taken" : Str) (tupT (nilT))))
def S_Reader___init__ : List D → Out (List D) D := runF [0] 2 T_Reader___init__
theorem z_Reader___init__ {P : Program} {w : World} {K : PySem.W.Frag} {mg : Str → Option Value} {base : Heap} (g : Gk K mg) (z_check_format : FnZ P w K mg base "check_format" 5 [none] none S_check_format) (hF : ∃ fd, Fun K "__init__" "Reader.__init__" (inClass (top 73) 0) (He.ma K (He.ga K "Reader") "__init__") fd) : FaZ P w K mg base (He.ma K (He.ga K "Reader") "__init__") 6 2 [some (.ins (He.ga K "Reader")), none] none S_Reader___init__ := by
  obtain ⟨fd, F⟩ := hF
  refine FaZ.of F (ps := ["self", "form"]) (fun _ _ _ _ _ _ us hl => match us, hl with | [_, _], _ => rfl) ?_
  exact fnZ1 (k := 5) (rk := none) (N := N_Reader___init__) (ps := ["self", "form"]) (O' := [some (.ins (He.ga K "Reader")), none]) (T := T_Reader___init__) (.ins (He.ga K "Reader")) 1 F sc_Reader___init__ rfl (fun cdv A outer s H E a b => by
    have nd := sc_Reader___init__.nd
    exact bx_cons (O1 := [some (.ins (He.ga K "Reader")), none]) (sx_expr (ex_fn z_check_format (b.room.mono (by decide)) b.tk (aj_cons (ex_var 1) (aj_nil))) (exOf_yes (exOf_no (exOf_nil))))
      (bx_cons (O1 := [some (.ins (He.ga K "Reader")), none]) (sx_fld 0 g.c_Reader g.n_Reader_own_form (ex_var 1) (exOf_yes (exOf_no (exOf_nil))))
      (bx_one (sx_fld 0 g.c_Reader g.n_Reader_taken (ex_tup (ax_nil)) (exOf_yes (exOf_no (exOf_nil))))))) (.inl rfl) (exOf_yes (exOf_no (exOf_nil)))
/-! ### Reader_told -/
def N_Reader_told : List Str := ["self"]
theorem sc_Reader_told : FnScope N_Reader_told ["self"] (defScope (inClass (top 73) 5)) := ⟨rfl, rfl, rfl, by decide +kernel, rfl, by decide +kernel, by decide +kernel⟩
def T_Reader_told : Rho → Out Rho Flw := retT (callT [none, none] S_told_in (consT (fldT 0 ("own_form" : Str)) (consT (fldT 0 ("taken" : Str)) (nilT))))
def S_Reader_told : List D → Out (List D) D := runF [0] 1 T_Reader_told
theorem z_Reader_told {P : Program} {w : World} {K : PySem.W.Frag} {mg : Str → Option Value} {base : Heap} (g : Gk K mg) (z_told_in : FnZ P w K mg base "told_in" 4 [none, none] none S_told_in) (hF : ∃ fd, Fun K "told" "Reader.told" (inClass (top 73) 5) (prG K (He.ga K "Reader") "told") fd) : FaZ P w K mg base (prG K (He.ga K "Reader") "told") 5 1 [some (.ins (He.ga K "Reader"))] none S_Reader_told := by
  obtain ⟨fd, F⟩ := hF
  refine FaZ.of F (ps := ["self"]) (fun _ _ _ _ _ _ us hl => match us, hl with | [_], _ => rfl) ?_
  exact fnZ1 (k := 4) (rk := none) (N := N_Reader_told) (ps := ["self"]) (O' := [some (.ins (He.ga K "Reader"))]) (T := T_Reader_told) (.ins (He.ga K "Reader")) 0 F sc_Reader_told rfl (fun cdv A outer s H E a b => by
    have nd := sc_Reader_told.nd
    exact bx_one (sx_ret (ex_fn z_told_in (b.room.mono (by decide)) b.tk (aj_cons (ex_fld 0 g.c_Reader g.n_Reader_own_form) (aj_cons (ex_fld 0 g.c_Reader g.n_Reader_taken) (aj_nil)))) (exOf_yes (exOf_nil)))) (.inl rfl) (exOf_yes (exOf_nil))
/-! ### _law_live_told -/
def N__law_live_told : List Str := ["form_here", "row", "live", "word", "token"]
theorem sc__law_live_told : FnScope N__law_live_told ["form_here", "row"] (defScope (top 90)) := ⟨rfl, rfl, rfl, by decide +kernel, rfl, by decide +kernel, by decide +kernel⟩
def T__law_live_told : Rho → Out Rho Flw := sqT (par2T 2 3 (consT (fun ρ => ((consT (varT 0) (nilT)) ρ).bind fun ds ρ1 => if ds.length = 1 then makeT S_Reader___init__ (fun r => .ok ds r) ρ1 else .bad) (consT (cT (.str ("" : Str))) (nilT)))) (sqT (forS (seqT (varT 1)) (setG 4) (asgT 3 (callQ [some 2, none] S_Reader___call__ (ownT 2 (consT (varT 4) (nilT)))))) (retT (tupT (consT (callQ [some 2] S_Reader_told (ownT 2 nilT)) (consT (varT 3) (nilT))))))
def S__law_live_told : List D → Out (List D) D := runF [] 5 T__law_live_told
theorem z__law_live_told {P : Program} {w : World} {K : PySem.W.Frag} {mg : Str → Option Value} {base : Heap} (g : Gk K mg) (z_Reader___call__ : FaZ P w K mg base (He.ma K (He.ga K "Reader") "__call__") 7 2 [some (.ins (He.ga K "Reader")), none] none S_Reader___call__) (z_Reader___init__ : FaZ P w K mg base (He.ma K (He.ga K "Reader") "__init__") 6 2 [some (.ins (He.ga K "Reader")), none] none S_Reader___init__) (z_Reader_told : FaZ P w K mg base (prG K (He.ga K "Reader") "told") 5 1 [some (.ins (He.ga K "Reader"))] none S_Reader_told) (hF : ∃ fd, Fun K "_law_live_told" "_law_live_told" (top 90) (He.ga K "_law_live_told") fd) (hm : mg "_law_live_told" = some (.ref (He.ga K "_law_live_told"))) : FnZ P w K mg base "_law_live_told" 9 [none, none] none S__law_live_told := by
  obtain ⟨fd, F⟩ := hF
  refine FnZ.of F hm (ps := ["form_here", "row"]) (fun _ _ _ _ _ _ us hl => match us, hl with | [_, _], _ => rfl) ?_
  exact fnZ0 (k := 8) (rk := none) (N := N__law_live_told) (ps := ["form_here", "row"]) (O' := [none, none, some (.ins (He.ga K "Reader")), none, none]) (T := T__law_live_told) 2 F sc__law_live_told rfl (fun cdv A outer s H E b => by
    have nd := sc__law_live_told.nd
    exact bx_cons (O1 := [none, none, some (.ins (He.ga K "Reader")), none, none]) (sx_par2 2 3 (k := (some (.ins (He.ga K "Reader")))) (l := none) b.calm nd (af_new (fx_makeZ (m := 1) g.m_Reader z_Reader___init__ (b.room.mono (by decide)) g.a_Reader (ax_cons (ex_var 0) (ax_nil))) (af_cons (ex_str) (af_nil))) (exOf_no (exOf_no (exOf_nil))) (by rfl))
      (bx_cons (O1 := [none, none, some (.ins (He.ga K "Reader")), none, none]) (sx_for b.own b.calm (ix_seqZ (ex_var 1)) (gx_name 4 nd) (bx_one (sx_set 3 nd (ex_inst 2 g.o_Reader z_Reader___call__ (b.room.mono (by decide)) (aj_cons (ex_var 4) (aj_nil))) (exOf_no (exOf_no (exOf_nil))))) (exOf_no (exOf_no (exOf_nil))))
      (bx_one (sx_ret (ex_tup (ax_cons (ex_propZ 2 g.c_Reader g.p_Reader_told z_Reader_told (b.room.mono (by decide))) (ax_cons (ex_var 3) (ax_nil)))) (exOf_no (exOf_no (exOf_nil))))))) (.inl rfl)
/-! ### is_looking -/
def N_is_looking : List Str := ["form", "stand"]
theorem sc_is_looking : FnScope N_is_looking ["form", "stand"] (defScope (top 47)) := ⟨rfl, rfl, rfl, by decide +kernel, rfl, by decide +kernel, by decide +kernel⟩
def T_is_looking : Rho → Out Rho Flw := sqT (ifT (isB (binT eqD (binT idxD (varT 1) (cT (.int 0))) (cT (.str ("head" : Str))))) (retT (binT isNotD (binT idxD (binT idxD (varT 0) (cT (.int 1))) (binT idxD (varT 1) (cT (.int 1)))) (cT .none))) (nxT)) (retT (andV (binT neD (varT 1) (cT (.tuple [.str ("room" : Str)]))) (notV (andV (binT eqD (binT idxD (varT 1) (cT (.int 0))) (cT (.str ("body" : Str)))) (binT eqD (binT idxD (varT 1) (cT (.int 1))) (cT (.str ("skip" : Str))))))))
def S_is_looking : List D → Out (List D) D := runF [] 2 T_is_looking
theorem z_is_looking {P : Program} {w : World} {K : PySem.W.Frag} {mg : Str → Option Value} {base : Heap} (g : Gk K mg) (hF : ∃ fd, Fun K "is_looking" "is_looking" (top 47) (He.ga K "is_looking") fd) (hm : mg "is_looking" = some (.ref (He.ga K "is_looking"))) : FnZ P w K mg base "is_looking" 1 [none, none] none S_is_looking := by
  obtain ⟨fd, F⟩ := hF
  refine FnZ.of F hm (ps := ["form", "stand"]) (fun _ _ _ _ _ _ us hl => match us, hl with | [_, _], _ => rfl) ?_
  exact fnZ0 (k := 0) (rk := none) (N := N_is_looking) (ps := ["form", "stand"]) (O' := [none, none]) (T := T_is_looking) 2 F sc_is_looking rfl (fun cdv A outer s H E b => by
    have nd := sc_is_looking.nd
    exact bx_cons (O1 := [none, none]) (sx_if (O' := [none, none]) (tx_cmp (op_eqZ b.hu) (sem_rD eqD_flat) (ex_ix (ex_var 1) (ex_int)) (ex_str) (nomark _)) (bx_one (sx_ret (ex_cmp (op_isNotZ) (sem_rD isNotD_flat) (ex_ix (ex_ix (ex_var 0) (ex_int)) (ex_ix (ex_var 1) (ex_int))) (ex_non) (nomark _)) (exOf_no (exOf_no (exOf_nil))))) (bx_nil) (exOf_no (exOf_no (exOf_nil))))
      (bx_one (sx_ret (ex_and (ex_cmp (op_neZ b.hu) (sem_rD neD_flat) (ex_var 1) (ex_kon g.k_ROOM) (nomark _)) (ex_one (ex_not (ex_and (ex_cmp (op_eqZ b.hu) (sem_rD eqD_flat) (ex_ix (ex_var 1) (ex_int)) (ex_str) (nomark _)) (ex_one (ex_cmp (op_eqZ b.hu) (sem_rD eqD_flat) (ex_ix (ex_var 1) (ex_int)) (ex_kon g.k_SKIP) (nomark _))))))) (exOf_no (exOf_no (exOf_nil)))))) (.inl rfl)
/-! ### looked_in -/
def N_looked_in : List Str := ["form", "file", "stand", "found", "index", "sign"]
theorem sc_looked_in : FnScope N_looked_in ["form", "file"] (defScope (top 56)) := ⟨rfl, rfl, rfl, by decide +kernel, rfl, by decide +kernel, by decide +kernel⟩
def T_looked_in : Rho → Out Rho Flw := sqT (par2T 2 3 (consT (callT [none] S_first_stand (consT (varT 0) (nilT))) (consT (lstT (nilT)) (nilT)))) (sqT (forS (rngT enumD (consT (varT 1) (nilT))) (tupG 2 (consG (setG 4) (consG (setG 5) (nilG)))) (sqT (ifT (isB (callT [none, none] S_is_looking (consT (varT 0) (consT (varT 2) (nilT))))) (asgT 3 (lstT (starT (varT 3) (consT (varT 4) (nilT))))) (nxT)) (asgT 2 (callT [none, none, none] S_step (consT (varT 0) (consT (varT 2) (consT (varT 5) (nilT)))))))) (retT (varT 3)))
def S_looked_in : List D → Out (List D) D := runF [] 6 T_looked_in
theorem z_looked_in {P : Program} {w : World} {K : PySem.W.Frag} {mg : Str → Option Value} {base : Heap} (g : Gk K mg) (z_first_stand : FnZ P w K mg base "first_stand" 1 [none] none S_first_stand) (z_is_looking : FnZ P w K mg base "is_looking" 1 [none, none] none S_is_looking) (z_step : FnZ P w K mg base "step" 3 [none, none, none] none S_step) (hF : ∃ fd, Fun K "looked_in" "looked_in" (top 56) (He.ga K "looked_in") fd) (hm : mg "looked_in" = some (.ref (He.ga K "looked_in"))) : FnZ P w K mg base "looked_in" 4 [none, none] none S_looked_in := by
  obtain ⟨fd, F⟩ := hF
  refine FnZ.of F hm (ps := ["form", "file"]) (fun _ _ _ _ _ _ us hl => match us, hl with | [_, _], _ => rfl) ?_
  exact fnZ0 (k := 3) (rk := none) (N := N_looked_in) (ps := ["form", "file"]) (O' := [none, none, none, none, none, none]) (T := T_looked_in) 2 F sc_looked_in rfl (fun cdv A outer s H E b => by
    have nd := sc_looked_in.nd
    exact bx_cons (O1 := [none, none, none, none, none, none]) (sx_par2 2 3 (k := none) (l := none) b.calm nd (af_cons (ex_fn z_first_stand (b.room.mono (by decide)) b.tk (aj_cons (ex_var 0) (aj_nil))) (af_cons (ex_of_fx (fx_lst (ax_nil))) (af_nil))) (exOf_no (exOf_no (exOf_nil))) (by rfl))
      (bx_cons (O1 := [none, none, none, none, none, none]) (sx_for b.own b.calm (ix_enum g.f_enumerate (ax_cons (ex_var 1) (ax_nil))) (gx_tup b.calm (gxs_cons (gx_name 4 nd) (gxs_cons (gx_name 5 nd) (gxs_nil)))) (bx_cons (O1 := [none, none, none, none, none, none]) (sx_if (O' := [none, none, none, none, none, none]) (tx_val (ex_fn z_is_looking (b.room.mono (by decide)) b.tk (aj_cons (ex_var 0) (aj_cons (ex_var 2) (aj_nil))))) (bx_one (sx_set 3 nd (ex_of_fx (fx_lst (ax_star (ex_var 3) (ax_cons (ex_var 4) (ax_nil))))) (exOf_no (exOf_no (exOf_nil))))) (bx_nil) (exOf_no (exOf_no (exOf_nil))))
      (bx_one (sx_set 2 nd (ex_fn z_step (b.room.mono (by decide)) b.tk (aj_cons (ex_var 0) (aj_cons (ex_var 2) (aj_cons (ex_var 5) (aj_nil))))) (exOf_no (exOf_no (exOf_nil)))))) (exOf_no (exOf_no (exOf_nil))))
      (bx_one (sx_ret (ex_var 3) (exOf_no (exOf_no (exOf_nil))))))) (.inl rfl)
/-! ### looked_at -/
def N_looked_at : List Str := ["form", "file"]
theorem sc_looked_at : FnScope N_looked_at ["form", "file"] (defScope (top 67)) := ⟨rfl, rfl, rfl, by decide +kernel, rfl, by decide +kernel, by decide +kernel⟩
def T_looked_at : Rho → Out Rho Flw := sqT (dropT (callT [none] S_check_format (consT (varT 0) (nilT)))) (sqT (dropT (callT [none, none] S_check_file (consT (varT 0) (consT (varT 1) (nilT))))) (sqT (dropT (callT [none, none] S_check_read (consT (varT 0) (consT (varT 1) (nilT))))) (retT (callT [none, none] S_looked_in (consT (varT 0) (consT (varT 1) (nilT)))))))
def S_looked_at : List D → Out (List D) D := runF [] 2 T_looked_at
theorem z_looked_at {P : Program} {w : World} {K : PySem.W.Frag} {mg : Str → Option Value} {base : Heap} (g : Gk K mg) (z_check_file : FnZ P w K mg base "check_file" 5 [none, none] none S_check_file) (z_check_format : FnZ P w K mg base "check_format" 5 [none] none S_check_format) (z_check_read : FnZ P w K mg base "check_read" 5 [none, none] none S_check_read) (z_looked_in : FnZ P w K mg base "looked_in" 4 [none, none] none S_looked_in) (hF : ∃ fd, Fun K "looked_at" "looked_at" (top 67) (He.ga K "looked_at") fd) (hm : mg "looked_at" = some (.ref (He.ga K "looked_at"))) : FnZ P w K mg base "looked_at" 6 [none, none] none S_looked_at := by
  obtain ⟨fd, F⟩ := hF
  refine FnZ.of F hm (ps := ["form", "file"]) (fun _ _ _ _ _ _ us hl => match us, hl with | [_, _], _ => rfl) ?_
  exact fnZ0 (k := 5) (rk := none) (N := N_looked_at) (ps := ["form", "file"]) (O' := [none, none]) (T := T_looked_at) 2 F sc_looked_at rfl (fun cdv A outer s H E b => by
    have nd := sc_looked_at.nd
    exact bx_cons (O1 := [none, none]) (sx_expr (ex_fn z_check_format (b.room.mono (by decide)) b.tk (aj_cons (ex_var 0) (aj_nil))) (exOf_no (exOf_no (exOf_nil))))
      (bx_cons (O1 := [none, none]) (sx_expr (ex_fn z_check_file (b.room.mono (by decide)) b.tk (aj_cons (ex_var 0) (aj_cons (ex_var 1) (aj_nil)))) (exOf_no (exOf_no (exOf_nil))))
      (bx_cons (O1 := [none, none]) (sx_expr (ex_fn z_check_read (b.room.mono (by decide)) b.tk (aj_cons (ex_var 0) (aj_cons (ex_var 1) (aj_nil)))) (exOf_no (exOf_no (exOf_nil))))
      (bx_one (sx_ret (ex_fn z_looked_in (b.room.mono (by decide)) b.tk (aj_cons (ex_var 0) (aj_cons (ex_var 1) (aj_nil)))) (exOf_no (exOf_no (exOf_nil)))))))) (.inl rfl)
/-! ### _law_file_right -/
def N__law_file_right : List Str := ["bag", "form_here", "row", "told_here", "blind", "bad", "least", "other_row", "k"]
theorem sc__law_file_right : FnScope N__law_file_right ["bag", "form_here", "row"] (defScope (top 91)) := ⟨rfl, rfl, rfl, by decide +kernel, rfl, by decide +kernel, by decide +kernel⟩
def T__law_file_right : Rho → Out Rho Flw := sqT (tgtT (tupG 3 (consG (setG 3) (consG (setG 4) (consG (setG 5) (nilG))))) (callT [none, none] S__law_reading (consT (varT 1) (consT (varT 2) (nilT))))) (sqT (ifT (notT (isB (callT [none, none] (S__law_equal 12) (consT (lstT (consT (callT [none, none] S_read (consT (varT 1) (consT (varT 2) (nilT)))) (consT (callT [none, none] S_refusal (consT (varT 1) (consT (varT 2) (nilT)))) (nilT)))) (consT (lstT (consT (varT 3) (consT (cT .none) (nilT)))) (nilT)))))) (retT (cT (.bool false))) (nxT)) (sqT (asgT 6 (callT [none, none] S_write (consT (varT 1) (consT (varT 3) (nilT))))) (sqT (ifT (orT (isB (binT isNotD (callT [none, none] S_is_content (consT (varT 1) (consT (varT 3) (nilT)))) (cT (.bool true)))) (isB (binT gtD (tupT (consT (callB lenD (consT (varT 6) (nilT))) (consT (varT 6) (nilT)))) (tupT (consT (callB lenD (consT (varT 2) (nilT))) (consT (varT 2) (nilT))))))) (retT (cT (.bool false))) (nxT)) (sqT (ifT (notT (isB (callT [none, none] (S__law_equal 12) (consT (lstT (consT (callT [none, none] S_read (consT (varT 1) (consT (varT 6) (nilT)))) (consT (callT [none, none] S_write (consT (varT 1) (consT (callT [none, none] S_read (consT (varT 1) (consT (varT 6) (nilT)))) (nilT)))) (nilT)))) (consT (lstT (consT (varT 3) (consT (varT 6) (nilT)))) (nilT)))))) (retT (cT (.bool false))) (nxT)) (sqT (ifT (andT (isB (chainT ltD ltD (cT (.int 0)) (callB lenD (consT (varT 2) (nilT))) (cT (.int 61)))) (notT (isB (callT [none, none] (S__law_equal 12) (consT (callT [none, none] S__law_live_told (consT (varT 1) (consT (varT 2) (nilT)))) (consT (tupT (consT (varT 3) (consT (cT (.str ("done" : Str))) (nilT)))) (nilT))))))) (retT (cT (.bool false))) (nxT)) (sqT (asgT 7 (callT [some 0, none, none, none] S__law_turned_blind (ownT 0 (consT (varT 1) (consT (varT 2) (consT (varT 4) (nilT))))))) (sqT (ifT (notT (isB (callT [none, none] (S__law_equal 12) (consT (lstT (consT (callT [none, none] S_read (consT (varT 1) (consT (varT 7) (nilT)))) (consT (callT [none, none] S_write (consT (varT 1) (consT (varT 3) (nilT)))) (nilT)))) (consT (lstT (consT (varT 3) (consT (varT 6) (nilT)))) (nilT)))))) (retT (cT (.bool false))) (nxT)) (retT (binT eqD (lcT [8] (rngT rng1D (consT (callB lenD (consT (varT 2) (nilT))) (nilT))) (setG 8) (andT (isB (binT neD (binT idxD (varT 2) (varT 8)) (binT idxD (varT 7) (varT 8)))) (isB (binT inD (varT 8) (callT [none, none] S_looked_at (consT (varT 1) (consT (varT 2) (nilT))))))) (varT 8)) (lstT (nilT)))))))))))
def S__law_file_right : List D → Out (List D) D := runF [0] 9 T__law_file_right
theorem z__law_file_right {P : Program} {w : World} {K : PySem.W.Frag} {mg : Str → Option Value} {base : Heap} (g : Gk K mg) (z__law_equal : FnZ P w K mg base "_law_equal" 12 [none, none] none (S__law_equal 12)) (z__law_live_told : FnZ P w K mg base "_law_live_told" 9 [none, none] none S__law_live_told) (z__law_reading : FnZ P w K mg base "_law_reading" 3 [none, none] none S__law_reading) (z__law_turned_blind : FnZ P w K mg base "_law_turned_blind" 2 [some .lst, none, none, none] none S__law_turned_blind) (z_is_content : FnZ P w K mg base "is_content" 6 [none, none] none S_is_content) (z_looked_at : FnZ P w K mg base "looked_at" 6 [none, none] none S_looked_at) (z_read : FnZ P w K mg base "read" 6 [none, none] none S_read) (z_refusal : FnZ P w K mg base "refusal" 6 [none, none] none S_refusal) (z_write : FnZ P w K mg base "write" 7 [none, none] none S_write) (hF : ∃ fd, Fun K "_law_file_right" "_law_file_right" (top 91) (He.ga K "_law_file_right") fd) (hm : mg "_law_file_right" = some (.ref (He.ga K "_law_file_right"))) : FnZ P w K mg base "_law_file_right" 13 [some .lst, none, none] none S__law_file_right := by
  obtain ⟨fd, F⟩ := hF
  refine FnZ.of F hm (ps := ["bag", "form_here", "row"]) (fun _ _ _ _ _ _ us hl => match us, hl with | [_, _, _], _ => rfl) ?_
  exact fnZ1 (k := 12) (rk := none) (N := N__law_file_right) (ps := ["bag", "form_here", "row"]) (O' := [some .lst, none, none, none, none, none, none, none, none]) (T := T__law_file_right) .lst 2 F sc__law_file_right rfl (fun cdv A outer s H E a b => by
    have nd := sc__law_file_right.nd
    exact bx_cons (O1 := [some .lst, none, none, none, none, none, none, none, none]) (sx_tgt (ex_fn z__law_reading (b.room.mono (by decide)) b.tk (aj_cons (ex_var 1) (aj_cons (ex_var 2) (aj_nil)))) (gx_tup b.calm (gxs_cons (gx_name 3 nd) (gxs_cons (gx_name 4 nd) (gxs_cons (gx_name 5 nd) (gxs_nil))))) (exOf_yes (exOf_no (exOf_no (exOf_nil)))))
      (bx_cons (O1 := [some .lst, none, none, none, none, none, none, none, none]) (sx_if (O' := [some .lst, none, none, none, none, none, none, none, none]) (tx_not (tx_val (ex_fn z__law_equal (b.room.mono (by decide)) b.tk (aj_cons (ex_of_fx (fx_lst (ax_cons (ex_fn z_read (b.room.mono (by decide)) b.tk (aj_cons (ex_var 1) (aj_cons (ex_var 2) (aj_nil)))) (ax_cons (ex_fn z_refusal (b.room.mono (by decide)) b.tk (aj_cons (ex_var 1) (aj_cons (ex_var 2) (aj_nil)))) (ax_nil))))) (aj_cons (ex_of_fx (fx_lst (ax_cons (ex_var 3) (ax_cons (ex_non) (ax_nil))))) (aj_nil)))))) (bx_one (sx_ret (ex_bl) (exOf_yes (exOf_no (exOf_no (exOf_nil)))))) (bx_nil) (exOf_yes (exOf_no (exOf_no (exOf_nil)))))
      (bx_cons (O1 := [some .lst, none, none, none, none, none, none, none, none]) (sx_set 6 nd (ex_fn z_write (b.room.mono (by decide)) b.tk (aj_cons (ex_var 1) (aj_cons (ex_var 3) (aj_nil)))) (exOf_yes (exOf_no (exOf_no (exOf_nil)))))
      (bx_cons (O1 := [some .lst, none, none, none, none, none, none, none, none]) (sx_if (O' := [some .lst, none, none, none, none, none, none, none, none]) (tx_pw (wx_or (tx_cmp (op_isNotZ) (sem_rD isNotD_flat) (ex_fn z_is_content (b.room.mono (by decide)) b.tk (aj_cons (ex_var 1) (aj_cons (ex_var 3) (aj_nil)))) (ex_bl) (nomark _)) (wx_or1 (tx_cmp (op_gtZ b.hu) (sem_rD ordD_flat) (ex_tup (ax_cons (ex_callB call_lenZ (sem_rDN lenD_flat) g.f_len rfl (ax_cons (ex_var 6) (ax_nil))) (ax_cons (ex_var 6) (ax_nil)))) (ex_tup (ax_cons (ex_callB call_lenZ (sem_rDN lenD_flat) g.f_len rfl (ax_cons (ex_var 2) (ax_nil))) (ax_cons (ex_var 2) (ax_nil)))) (nomark _))))) (bx_one (sx_ret (ex_bl) (exOf_yes (exOf_no (exOf_no (exOf_nil)))))) (bx_nil) (exOf_yes (exOf_no (exOf_no (exOf_nil)))))
      (bx_cons (O1 := [some .lst, none, none, none, none, none, none, none, none]) (sx_if (O' := [some .lst, none, none, none, none, none, none, none, none]) (tx_not (tx_val (ex_fn z__law_equal (b.room.mono (by decide)) b.tk (aj_cons (ex_of_fx (fx_lst (ax_cons (ex_fn z_read (b.room.mono (by decide)) b.tk (aj_cons (ex_var 1) (aj_cons (ex_var 6) (aj_nil)))) (ax_cons (ex_fn z_write (b.room.mono (by decide)) b.tk (aj_cons (ex_var 1) (aj_cons (ex_fn z_read (b.room.mono (by decide)) b.tk (aj_cons (ex_var 1) (aj_cons (ex_var 6) (aj_nil)))) (aj_nil)))) (ax_nil))))) (aj_cons (ex_of_fx (fx_lst (ax_cons (ex_var 3) (ax_cons (ex_var 6) (ax_nil))))) (aj_nil)))))) (bx_one (sx_ret (ex_bl) (exOf_yes (exOf_no (exOf_no (exOf_nil)))))) (bx_nil) (exOf_yes (exOf_no (exOf_no (exOf_nil)))))
      (bx_cons (O1 := [some .lst, none, none, none, none, none, none, none, none]) (sx_if (O' := [some .lst, none, none, none, none, none, none, none, none]) (tx_pw (wx_and (tx_chain (op_ltZ b.hu) (op_ltZ b.hu) ordD_flat (ex_int) (ex_callB call_lenZ (sem_rDN lenD_flat) g.f_len rfl (ax_cons (ex_var 2) (ax_nil))) (ex_int)) (wx_and1 (tx_not (tx_val (ex_fn z__law_equal (b.room.mono (by decide)) b.tk (aj_cons (ex_fn z__law_live_told (b.room.mono (by decide)) b.tk (aj_cons (ex_var 1) (aj_cons (ex_var 2) (aj_nil)))) (aj_cons (ex_tup (ax_cons (ex_var 3) (ax_cons (ex_str) (ax_nil)))) (aj_nil))))))))) (bx_one (sx_ret (ex_bl) (exOf_yes (exOf_no (exOf_no (exOf_nil)))))) (bx_nil) (exOf_yes (exOf_no (exOf_no (exOf_nil)))))
      (bx_cons (O1 := [some .lst, none, none, none, none, none, none, none, none]) (sx_set 7 nd (ex_fn z__law_turned_blind (b.room.mono (by decide)) b.tk (aj_own 0 (aj_cons (ex_var 1) (aj_cons (ex_var 2) (aj_cons (ex_var 4) (aj_nil)))))) (exOf_yes (exOf_no (exOf_no (exOf_nil)))))
      (bx_cons (O1 := [some .lst, none, none, none, none, none, none, none, none]) (sx_if (O' := [some .lst, none, none, none, none, none, none, none, none]) (tx_not (tx_val (ex_fn z__law_equal (b.room.mono (by decide)) b.tk (aj_cons (ex_of_fx (fx_lst (ax_cons (ex_fn z_read (b.room.mono (by decide)) b.tk (aj_cons (ex_var 1) (aj_cons (ex_var 7) (aj_nil)))) (ax_cons (ex_fn z_write (b.room.mono (by decide)) b.tk (aj_cons (ex_var 1) (aj_cons (ex_var 3) (aj_nil)))) (ax_nil))))) (aj_cons (ex_of_fx (fx_lst (ax_cons (ex_var 3) (ax_cons (ex_var 6) (ax_nil))))) (aj_nil)))))) (bx_one (sx_ret (ex_bl) (exOf_yes (exOf_no (exOf_no (exOf_nil)))))) (bx_nil) (exOf_yes (exOf_no (exOf_no (exOf_nil)))))
      (bx_one (sx_ret (ex_cmp (op_eqZ b.hu) (sem_rD eqD_flat) (ex_of_fx (fx_lc (own := [("k", 8)]) b.calm nd (ix_rng1 g.f_range (ax_cons (ex_callB call_lenZ (sem_rDN lenD_flat) g.f_len rfl (ax_cons (ex_var 2) (ax_nil))) (ax_nil))) (blkOk_of (by kernel_rfl)) (none_cons rfl (fun _ h => nomatch h)) (fun _ _ _ _ _ => gx_name 8 nd) (fun _ _ _ _ _ => txs_one (tx_pw (wx_and (tx_cmp (op_neZ (by exact b.hu)) (sem_rD neD_flat) (ex_ix (ex_var 2) (ex_var 8)) (ex_ix (ex_var 7) (ex_var 8)) (nomark _)) (wx_and1 (tx_cmp (op_inZ (by exact b.hu)) (sem_rD inD_flat) (ex_var 8) (ex_fn z_looked_at (by exact b.room.mono (by decide)) takes0 (aj_cons (ex_var 1) (aj_cons (ex_var 2) (aj_nil)))) (by with_unfolding_all rfl)))))) (fun _ _ _ _ _ => ex_var 8))) (ex_of_fx (fx_lst (ax_nil))) (nomark _)) (exOf_yes (exOf_no (exOf_no (exOf_nil)))))))))))))) (.inl rfl) (exOf_yes (exOf_no (exOf_no (exOf_nil))))
/-! ### law -/
def N_law : List Str := ["script", "at", "bag", "turn", "form_here", "content_here", "row"]
theorem sc_law : FnScope N_law ["script"] (defScope (top 92)) := ⟨rfl, rfl, rfl, by decide +kernel, rfl, by decide +kernel, by decide +kernel⟩
def T_law : Rho → Out Rho Flw := sqT (forS (rngT rng1D (consT (callB maxD (consT (cT (.int 1)) (consT (callB minD (consT (cT (.int 5)) (consT (callB lenD (consT (varT 0) (nilT))) (nilT)))) (nilT)))) (nilT))) (setG 1) (sqT (asgT 2 (callT [none, none] S__law_bag (consT (varT 0) (consT (varT 1) (nilT))))) (sqT (forS (rngT rng1D (consT (cT (.int 4)) (nilT))) (setG 3) (sqT (asgT 4 (callT [some 2] S__law_wide_form (ownT 2 (nilT)))) (sqT (asgT 5 (callT [some 2, none, none, none] S__law_content (ownT 2 (consT (varT 4) (consT (cT (.int 6)) (consT (binT idxD (lstT (consT (cT (.int 3)) (consT (cT (.int 20)) (nilT)))) (callT [some 2, none] S__law_grab (ownT 2 (consT (cT (.int 2)) (nilT))))) (nilT))))))) (sqT (asgT 6 (callT [none, none] S_write (consT (varT 4) (consT (varT 5) (nilT))))) (sqT (ifT (notT (isB (callT [none, none] (S__law_equal 12) (consT (lstT (consT (callT [none, none] S_read (consT (varT 4) (consT (varT 6) (nilT)))) (consT (callT [none, none] S_refusal (consT (varT 4) (consT (varT 6) (nilT)))) (nilT)))) (consT (lstT (consT (varT 5) (consT (cT .none) (nilT)))) (nilT)))))) (retT (cT (.bool false))) (nxT)) (sqT (ifT (andT (isB (chainT ltD ltD (cT (.int 0)) (callB lenD (consT (varT 6) (nilT))) (cT (.int 61)))) (notT (isB (callT [none, none] (S__law_equal 12) (consT (callT [none, none] S__law_live_told (consT (varT 4) (consT (varT 6) (nilT)))) (consT (tupT (consT (varT 5) (consT (cT (.str ("done" : Str))) (nilT)))) (nilT))))))) (retT (cT (.bool false))) (nxT)) (sqT (asgT 6 (callT [some 2, none, none, none] S__law_good_file (ownT 2 (consT (varT 4) (consT (binT idxD (lstT (consT (cT (.int 3)) (consT (cT (.int 9)) (nilT)))) (callT [some 2, none] S__law_grab (ownT 2 (consT (cT (.int 2)) (nilT))))) (consT (cT (.int 200)) (nilT))))))) (ifT (andT (isB (binT isNotD (varT 6) (cT .none))) (notT (isB (callT [some 2, none, none] S__law_file_right (ownT 2 (consT (varT 4) (consT (varT 6) (nilT)))))))) (retT (cT (.bool false))) (nxT))))))))) (nxT)))) (retT (cT (.bool true)))
def S_law : List D → Out (List D) D := runF [] 7 T_law
theorem z_law {P : Program} {w : World} {K : PySem.W.Frag} {mg : Str → Option Value} {base : Heap} (g : Gk K mg) (z__law_bag : FnZ P w K mg base "_law_bag" 1 [none, none] (some .lst) S__law_bag) (z__law_content : FnZ P w K mg base "_law_content" 2 [some .lst, none, none, none] none S__law_content) (z__law_equal : FnZ P w K mg base "_law_equal" 12 [none, none] none (S__law_equal 12)) (z__law_file_right : FnZ P w K mg base "_law_file_right" 13 [some .lst, none, none] none S__law_file_right) (z__law_good_file : FnZ P w K mg base "_law_good_file" 4 [some .lst, none, none, none] none S__law_good_file) (z__law_grab : FnZ P w K mg base "_law_grab" 1 [some .lst, none] none S__law_grab) (z__law_live_told : FnZ P w K mg base "_law_live_told" 9 [none, none] none S__law_live_told) (z__law_wide_form : FnZ P w K mg base "_law_wide_form" 4 [some .lst] none S__law_wide_form) (z_read : FnZ P w K mg base "read" 6 [none, none] none S_read) (z_refusal : FnZ P w K mg base "refusal" 6 [none, none] none S_refusal) (z_write : FnZ P w K mg base "write" 7 [none, none] none S_write) {fd : FuncData} (F : Fun K "law" "law" (top 92) (He.ga K "law") fd) : FnOk P w K mg base (L2.CX P w) 14 (He.ga K "law") fd ["script"] (spZ K mg [none] none S_law) := by
  exact fnZ0 (k := 13) (rk := none) (N := N_law) (ps := ["script"]) (O' := [none, none, none, none, none, none, none]) (T := T_law) 1 F sc_law rfl (fun cdv A outer s H E b => by
    have nd := sc_law.nd
    exact bx_cons (O1 := [none, none, none, none, none, none, none]) (sx_for b.own b.calm (ix_rng1 g.f_range (ax_cons (ex_callB (call_maxZ b.calm) (sem_rDN maxD_flat) g.f_max rfl (ax_cons (ex_int) (ax_cons (ex_callB (call_minZ b.calm) (sem_rDN minD_flat) g.f_min rfl (ax_cons (ex_int) (ax_cons (ex_callB call_lenZ (sem_rDN lenD_flat) g.f_len rfl (ax_cons (ex_var 0) (ax_nil))) (ax_nil)))) (ax_nil)))) (ax_nil))) (gx_name 1 nd) (bx_cons (O1 := [none, none, some .lst, none, none, none, none]) (sx_own 2 nd (fx_fn z__law_bag (b.room.mono (by decide)) b.tk (aj_cons (ex_var 0) (aj_cons (ex_var 1) (aj_nil)))) (exOf_no (exOf_nil)))
      (bx_cons (O1 := [none, none, some .lst, none, none, none, none]) (sx_for b.own b.calm (ix_rng1 g.f_range (ax_cons (ex_int) (ax_nil))) (gx_name 3 nd) (bx_cons (O1 := [none, none, some .lst, none, none, none, none]) (sx_set 4 nd (ex_fn z__law_wide_form (b.room.mono (by decide)) b.tk (aj_own 2 (aj_nil))) (exOf_no (exOf_nil)))
      (bx_cons (O1 := [none, none, some .lst, none, none, none, none]) (sx_set 5 nd (ex_fn z__law_content (b.room.mono (by decide)) b.tk (aj_own 2 (aj_cons (ex_var 4) (aj_cons (ex_int) (aj_cons (ex_ix (ex_of_fx (fx_lst (ax_cons (ex_int) (ax_cons (ex_int) (ax_nil))))) (ex_fn z__law_grab (b.room.mono (by decide)) b.tk (aj_own 2 (aj_cons (ex_int) (aj_nil))))) (aj_nil)))))) (exOf_no (exOf_nil)))
      (bx_cons (O1 := [none, none, some .lst, none, none, none, none]) (sx_set 6 nd (ex_fn z_write (b.room.mono (by decide)) b.tk (aj_cons (ex_var 4) (aj_cons (ex_var 5) (aj_nil)))) (exOf_no (exOf_nil)))
      (bx_cons (O1 := [none, none, some .lst, none, none, none, none]) (sx_if (O' := [none, none, some .lst, none, none, none, none]) (tx_not (tx_val (ex_fn z__law_equal (b.room.mono (by decide)) b.tk (aj_cons (ex_of_fx (fx_lst (ax_cons (ex_fn z_read (b.room.mono (by decide)) b.tk (aj_cons (ex_var 4) (aj_cons (ex_var 6) (aj_nil)))) (ax_cons (ex_fn z_refusal (b.room.mono (by decide)) b.tk (aj_cons (ex_var 4) (aj_cons (ex_var 6) (aj_nil)))) (ax_nil))))) (aj_cons (ex_of_fx (fx_lst (ax_cons (ex_var 5) (ax_cons (ex_non) (ax_nil))))) (aj_nil)))))) (bx_one (sx_ret (ex_bl) (exOf_no (exOf_nil)))) (bx_nil) (exOf_no (exOf_nil)))
      (bx_cons (O1 := [none, none, some .lst, none, none, none, none]) (sx_if (O' := [none, none, some .lst, none, none, none, none]) (tx_pw (wx_and (tx_chain (op_ltZ b.hu) (op_ltZ b.hu) ordD_flat (ex_int) (ex_callB call_lenZ (sem_rDN lenD_flat) g.f_len rfl (ax_cons (ex_var 6) (ax_nil))) (ex_int)) (wx_and1 (tx_not (tx_val (ex_fn z__law_equal (b.room.mono (by decide)) b.tk (aj_cons (ex_fn z__law_live_told (b.room.mono (by decide)) b.tk (aj_cons (ex_var 4) (aj_cons (ex_var 6) (aj_nil)))) (aj_cons (ex_tup (ax_cons (ex_var 5) (ax_cons (ex_str) (ax_nil)))) (aj_nil))))))))) (bx_one (sx_ret (ex_bl) (exOf_no (exOf_nil)))) (bx_nil) (exOf_no (exOf_nil)))
      (bx_cons (O1 := [none, none, some .lst, none, none, none, none]) (sx_set 6 nd (ex_fn z__law_good_file (b.room.mono (by decide)) b.tk (aj_own 2 (aj_cons (ex_var 4) (aj_cons (ex_ix (ex_of_fx (fx_lst (ax_cons (ex_int) (ax_cons (ex_int) (ax_nil))))) (ex_fn z__law_grab (b.room.mono (by decide)) b.tk (aj_own 2 (aj_cons (ex_int) (aj_nil))))) (aj_cons (ex_int) (aj_nil)))))) (exOf_no (exOf_nil)))
      (bx_one (sx_if (O' := [none, none, some .lst, none, none, none, none]) (tx_pw (wx_and (tx_cmp (op_isNotZ) (sem_rD isNotD_flat) (ex_var 6) (ex_non) (nomark _)) (wx_and1 (tx_not (tx_val (ex_fn z__law_file_right (b.room.mono (by decide)) b.tk (aj_own 2 (aj_cons (ex_var 4) (aj_cons (ex_var 6) (aj_nil)))))))))) (bx_one (sx_ret (ex_bl) (exOf_no (exOf_nil)))) (bx_nil) (exOf_no (exOf_nil)))))))))) (exOf_no (exOf_nil)))
      (bx_freeze 2 (O1 := [none, none, none, none, none, none, none]) (bx_nil)))) (exOf_no (exOf_nil)))
      (bx_one (sx_ret (ex_bl) (exOf_no (exOf_nil))))) (.inl rfl)
/-! ### the head -/
def fnL : List He5.DefA := [dfZ (fun K => He.ga K "_law_bag") "_law_bag" "_law_bag" (top 75),
  dfZ (fun K => He.ga K "_law_grab") "_law_grab" "_law_grab" (top 76),
  dfZ (fun K => He.ga K "_law_drawn_tags") "_law_drawn_tags" "_law_drawn_tags" (top 78),
  dfZ (fun K => He.ga K "_law_drawn_form") "_law_drawn_form" "_law_drawn_form" (top 79),
  dfZ (fun K => He.ga K "_law_wide_form") "_law_wide_form" "_law_wide_form" (top 85),
  dfZ (fun K => He.ga K "_law_longest") "_law_longest" "_law_longest" (top 88),
  dfZ (fun K => He.ga K "_law_content") "_law_content" "_law_content" (top 89),
  dfZ (fun K => He.ga K "is_integer") "is_integer" "is_integer" (top 26),
  dfZ (fun K => He.ga K "is_sign") "is_sign" "is_sign" (top 28),
  dfZ (fun K => He.ga K "is_word_of") "is_word_of" "is_word_of" (top 30),
  dfZ (fun K => He.ga K "is_tags") "is_tags" "is_tags" (top 31),
  dfZ (fun K => He.ga K "is_at_least") "is_at_least" "is_at_least" (top 27),
  dfZ (fun K => He.ga K "is_head") "is_head" "is_head" (top 32),
  dfZ (fun K => He.ga K "is_format") "is_format" "is_format" (top 33),
  dfZ (fun K => He.ga K "check_format") "check_format" "check_format" (top 35),
  dfZ (fun K => He.ga K "greatest_length") "greatest_length" "greatest_length" (top 57),
  dfZ (fun K => He.ga K "use_at") "use_at" "use_at" (top 38),
  dfZ (fun K => He.ga K "is_signs") "is_signs" "is_signs" (top 29),
  dfZ (fun K => He.ga K "is_chunk") "is_chunk" "is_chunk" (top 58),
  dfZ (fun K => He.ga K "is_content_of") "is_content_of" "is_content_of" (top 59),
  dfZ (fun K => He.ga K "check_content") "check_content" "check_content" (top 60),
  dfZ (fun K => He.ga K "length_signs") "length_signs" "length_signs" (top 61),
  dfZ (fun K => He.ga K "chunk_signs") "chunk_signs" "chunk_signs" (top 62),
  dfZ (fun K => He.ga K "written") "written" "written" (top 63),
  dfZ (fun K => He.ga K "write") "write" "write" (top 69),
  dfZ (fun K => He.ga K "_law_use") "_law_use" "_law_use" (top 80),
  dfZ (fun K => He.ga K "_law_written") "_law_written" "_law_written" (top 84),
  dfZ (fun K => He.ga K "_law_long") "_law_long" "_law_long" (top 81),
  dfZ (fun K => He.ga K "_law_chunk") "_law_chunk" "_law_chunk" (top 82),
  dfZ (fun K => He.ga K "_law_reading") "_law_reading" "_law_reading" (top 83),
  dfZ (fun K => He.ga K "_law_good_file") "_law_good_file" "_law_good_file" (top 86),
  dfZ (fun K => He.ga K "_law_equal") "_law_equal" "_law_equal" (top 77),
  dfZ (fun K => He.ga K "_law_turned_blind") "_law_turned_blind" "_law_turned_blind" (top 87),
  dfZ (fun K => He.ga K "is_content") "is_content" "is_content" (top 68),
  dfZ (fun K => He.ga K "is_file_of") "is_file_of" "is_file_of" (top 34),
  dfZ (fun K => He.ga K "check_file") "check_file" "check_file" (top 36),
  dfZ (fun K => He.ga K "first_stand") "first_stand" "first_stand" (top 37),
  dfZ (fun K => He.ga K "behind_head") "behind_head" "behind_head" (top 43),
  dfZ (fun K => He.ga K "behind_tag") "behind_tag" "behind_tag" (top 44),
  dfZ (fun K => He.ga K "body_stand") "body_stand" "body_stand" (top 39),
  dfZ (fun K => He.ga K "behind_length") "behind_length" "behind_length" (top 40),
  dfZ (fun K => He.ga K "behind_second") "behind_second" "behind_second" (top 41),
  dfZ (fun K => He.ga K "behind_body") "behind_body" "behind_body" (top 42),
  dfZ (fun K => He.ga K "step") "step" "step" (top 45),
  dfZ (fun K => He.ga K "is_ending") "is_ending" "is_ending" (top 46),
  dfZ (fun K => He.ga K "word_at") "word_at" "word_at" (top 52),
  dfZ (fun K => He.ga K "refusal_of") "refusal_of" "refusal_of" (top 53),
  dfZ (fun K => He.ga K "check_read") "check_read" "check_read" (top 64),
  dfZ (fun K => He.ga K "told_at") "told_at" "told_at" (top 54),
  dfZ (fun K => He.ga K "told_in") "told_in" "told_in" (top 55),
  dfZ (fun K => He.ga K "read") "read" "read" (top 65),
  dfZ (fun K => He.ga K "refusal") "refusal" "refusal" (top 66),
  dfZ (fun K => He.ga K "stand_from") "stand_from" "stand_from" (top 48),
  dfZ (fun K => prG K (He.ga K "Reader") "stand") "stand" "Reader.stand" (inClass (top 73) 4),
  dfZ (fun K => He.ma K (He.ga K "Reader") "__call__") "__call__" "Reader.__call__" (inClass (top 73) 1),
  dfZ (fun K => He.ma K (He.ga K "Reader") "__init__") "__init__" "Reader.__init__" (inClass (top 73) 0),
  dfZ (fun K => prG K (He.ga K "Reader") "told") "told" "Reader.told" (inClass (top 73) 5),
  dfZ (fun K => He.ga K "_law_live_told") "_law_live_told" "_law_live_told" (top 90),
  dfZ (fun K => He.ga K "is_looking") "is_looking" "is_looking" (top 47),
  dfZ (fun K => He.ga K "looked_in") "looked_in" "looked_in" (top 56),
  dfZ (fun K => He.ga K "looked_at") "looked_at" "looked_at" (top 67),
  dfZ (fun K => He.ga K "_law_file_right") "_law_file_right" "_law_file_right" (top 91),
  dfZ (fun K => He.ga K "law") "law" "law" (top 92)]
def exL (K : PySem.W.Frag) : List Bool := [(He.Fa.free "abs").ok K,
  (He.Fa.free "all").ok K,
  (He.Fa.free "any").ok K,
  (He.Fa.free "bool").ok K,
  (He.Fa.free "enumerate").ok K,
  (He.Fa.free "int").ok K,
  (He.Fa.free "isinstance").ok K,
  (He.Fa.free "len").ok K,
  (He.Fa.free "list").ok K,
  (He.Fa.free "max").ok K,
  (He.Fa.free "min").ok K,
  (He.Fa.free "range").ok K,
  (He.Fa.free "str").ok K,
  (He.Fa.free "sum").ok K,
  (He.Fa.free "tuple").ok K,
  (He.Fa.free "zip").ok K,
  (He.Fa.str "CHECK" ("check" : Str)).ok K,
  (He.Fa.str "DONE" ("done" : Str)).ok K,
  (He.Fa.str "END" ("end" : Str)).ok K,
  (He.Fa.int "GREATEST_BASE" 256).ok K,
  (He.Fa.str "HIGH" ("high" : Str)).ok K,
  (He.Fa.str "ONE" ("one" : Str)).ok K,
  (He.Fa.str "OPEN" ("open" : Str)).ok K,
  (He.Fa.glo "OTHERS").ok K,
  He.tupB K "OTHERS" [.str ("skip" : Str), .str ("refuse" : Str)],
  (He.Fa.glo "OVER").ok K,
  He.tupB K "OVER" [.str ("over" : Str)],
  (He.Fa.glo "ROOM").ok K,
  He.tupB K "ROOM" [.str ("room" : Str)],
  (He.Fa.str "SHORT" ("short" : Str)).ok K,
  (He.Fa.str "SKIP" ("skip" : Str)).ok K,
  (He.Fa.str "STOP" ("stop" : Str)).ok K,
  (He.Fa.glo "TAG").ok K,
  He.tupB K "TAG" [.str ("tag" : Str)],
  (He.Fa.glo "TOLD").ok K,
  He.tupB K "TOLD" [.str ("keep" : Str), .str ("check" : Str)],
  (He.Fa.glo "USES").ok K,
  He.tupB K "USES" [.str ("keep" : Str), .str ("check" : Str), .str ("skip" : Str), .str ("end" : Str), .str ("stop" : Str)],
  (He.Fa.glo "WIDTHS").ok K,
  He.tupB K "WIDTHS" [.str ("one" : Str), .str ("high" : Str), .str ("low" : Str)],
  (He.Fa.cls "Reader").ok K,
  (He.Fa.glo "Reader").ok K,
  (He.Fa.mkr "Reader").ok K,
  callB_ K (He.ga K "Reader"),
  (He.Fa.noat "Reader" "own_form").ok K,
  (He.Fa.noat "Reader" "taken").ok K,
  propB K (He.ga K "Reader") "stand",
  propB K (He.ga K "Reader") "told",
  (He.Fa.glo "_law_bag").ok K,
  (He.Fa.glo "_law_grab").ok K,
  (He.Fa.glo "_law_drawn_tags").ok K,
  (He.Fa.glo "_law_drawn_form").ok K,
  (He.Fa.glo "_law_wide_form").ok K,
  (He.Fa.glo "_law_longest").ok K,
  (He.Fa.glo "_law_content").ok K,
  (He.Fa.glo "is_integer").ok K,
  (He.Fa.glo "is_sign").ok K,
  (He.Fa.glo "is_word_of").ok K,
  (He.Fa.glo "is_tags").ok K,
  (He.Fa.glo "is_at_least").ok K,
  (He.Fa.glo "is_head").ok K,
  (He.Fa.glo "is_format").ok K,
  (He.Fa.glo "check_format").ok K,
  (He.Fa.glo "greatest_length").ok K,
  (He.Fa.glo "use_at").ok K,
  (He.Fa.glo "is_signs").ok K,
  (He.Fa.glo "is_chunk").ok K,
  (He.Fa.glo "is_content_of").ok K,
  (He.Fa.glo "check_content").ok K,
  (He.Fa.glo "length_signs").ok K,
  (He.Fa.glo "chunk_signs").ok K,
  (He.Fa.glo "written").ok K,
  (He.Fa.glo "write").ok K,
  (He.Fa.glo "_law_use").ok K,
  (He.Fa.glo "_law_written").ok K,
  (He.Fa.glo "_law_long").ok K,
  (He.Fa.glo "_law_chunk").ok K,
  (He.Fa.glo "_law_reading").ok K,
  (He.Fa.glo "_law_good_file").ok K,
  (He.Fa.glo "_law_equal").ok K,
  (He.Fa.glo "_law_turned_blind").ok K,
  (He.Fa.glo "is_content").ok K,
  (He.Fa.glo "is_file_of").ok K,
  (He.Fa.glo "check_file").ok K,
  (He.Fa.glo "first_stand").ok K,
  (He.Fa.glo "behind_head").ok K,
  (He.Fa.glo "behind_tag").ok K,
  (He.Fa.glo "body_stand").ok K,
  (He.Fa.glo "behind_length").ok K,
  (He.Fa.glo "behind_second").ok K,
  (He.Fa.glo "behind_body").ok K,
  (He.Fa.glo "step").ok K,
  (He.Fa.glo "is_ending").ok K,
  (He.Fa.glo "word_at").ok K,
  (He.Fa.glo "refusal_of").ok K,
  (He.Fa.glo "check_read").ok K,
  (He.Fa.glo "told_at").ok K,
  (He.Fa.glo "told_in").ok K,
  (He.Fa.glo "read").ok K,
  (He.Fa.glo "refusal").ok K,
  (He.Fa.glo "stand_from").ok K,
  (He.Fa.glo "_law_live_told").ok K,
  (He.Fa.glo "is_looking").ok K,
  (He.Fa.glo "looked_in").ok K,
  (He.Fa.glo "looked_at").ok K,
  (He.Fa.glo "_law_file_right").ok K,
  (He.Fa.glo "law").ok K]
def exB (K : PySem.W.Frag) : Bool := (exL K).all id
theorem gk {K : PySem.W.Frag} {h0 : Heap} {mg : Str → Option Value} (X : K.In h0) (G : h0.Ns mainGlobals mg) (h : (exL K).all id = true) : Gk K mg where
  f_abs := He.free_ok X G (all_at (p := id) h 0)
  f_all := He.free_ok X G (all_at (p := id) h 1)
  f_any := He.free_ok X G (all_at (p := id) h 2)
  f_bool := He.free_ok X G (all_at (p := id) h 3)
  f_enumerate := He.free_ok X G (all_at (p := id) h 4)
  f_int := He.free_ok X G (all_at (p := id) h 5)
  f_isinstance := He.free_ok X G (all_at (p := id) h 6)
  f_len := He.free_ok X G (all_at (p := id) h 7)
  f_list := He.free_ok X G (all_at (p := id) h 8)
  f_max := He.free_ok X G (all_at (p := id) h 9)
  f_min := He.free_ok X G (all_at (p := id) h 10)
  f_range := He.free_ok X G (all_at (p := id) h 11)
  f_str := He.free_ok X G (all_at (p := id) h 12)
  f_sum := He.free_ok X G (all_at (p := id) h 13)
  f_tuple := He.free_ok X G (all_at (p := id) h 14)
  f_zip := He.free_ok X G (all_at (p := id) h 15)
  k_CHECK := kon_str X G (all_at (p := id) h 16)
  k_DONE := kon_str X G (all_at (p := id) h 17)
  k_END := kon_str X G (all_at (p := id) h 18)
  k_GREATEST_BASE := kon_int X G (all_at (p := id) h 19)
  k_HIGH := kon_str X G (all_at (p := id) h 20)
  k_ONE := kon_str X G (all_at (p := id) h 21)
  k_OPEN := kon_str X G (all_at (p := id) h 22)
  k_OTHERS := kon_tup (vs := [.str ("skip" : Str), .str ("refuse" : Str)]) X G (all_at (p := id) h 23) (all_at (p := id) h 24) rfl
  k_OVER := kon_tup (vs := [.str ("over" : Str)]) X G (all_at (p := id) h 25) (all_at (p := id) h 26) rfl
  k_ROOM := kon_tup (vs := [.str ("room" : Str)]) X G (all_at (p := id) h 27) (all_at (p := id) h 28) rfl
  k_SHORT := kon_str X G (all_at (p := id) h 29)
  k_SKIP := kon_str X G (all_at (p := id) h 30)
  k_STOP := kon_str X G (all_at (p := id) h 31)
  k_TAG := kon_tup (vs := [.str ("tag" : Str)]) X G (all_at (p := id) h 32) (all_at (p := id) h 33) rfl
  k_TOLD := kon_tup (vs := [.str ("keep" : Str), .str ("check" : Str)]) X G (all_at (p := id) h 34) (all_at (p := id) h 35) rfl
  k_USES := kon_tup (vs := [.str ("keep" : Str), .str ("check" : Str), .str ("skip" : Str), .str ("end" : Str), .str ("stop" : Str)]) X G (all_at (p := id) h 36) (all_at (p := id) h 37) rfl
  k_WIDTHS := kon_tup (vs := [.str ("one" : Str), .str ("high" : Str), .str ("low" : Str)]) X G (all_at (p := id) h 38) (all_at (p := id) h 39) rfl
  c_Reader := He.cls_ok (all_at (p := id) h 40)
  a_Reader := He.glo_ok X G (all_at (p := id) h 41)
  m_Reader := He.mkr_ok (all_at (p := id) h 42)
  o_Reader := callB_ok (all_at (p := id) h 43)
  n_Reader_own_form := He.noat_ok (all_at (p := id) h 44)
  n_Reader_taken := He.noat_ok (all_at (p := id) h 45)
  p_Reader_stand := propB_ok (all_at (p := id) h 46)
  p_Reader_told := propB_ok (all_at (p := id) h 47)
theorem all_ok {P : Program} {w : World} {K : PySem.W.Frag} {h0 : Heap} {mg : Str → Option Value} (X : K.In h0) (G : h0.Ns mainGlobals mg) (c : SaysZ fnL exB K) : LawZ P w K mg (He.ga K "law") 14 "script" S_law := by
  have h : (exL K).all id = true := c.more
  have g := gk X G h
  obtain ⟨fd, F⟩ := c.def_ 62
  refine ⟨fd, bindsA F (fun _ _ _ _ _ _ us hl => match us, hl with | [_], _ => rfl), fun base => ?_⟩
  have z__law_bag := z__law_bag (P := P) (w := w) (base := base) g  (c.def_ 0) (He.glo_ok X G (all_at (p := id) h 48))
  have z__law_grab := z__law_grab (P := P) (w := w) (base := base) g  (c.def_ 1) (He.glo_ok X G (all_at (p := id) h 49))
  have z__law_drawn_tags := z__law_drawn_tags (P := P) (w := w) (base := base) g z__law_grab (c.def_ 2) (He.glo_ok X G (all_at (p := id) h 50))
  have z__law_drawn_form := z__law_drawn_form (P := P) (w := w) (base := base) g z__law_drawn_tags z__law_grab (c.def_ 3) (He.glo_ok X G (all_at (p := id) h 51))
  have z__law_wide_form := z__law_wide_form (P := P) (w := w) (base := base) g z__law_drawn_form z__law_grab (c.def_ 4) (He.glo_ok X G (all_at (p := id) h 52))
  have z__law_longest := z__law_longest (P := P) (w := w) (base := base) g  (c.def_ 5) (He.glo_ok X G (all_at (p := id) h 53))
  have z__law_content := z__law_content (P := P) (w := w) (base := base) g z__law_grab z__law_longest (c.def_ 6) (He.glo_ok X G (all_at (p := id) h 54))
  have z_is_integer := z_is_integer (P := P) (w := w) (base := base) g  (c.def_ 7) (He.glo_ok X G (all_at (p := id) h 55))
  have z_is_sign := z_is_sign (P := P) (w := w) (base := base) g z_is_integer (c.def_ 8) (He.glo_ok X G (all_at (p := id) h 56))
  have z_is_word_of := z_is_word_of (P := P) (w := w) (base := base) g  (c.def_ 9) (He.glo_ok X G (all_at (p := id) h 57))
  have z_is_tags := z_is_tags (P := P) (w := w) (base := base) g z_is_sign z_is_word_of (c.def_ 10) (He.glo_ok X G (all_at (p := id) h 58))
  have z_is_at_least := z_is_at_least (P := P) (w := w) (base := base) g z_is_integer (c.def_ 11) (He.glo_ok X G (all_at (p := id) h 59))
  have z_is_head := z_is_head (P := P) (w := w) (base := base) g z_is_sign (c.def_ 12) (He.glo_ok X G (all_at (p := id) h 60))
  have z_is_format := z_is_format (P := P) (w := w) (base := base) g z_is_at_least z_is_head z_is_tags z_is_word_of (c.def_ 13) (He.glo_ok X G (all_at (p := id) h 61))
  have z_check_format := z_check_format (P := P) (w := w) (base := base) g z_is_format (c.def_ 14) (He.glo_ok X G (all_at (p := id) h 62))
  have z_greatest_length := z_greatest_length (P := P) (w := w) (base := base) g  (c.def_ 15) (He.glo_ok X G (all_at (p := id) h 63))
  have z_use_at := z_use_at (P := P) (w := w) (base := base) g  (c.def_ 16) (He.glo_ok X G (all_at (p := id) h 64))
  have z_is_signs := z_is_signs (P := P) (w := w) (base := base) g z_is_sign (c.def_ 17) (He.glo_ok X G (all_at (p := id) h 65))
  have z_is_chunk := z_is_chunk (P := P) (w := w) (base := base) g z_greatest_length z_is_sign z_is_signs z_use_at (c.def_ 18) (He.glo_ok X G (all_at (p := id) h 66))
  have z_is_content_of := z_is_content_of (P := P) (w := w) (base := base) g z_is_chunk (c.def_ 19) (He.glo_ok X G (all_at (p := id) h 67))
  have z_check_content := z_check_content (P := P) (w := w) (base := base) g z_is_content_of (c.def_ 20) (He.glo_ok X G (all_at (p := id) h 68))
  have z_length_signs := z_length_signs (P := P) (w := w) (base := base) g  (c.def_ 21) (He.glo_ok X G (all_at (p := id) h 69))
  have z_chunk_signs := z_chunk_signs (P := P) (w := w) (base := base) g z_length_signs z_use_at (c.def_ 22) (He.glo_ok X G (all_at (p := id) h 70))
  have z_written := z_written (P := P) (w := w) (base := base) g z_chunk_signs (c.def_ 23) (He.glo_ok X G (all_at (p := id) h 71))
  have z_write := z_write (P := P) (w := w) (base := base) g z_check_content z_check_format z_written (c.def_ 24) (He.glo_ok X G (all_at (p := id) h 72))
  have z__law_use := z__law_use (P := P) (w := w) (base := base) g  (c.def_ 25) (He.glo_ok X G (all_at (p := id) h 73))
  have z__law_written := z__law_written (P := P) (w := w) (base := base) g z__law_grab z__law_use (c.def_ 26) (He.glo_ok X G (all_at (p := id) h 74))
  have z__law_long := z__law_long (P := P) (w := w) (base := base) g  (c.def_ 27) (He.glo_ok X G (all_at (p := id) h 75))
  have z__law_chunk := z__law_chunk (P := P) (w := w) (base := base) g z__law_long (c.def_ 28) (He.glo_ok X G (all_at (p := id) h 76))
  have z__law_reading := z__law_reading (P := P) (w := w) (base := base) g z__law_chunk z__law_use (c.def_ 29) (He.glo_ok X G (all_at (p := id) h 77))
  have z__law_good_file := z__law_good_file (P := P) (w := w) (base := base) g z__law_reading z__law_written (c.def_ 30) (He.glo_ok X G (all_at (p := id) h 78))
  have z__law_equal := (z__law_equal (P := P) (w := w) (base := base) g  (c.def_ 31) (He.glo_ok X G (all_at (p := id) h 79))) 12
  have z__law_turned_blind := z__law_turned_blind (P := P) (w := w) (base := base) g z__law_grab (c.def_ 32) (He.glo_ok X G (all_at (p := id) h 80))
  have z_is_content := z_is_content (P := P) (w := w) (base := base) g z_check_format z_is_content_of (c.def_ 33) (He.glo_ok X G (all_at (p := id) h 81))
  have z_is_file_of := z_is_file_of (P := P) (w := w) (base := base) g z_is_signs (c.def_ 34) (He.glo_ok X G (all_at (p := id) h 82))
  have z_check_file := z_check_file (P := P) (w := w) (base := base) g z_is_file_of (c.def_ 35) (He.glo_ok X G (all_at (p := id) h 83))
  have z_first_stand := z_first_stand (P := P) (w := w) (base := base) g  (c.def_ 36) (He.glo_ok X G (all_at (p := id) h 84))
  have z_behind_head := z_behind_head (P := P) (w := w) (base := base) g  (c.def_ 37) (He.glo_ok X G (all_at (p := id) h 85))
  have z_behind_tag := z_behind_tag (P := P) (w := w) (base := base) g z_use_at (c.def_ 38) (He.glo_ok X G (all_at (p := id) h 86))
  have z_body_stand := z_body_stand (P := P) (w := w) (base := base) g  (c.def_ 39) (He.glo_ok X G (all_at (p := id) h 87))
  have z_behind_length := z_behind_length (P := P) (w := w) (base := base) g z_body_stand (c.def_ 40) (He.glo_ok X G (all_at (p := id) h 88))
  have z_behind_second := z_behind_second (P := P) (w := w) (base := base) g z_body_stand (c.def_ 41) (He.glo_ok X G (all_at (p := id) h 89))
  have z_behind_body := z_behind_body (P := P) (w := w) (base := base) g  (c.def_ 42) (He.glo_ok X G (all_at (p := id) h 90))
  have z_step := z_step (P := P) (w := w) (base := base) g z_behind_body z_behind_head z_behind_length z_behind_second z_behind_tag (c.def_ 43) (He.glo_ok X G (all_at (p := id) h 91))
  have z_is_ending := z_is_ending (P := P) (w := w) (base := base) g  (c.def_ 44) (He.glo_ok X G (all_at (p := id) h 92))
  have z_word_at := z_word_at (P := P) (w := w) (base := base) g  (c.def_ 45) (He.glo_ok X G (all_at (p := id) h 93))
  have z_refusal_of := z_refusal_of (P := P) (w := w) (base := base) g z_first_stand z_is_ending z_step z_word_at (c.def_ 46) (He.glo_ok X G (all_at (p := id) h 94))
  have z_check_read := z_check_read (P := P) (w := w) (base := base) g z_refusal_of (c.def_ 47) (He.glo_ok X G (all_at (p := id) h 95))
  have z_told_at := z_told_at (P := P) (w := w) (base := base) g z_use_at (c.def_ 48) (He.glo_ok X G (all_at (p := id) h 96))
  have z_told_in := z_told_in (P := P) (w := w) (base := base) g z_first_stand z_step z_told_at (c.def_ 49) (He.glo_ok X G (all_at (p := id) h 97))
  have z_read := z_read (P := P) (w := w) (base := base) g z_check_file z_check_format z_check_read z_told_in (c.def_ 50) (He.glo_ok X G (all_at (p := id) h 98))
  have z_refusal := z_refusal (P := P) (w := w) (base := base) g z_check_file z_check_format z_refusal_of (c.def_ 51) (He.glo_ok X G (all_at (p := id) h 99))
  have z_stand_from := z_stand_from (P := P) (w := w) (base := base) g z_step (c.def_ 52) (He.glo_ok X G (all_at (p := id) h 100))
  have z_Reader_stand := z_Reader_stand (P := P) (w := w) (base := base) (mg := mg) g z_first_stand z_stand_from (c.def_ 53)
  have z_Reader___call__ := z_Reader___call__ (P := P) (w := w) (base := base) (mg := mg) g z_is_ending z_is_sign z_step z_word_at z_Reader_stand (c.def_ 54)
  have z_Reader___init__ := z_Reader___init__ (P := P) (w := w) (base := base) (mg := mg) g z_check_format (c.def_ 55)
  have z_Reader_told := z_Reader_told (P := P) (w := w) (base := base) (mg := mg) g z_told_in (c.def_ 56)
  have z__law_live_told := z__law_live_told (P := P) (w := w) (base := base) g z_Reader___call__ z_Reader___init__ z_Reader_told (c.def_ 57) (He.glo_ok X G (all_at (p := id) h 101))
  have z_is_looking := z_is_looking (P := P) (w := w) (base := base) g  (c.def_ 58) (He.glo_ok X G (all_at (p := id) h 102))
  have z_looked_in := z_looked_in (P := P) (w := w) (base := base) g z_first_stand z_is_looking z_step (c.def_ 59) (He.glo_ok X G (all_at (p := id) h 103))
  have z_looked_at := z_looked_at (P := P) (w := w) (base := base) g z_check_file z_check_format z_check_read z_looked_in (c.def_ 60) (He.glo_ok X G (all_at (p := id) h 104))
  have z__law_file_right := z__law_file_right (P := P) (w := w) (base := base) g z__law_equal z__law_live_told z__law_reading z__law_turned_blind z_is_content z_looked_at z_read z_refusal z_write (c.def_ 61) (He.glo_ok X G (all_at (p := id) h 105))
  exact z_law (P := P) (w := w) (base := base) g z__law_bag z__law_content z__law_equal z__law_file_right z__law_good_file z__law_grab z__law_live_told z__law_wide_form z_read z_refusal z_write F
theorem law_at {K : PySem.W.Frag} {h0 : Heap} {mg : Str → Option Value} (X : K.In h0) (G : h0.Ns mainGlobals mg) (c : SaysZ fnL exB K) : mg "law" = some (.ref (He.ga K "law")) := He.glo_ok X G (all_at (p := id) (l := exL K) c.more 106)
def loose0 : List Str := ["_wall", "__name__", "FileError", "InvalidFormat", "InvalidFile", "InvalidContent", "InvalidSign", "Refused", "KEEP", "CHECK", "SKIP", "END", "STOP", "REFUSE", "USES", "TOLD", "OTHERS", "ONE", "HIGH", "LOW", "WIDTHS", "GREATEST_BASE", "TAG", "ROOM", "OVER", "is_integer", "is_at_least", "is_sign", "is_signs", "is_word_of"]
def loose1 : List Str := ["is_tags", "is_head", "is_format", "is_file_of", "check_format", "check_file", "first_stand", "use_at", "body_stand", "behind_length", "behind_second", "behind_body", "behind_head", "behind_tag", "step", "is_ending", "is_looking", "stand_from", "WORDS", "SHORT", "word_at", "refusal_of", "told_at", "told_in", "looked_in", "greatest_length", "is_chunk", "is_content_of", "check_content", "length_signs"]
def loose2 : List Str := ["chunk_signs", "written", "check_read", "read", "refusal", "looked_at", "is_content", "write", "DONE", "OPEN", "Reader", "_law_bag", "_law_grab", "_law_equal", "_law_drawn_tags", "_law_drawn_form", "_law_use", "_law_long", "_law_chunk", "_law_reading", "_law_written", "_law_wide_form", "_law_good_file", "_law_turned_blind", "_law_longest", "_law_content", "_law_live_told", "_law_file_right"]
def loose : List Str := loose0 ++ loose1 ++ loose2
end K80

/-! file KP1 -/
set_option Elab.async false
set_option linter.all false
set_option autoImplicit false
set_option maxRecDepth 100000
set_option maxHeartbeats 4000000
namespace K80
open PySem PySem.Spec L2 Z
/-! ### formats and stands -/
inductive Use where
  | keep | check | skip | end_ | stop
  deriving DecidableEq
def Use.s : Use → Str
  | .keep => "keep" | .check => "check" | .skip => "skip" | .end_ => "end" | .stop => "stop"
inductive Wd where
  | one | high | low
  deriving DecidableEq
def Wd.s : Wd → Str
  | .one => "one" | .high => "high" | .low => "low"
structure Fmt where
  base : Int
  head : List (Option Int)
  width : Wd
  most : Int
  tags : List (Int × Use)
  rest : Bool
def mkD : Option Int → D
  | none => .none
  | some i => .int i
def tgD (t : Int × Use) : D := .tuple [.int t.1, .str t.2.s]
def Fmt.d (f : Fmt) : D := .tuple [.int f.base, .tuple (f.head.map mkD), .str f.width.s, .int f.most, .tuple (f.tags.map tgD), .str (if f.rest then "skip" else "refuse")]
def sgD (l : List Int) : D := .tuple (l.map .int)
structure Fmt.Ok (f : Fmt) : Prop where
  b2 : 2 ≤ f.base
  b256 : f.base ≤ 256
  hd : ∀ i, some i ∈ f.head → 0 ≤ i ∧ i < f.base
  hl : f.head.length ≤ 1000
  m0 : 0 ≤ f.most
  tg : ∀ t ∈ f.tags, 0 ≤ t.1 ∧ t.1 < f.base
  so : f.tags.Pairwise fun a b => a.1 < b.1
  tl : f.tags.length ≤ 1000
inductive Std where
  | head (p : Nat)
  | tag
  | len (u : Use)
  | second (u : Use) (a : Int)
  | body (u : Use) (l t : Int)
  | sum (t : Int)
  | room
  | over
def Std.d : Std → D
  | .head p => .tuple [.str "head", .int p]
  | .tag => .tuple [.str "tag"]
  | .len u => .tuple [.str "length", .str u.s]
  | .second u a => .tuple [.str "second", .str u.s, .int a]
  | .body u l t => .tuple [.str "body", .str u.s, .int l, .int t]
  | .sum t => .tuple [.str "sum", .int t]
  | .room => .tuple [.str "room"]
  | .over => .tuple [.str "over"]
def stD : Option Std → D
  | none => .none
  | some s => s.d
def useD : Option Use → D
  | none => .none
  | some u => .str u.s
def use (f : Fmt) (s : Int) : Option Use := match f.tags.find? (fun t => decide (t.1 = s)) with
  | some t => some t.2
  | none => if f.rest then some .skip else none
def bodyStd (u : Use) (n : Int) : Std := if 0 < n then .body u n 0 else if u = .check then .sum 0 else .tag
def step (f : Fmt) : Std → Int → Option Std
  | .head p, s => match f.head[p]? with
    | none => none
    | some none => some (if p + 1 < f.head.length then .head (p + 1) else .tag)
    | some (some m) => if m = s then some (if p + 1 < f.head.length then .head (p + 1) else .tag) else none
  | .tag, s => match use f s with
    | none => none
    | some .end_ => some .room
    | some .stop => some .over
    | some u => some (.len u)
  | .len u, s => match f.width with
    | .one => if s ≤ f.most then some (bodyStd u s) else none
    | .high => if s * f.base ≤ f.most then some (.second u s) else none
    | .low => if s ≤ f.most then some (.second u s) else none
  | .second u a, s => if (if f.width = .high then a * f.base + s else s * f.base + a) ≤ f.most then some (bodyStd u (if f.width = .high then a * f.base + s else s * f.base + a)) else none
  | .body u l t, s => some (if 1 < l then .body u (l - 1) (if u = .check then (t + s) % f.base else t) else if u = .check then .sum ((t + s) % f.base) else .tag)
  | .sum t, s => if s = t then some .tag else none
  | .room, _ => some .room
  | .over, _ => none

@[simp] theorem fd0 (f : Fmt) : idxD f.d (.int 0) = some (.int f.base) := by simp [Fmt.d]
@[simp] theorem fd1 (f : Fmt) : idxD f.d (.int 1) = some (.tuple (f.head.map mkD)) := by simp [Fmt.d]
@[simp] theorem fd2 (f : Fmt) : idxD f.d (.int 2) = some (.str f.width.s) := by simp [Fmt.d]
@[simp] theorem fd3 (f : Fmt) : idxD f.d (.int 3) = some (.int f.most) := by simp [Fmt.d]
@[simp] theorem fd4 (f : Fmt) : idxD f.d (.int 4) = some (.tuple (f.tags.map tgD)) := by simp [Fmt.d]
@[simp] theorem fd5 (f : Fmt) : idxD f.d (.int 5) = some (.str (if f.rest then "skip" else "refuse")) := by simp [Fmt.d]
theorem use_ok (u : Use) : PyData.strOk u.s = true := by cases u <;> decide +kernel
theorem use_eq (u : Use) (v : Use) : (u.s = v.s) ↔ u = v := by cases u <;> cases v <;> decide +kernel
theorem wd_ok (u : Wd) : PyData.strOk u.s = true := by cases u <;> decide +kernel
theorem mul_ok {a b : Int} (h : 2 ≤ b) (h' : b ≤ 256) : mulOk a b = true := by
  unfold mulOk
  exact decide_eq_true (.inr ⟨by omega, by omega⟩)
theorem Fmt.Ok.mul {f : Fmt} (h : f.Ok) (a : Int) : mulD (.int a) (.int f.base) = some (.int (a * f.base)) := mulD_int _ _ (mul_ok h.b2 h.b256)
theorem Fmt.Ok.mod {f : Fmt} (h : f.Ok) (a : Int) : modD (.int a) (.int f.base) = some (.int (a % f.base)) := modD_int _ _ (by have := h.b2; omega)
theorem Fmt.Ok.fdiv {f : Fmt} (h : f.Ok) (a : Int) : fdivD (.int a) (.int f.base) = some (.int (a / f.base)) := fdivD_int _ _ (by
  unfold divOk
  have h1 := h.b2
  have h2 := h.b256
  refine decide_eq_true ⟨by omega, ?_⟩
  have : f.base.natAbs.log2 ≤ f.base.natAbs := Nat.log2_le_self _
  omega)

theorem is_integer_int (i : Int) : S_is_integer [.int i] = .ok (.bool true) [] := by
  simp [S_is_integer, runF_eq, T_is_integer, rho0, subTy]
theorem is_sign_int (b i : Int) : S_is_sign [.int b, .int i] = .ok (.bool (decide (0 ≤ i ∧ i < b))) [] := by
  simp [S_is_sign, runF_eq, T_is_sign, rho0, is_integer_int]
  split <;> simp [*]
theorem is_at_least_int (i l : Int) : S_is_at_least [.int i, .int l] = .ok (.bool (decide (l ≤ i))) [] := by
  simp [S_is_at_least, runF_eq, T_is_at_least, rho0, is_integer_int]
theorem body_stand_eq (u : Use) (n : Int) : S_body_stand [.str u.s, .int n] = .ok (bodyStd u n).d [] := by
  have e := eqD_str u.s "check" (use_ok u) (by decide +kernel)
  simp [S_body_stand, runF_eq, T_body_stand, rho0, e, bodyStd]
  have q : (u.s = Str.ofString "check") ↔ u = .check := use_eq u .check
  by_cases h : 0 < n
  · simp [h, Std.d]
  · by_cases h2 : u = .check
    · simp [h, h2, Std.d, Use.s]
    · simp [h, h2, Std.d, mt q.mp h2]
theorem use_at_loop (s : Int) : ∀ (ts : List (Int × Use)) (ρ : Rho) (F : D) (x y : Option D), ρ = [some F, some (.int s), x, y] → ∃ x' y', forT (tupG 2 (consG (setG 2) (consG (setG 3) (nilG)))) (ifT (isB (binT eqD (varT 2) (varT 1))) (retT (varT 3)) (nxT)) (ts.map tgD) ρ =
    match ts.find? (fun t => decide (t.1 = s)) with
    | some t => .ok (.rt (.str t.2.s)) [some F, some (.int s), x', y']
    | none => .ok .nx [some F, some (.int s), x', y']
  | [], ρ, F, x, y, h => ⟨x, y, by simp [h]⟩
  | t :: ts, ρ, F, x, y, h => by
    subst h
    rw [List.map_cons, forT_cons]
    by_cases e : t.1 = s
    · refine ⟨some (.int t.1), some (.str t.2.s), ?_⟩
      simp [tgD, e]
    · obtain ⟨x', y', q⟩ := use_at_loop s ts [some F, some (.int s), some (.int t.1), some (.str t.2.s)] F _ _ rfl
      refine ⟨x', y', ?_⟩
      simp [tgD, e, q]
theorem use_at_eq (f : Fmt) (s : Int) : S_use_at [f.d, .int s] = .ok (useD (use f s)) [] := by
  obtain ⟨x', y', q⟩ := use_at_loop s f.tags [some f.d, some (.int s), none, none] f.d none none rfl
  have e0 : eqD (.str (if f.rest then "skip" else "refuse")) (.str "skip") = some (.bool f.rest) := by
    cases f.rest
    · exact eqD_strF "refuse" "skip" (by decide +kernel) (by decide +kernel) (by decide +kernel)
    · exact eqD_strT "skip" "skip" (by decide +kernel) (by decide +kernel) rfl
  unfold use
  cases h : f.tags.find? (fun t => decide (t.1 = s)) with
  | some t =>
    simp only [h] at q
    simp [S_use_at, T_use_at, runF_eq, rho0, q, useD]
  | none =>
    simp only [h] at q
    simp [S_use_at, T_use_at, runF_eq, rho0, q, e0]
    cases f.rest <;> simp [useD, Use.s]
theorem wd_one (w : Wd) : eqD (.str w.s) (.str "one") = some (.bool (decide (w = .one))) := by
  cases w
  · exact eqD_strT "one" "one" (by decide +kernel) (by decide +kernel) rfl
  · exact eqD_strF "high" "one" (by decide +kernel) (by decide +kernel) (by decide +kernel)
  · exact eqD_strF "low" "one" (by decide +kernel) (by decide +kernel) (by decide +kernel)
theorem wd_high (w : Wd) : eqD (.str w.s) (.str "high") = some (.bool (decide (w = .high))) := by
  cases w
  · exact eqD_strF "one" "high" (by decide +kernel) (by decide +kernel) (by decide +kernel)
  · exact eqD_strT "high" "high" (by decide +kernel) (by decide +kernel) rfl
  · exact eqD_strF "low" "high" (by decide +kernel) (by decide +kernel) (by decide +kernel)
theorem us_eq (u v : Use) : eqD (.str u.s) (.str v.s) = some (.bool (decide (u = v))) := by
  rw [eqD_str _ _ (use_ok u) (use_ok v)]
  congr 2
  exact decide_eq_decide.mpr (use_eq u v)
theorem us_check (u : Use) : eqD (.str u.s) (.str "check") = some (.bool (decide (u = .check))) := us_eq u .check
theorem us_end (u : Use) : eqD (.str u.s) (.str "end") = some (.bool (decide (u = .end_))) := us_eq u .end_
theorem us_stop (u : Use) : eqD (.str u.s) (.str "stop") = some (.bool (decide (u = .stop))) := us_eq u .stop
theorem us_skip (u : Use) : eqD (.str u.s) (.str "skip") = some (.bool (decide (u = .skip))) := us_eq u .skip
def lenS (f : Fmt) (n : Int) : List Int := match f.width with
  | .one => [n]
  | .high => [n / f.base, n % f.base]
  | .low => [n % f.base, n / f.base]
theorem length_signs_eq {f : Fmt} (h : f.Ok) (n : Int) : S_length_signs [f.d, .int n] = .ok (sgD (lenS f n)) [] := by
  simp [S_length_signs, T_length_signs, runF_eq, rho0, h.fdiv, h.mod, wd_one, wd_high, lenS, sgD]
  cases f.width <;> simp
theorem behind_length_eq {f : Fmt} (h : f.Ok) (u : Use) (s : Int) : S_behind_length [f.d, .str u.s, .int s] = .ok (stD (step f (.len u) s)) [] := by
  simp [S_behind_length, T_behind_length, runF_eq, rho0, h.mul, wd_one, wd_high, step, body_stand_eq]
  cases f.width <;> simp <;> split <;> simp [stD, Std.d]
theorem behind_second_eq {f : Fmt} (h : f.Ok) (u : Use) (a s : Int) : S_behind_second [f.d, .str u.s, .int a, .int s] = .ok (stD (step f (.second u a) s)) [] := by
  simp [S_behind_second, T_behind_second, runF_eq, rho0, h.mul, wd_high, step, body_stand_eq]
  cases f.width <;> simp <;> split <;> simp [stD]
theorem behind_body_eq {f : Fmt} (h : f.Ok) (u : Use) (l t s : Int) : S_behind_body [f.d, (Std.body u l t).d, .int s] = .ok (stD (step f (.body u l t) s)) [] := by
  simp [S_behind_body, T_behind_body, runF_eq, rho0, h.mod, us_check, step, Std.d, slcD, cutD, HT.sIx]
  by_cases hu : u = .check <;> by_cases hl : 1 < l <;> simp [hu, hl, stD, Std.d]
@[simp] theorem n_head_tag : (Str.ofString "head" = Str.ofString "tag") = False := eq_false (by decide +kernel)
@[simp] theorem b_head_tag : (Str.ofString "head" == Str.ofString "tag") = false := by decide +kernel
@[simp] theorem n_head_length : (Str.ofString "head" = Str.ofString "length") = False := eq_false (by decide +kernel)
@[simp] theorem b_head_length : (Str.ofString "head" == Str.ofString "length") = false := by decide +kernel
@[simp] theorem n_head_second : (Str.ofString "head" = Str.ofString "second") = False := eq_false (by decide +kernel)
@[simp] theorem b_head_second : (Str.ofString "head" == Str.ofString "second") = false := by decide +kernel
@[simp] theorem n_head_body : (Str.ofString "head" = Str.ofString "body") = False := eq_false (by decide +kernel)
@[simp] theorem b_head_body : (Str.ofString "head" == Str.ofString "body") = false := by decide +kernel
@[simp] theorem n_head_sum : (Str.ofString "head" = Str.ofString "sum") = False := eq_false (by decide +kernel)
@[simp] theorem b_head_sum : (Str.ofString "head" == Str.ofString "sum") = false := by decide +kernel
@[simp] theorem n_head_room : (Str.ofString "head" = Str.ofString "room") = False := eq_false (by decide +kernel)
@[simp] theorem b_head_room : (Str.ofString "head" == Str.ofString "room") = false := by decide +kernel
@[simp] theorem n_head_over : (Str.ofString "head" = Str.ofString "over") = False := eq_false (by decide +kernel)
@[simp] theorem b_head_over : (Str.ofString "head" == Str.ofString "over") = false := by decide +kernel
@[simp] theorem n_tag_head : (Str.ofString "tag" = Str.ofString "head") = False := eq_false (by decide +kernel)
@[simp] theorem b_tag_head : (Str.ofString "tag" == Str.ofString "head") = false := by decide +kernel
@[simp] theorem n_tag_length : (Str.ofString "tag" = Str.ofString "length") = False := eq_false (by decide +kernel)
@[simp] theorem b_tag_length : (Str.ofString "tag" == Str.ofString "length") = false := by decide +kernel
@[simp] theorem n_tag_second : (Str.ofString "tag" = Str.ofString "second") = False := eq_false (by decide +kernel)
@[simp] theorem b_tag_second : (Str.ofString "tag" == Str.ofString "second") = false := by decide +kernel
@[simp] theorem n_tag_body : (Str.ofString "tag" = Str.ofString "body") = False := eq_false (by decide +kernel)
@[simp] theorem b_tag_body : (Str.ofString "tag" == Str.ofString "body") = false := by decide +kernel
@[simp] theorem n_tag_sum : (Str.ofString "tag" = Str.ofString "sum") = False := eq_false (by decide +kernel)
@[simp] theorem b_tag_sum : (Str.ofString "tag" == Str.ofString "sum") = false := by decide +kernel
@[simp] theorem n_tag_room : (Str.ofString "tag" = Str.ofString "room") = False := eq_false (by decide +kernel)
@[simp] theorem b_tag_room : (Str.ofString "tag" == Str.ofString "room") = false := by decide +kernel
@[simp] theorem n_tag_over : (Str.ofString "tag" = Str.ofString "over") = False := eq_false (by decide +kernel)
@[simp] theorem b_tag_over : (Str.ofString "tag" == Str.ofString "over") = false := by decide +kernel
@[simp] theorem n_length_head : (Str.ofString "length" = Str.ofString "head") = False := eq_false (by decide +kernel)
@[simp] theorem b_length_head : (Str.ofString "length" == Str.ofString "head") = false := by decide +kernel
@[simp] theorem n_length_tag : (Str.ofString "length" = Str.ofString "tag") = False := eq_false (by decide +kernel)
@[simp] theorem b_length_tag : (Str.ofString "length" == Str.ofString "tag") = false := by decide +kernel
@[simp] theorem n_length_second : (Str.ofString "length" = Str.ofString "second") = False := eq_false (by decide +kernel)
@[simp] theorem b_length_second : (Str.ofString "length" == Str.ofString "second") = false := by decide +kernel
@[simp] theorem n_length_body : (Str.ofString "length" = Str.ofString "body") = False := eq_false (by decide +kernel)
@[simp] theorem b_length_body : (Str.ofString "length" == Str.ofString "body") = false := by decide +kernel
@[simp] theorem n_length_sum : (Str.ofString "length" = Str.ofString "sum") = False := eq_false (by decide +kernel)
@[simp] theorem b_length_sum : (Str.ofString "length" == Str.ofString "sum") = false := by decide +kernel
@[simp] theorem n_length_room : (Str.ofString "length" = Str.ofString "room") = False := eq_false (by decide +kernel)
@[simp] theorem b_length_room : (Str.ofString "length" == Str.ofString "room") = false := by decide +kernel
@[simp] theorem n_length_over : (Str.ofString "length" = Str.ofString "over") = False := eq_false (by decide +kernel)
@[simp] theorem b_length_over : (Str.ofString "length" == Str.ofString "over") = false := by decide +kernel
@[simp] theorem n_second_head : (Str.ofString "second" = Str.ofString "head") = False := eq_false (by decide +kernel)
@[simp] theorem b_second_head : (Str.ofString "second" == Str.ofString "head") = false := by decide +kernel
@[simp] theorem n_second_tag : (Str.ofString "second" = Str.ofString "tag") = False := eq_false (by decide +kernel)
@[simp] theorem b_second_tag : (Str.ofString "second" == Str.ofString "tag") = false := by decide +kernel
@[simp] theorem n_second_length : (Str.ofString "second" = Str.ofString "length") = False := eq_false (by decide +kernel)
@[simp] theorem b_second_length : (Str.ofString "second" == Str.ofString "length") = false := by decide +kernel
@[simp] theorem n_second_body : (Str.ofString "second" = Str.ofString "body") = False := eq_false (by decide +kernel)
@[simp] theorem b_second_body : (Str.ofString "second" == Str.ofString "body") = false := by decide +kernel
@[simp] theorem n_second_sum : (Str.ofString "second" = Str.ofString "sum") = False := eq_false (by decide +kernel)
@[simp] theorem b_second_sum : (Str.ofString "second" == Str.ofString "sum") = false := by decide +kernel
@[simp] theorem n_second_room : (Str.ofString "second" = Str.ofString "room") = False := eq_false (by decide +kernel)
@[simp] theorem b_second_room : (Str.ofString "second" == Str.ofString "room") = false := by decide +kernel
@[simp] theorem n_second_over : (Str.ofString "second" = Str.ofString "over") = False := eq_false (by decide +kernel)
@[simp] theorem b_second_over : (Str.ofString "second" == Str.ofString "over") = false := by decide +kernel
@[simp] theorem n_body_head : (Str.ofString "body" = Str.ofString "head") = False := eq_false (by decide +kernel)
@[simp] theorem b_body_head : (Str.ofString "body" == Str.ofString "head") = false := by decide +kernel
@[simp] theorem n_body_tag : (Str.ofString "body" = Str.ofString "tag") = False := eq_false (by decide +kernel)
@[simp] theorem b_body_tag : (Str.ofString "body" == Str.ofString "tag") = false := by decide +kernel
@[simp] theorem n_body_length : (Str.ofString "body" = Str.ofString "length") = False := eq_false (by decide +kernel)
@[simp] theorem b_body_length : (Str.ofString "body" == Str.ofString "length") = false := by decide +kernel
@[simp] theorem n_body_second : (Str.ofString "body" = Str.ofString "second") = False := eq_false (by decide +kernel)
@[simp] theorem b_body_second : (Str.ofString "body" == Str.ofString "second") = false := by decide +kernel
@[simp] theorem n_body_sum : (Str.ofString "body" = Str.ofString "sum") = False := eq_false (by decide +kernel)
@[simp] theorem b_body_sum : (Str.ofString "body" == Str.ofString "sum") = false := by decide +kernel
@[simp] theorem n_body_room : (Str.ofString "body" = Str.ofString "room") = False := eq_false (by decide +kernel)
@[simp] theorem b_body_room : (Str.ofString "body" == Str.ofString "room") = false := by decide +kernel
@[simp] theorem n_body_over : (Str.ofString "body" = Str.ofString "over") = False := eq_false (by decide +kernel)
@[simp] theorem b_body_over : (Str.ofString "body" == Str.ofString "over") = false := by decide +kernel
@[simp] theorem n_sum_head : (Str.ofString "sum" = Str.ofString "head") = False := eq_false (by decide +kernel)
@[simp] theorem b_sum_head : (Str.ofString "sum" == Str.ofString "head") = false := by decide +kernel
@[simp] theorem n_sum_tag : (Str.ofString "sum" = Str.ofString "tag") = False := eq_false (by decide +kernel)
@[simp] theorem b_sum_tag : (Str.ofString "sum" == Str.ofString "tag") = false := by decide +kernel
@[simp] theorem n_sum_length : (Str.ofString "sum" = Str.ofString "length") = False := eq_false (by decide +kernel)
@[simp] theorem b_sum_length : (Str.ofString "sum" == Str.ofString "length") = false := by decide +kernel
@[simp] theorem n_sum_second : (Str.ofString "sum" = Str.ofString "second") = False := eq_false (by decide +kernel)
@[simp] theorem b_sum_second : (Str.ofString "sum" == Str.ofString "second") = false := by decide +kernel
@[simp] theorem n_sum_body : (Str.ofString "sum" = Str.ofString "body") = False := eq_false (by decide +kernel)
@[simp] theorem b_sum_body : (Str.ofString "sum" == Str.ofString "body") = false := by decide +kernel
@[simp] theorem n_sum_room : (Str.ofString "sum" = Str.ofString "room") = False := eq_false (by decide +kernel)
@[simp] theorem b_sum_room : (Str.ofString "sum" == Str.ofString "room") = false := by decide +kernel
@[simp] theorem n_sum_over : (Str.ofString "sum" = Str.ofString "over") = False := eq_false (by decide +kernel)
@[simp] theorem b_sum_over : (Str.ofString "sum" == Str.ofString "over") = false := by decide +kernel
@[simp] theorem n_room_head : (Str.ofString "room" = Str.ofString "head") = False := eq_false (by decide +kernel)
@[simp] theorem b_room_head : (Str.ofString "room" == Str.ofString "head") = false := by decide +kernel
@[simp] theorem n_room_tag : (Str.ofString "room" = Str.ofString "tag") = False := eq_false (by decide +kernel)
@[simp] theorem b_room_tag : (Str.ofString "room" == Str.ofString "tag") = false := by decide +kernel
@[simp] theorem n_room_length : (Str.ofString "room" = Str.ofString "length") = False := eq_false (by decide +kernel)
@[simp] theorem b_room_length : (Str.ofString "room" == Str.ofString "length") = false := by decide +kernel
@[simp] theorem n_room_second : (Str.ofString "room" = Str.ofString "second") = False := eq_false (by decide +kernel)
@[simp] theorem b_room_second : (Str.ofString "room" == Str.ofString "second") = false := by decide +kernel
@[simp] theorem n_room_body : (Str.ofString "room" = Str.ofString "body") = False := eq_false (by decide +kernel)
@[simp] theorem b_room_body : (Str.ofString "room" == Str.ofString "body") = false := by decide +kernel
@[simp] theorem n_room_sum : (Str.ofString "room" = Str.ofString "sum") = False := eq_false (by decide +kernel)
@[simp] theorem b_room_sum : (Str.ofString "room" == Str.ofString "sum") = false := by decide +kernel
@[simp] theorem n_room_over : (Str.ofString "room" = Str.ofString "over") = False := eq_false (by decide +kernel)
@[simp] theorem b_room_over : (Str.ofString "room" == Str.ofString "over") = false := by decide +kernel
@[simp] theorem n_over_head : (Str.ofString "over" = Str.ofString "head") = False := eq_false (by decide +kernel)
@[simp] theorem b_over_head : (Str.ofString "over" == Str.ofString "head") = false := by decide +kernel
@[simp] theorem n_over_tag : (Str.ofString "over" = Str.ofString "tag") = False := eq_false (by decide +kernel)
@[simp] theorem b_over_tag : (Str.ofString "over" == Str.ofString "tag") = false := by decide +kernel
@[simp] theorem n_over_length : (Str.ofString "over" = Str.ofString "length") = False := eq_false (by decide +kernel)
@[simp] theorem b_over_length : (Str.ofString "over" == Str.ofString "length") = false := by decide +kernel
@[simp] theorem n_over_second : (Str.ofString "over" = Str.ofString "second") = False := eq_false (by decide +kernel)
@[simp] theorem b_over_second : (Str.ofString "over" == Str.ofString "second") = false := by decide +kernel
@[simp] theorem n_over_body : (Str.ofString "over" = Str.ofString "body") = False := eq_false (by decide +kernel)
@[simp] theorem b_over_body : (Str.ofString "over" == Str.ofString "body") = false := by decide +kernel
@[simp] theorem n_over_sum : (Str.ofString "over" = Str.ofString "sum") = False := eq_false (by decide +kernel)
@[simp] theorem b_over_sum : (Str.ofString "over" == Str.ofString "sum") = false := by decide +kernel
@[simp] theorem n_over_room : (Str.ofString "over" = Str.ofString "room") = False := eq_false (by decide +kernel)
@[simp] theorem b_over_room : (Str.ofString "over" == Str.ofString "room") = false := by decide +kernel
theorem o_head : PyData.strOk (Str.ofString "head") = true := by decide +kernel
theorem o_tag : PyData.strOk (Str.ofString "tag") = true := by decide +kernel
theorem o_length : PyData.strOk (Str.ofString "length") = true := by decide +kernel
theorem o_second : PyData.strOk (Str.ofString "second") = true := by decide +kernel
theorem o_body : PyData.strOk (Str.ofString "body") = true := by decide +kernel
theorem o_sum : PyData.strOk (Str.ofString "sum") = true := by decide +kernel
theorem o_room : PyData.strOk (Str.ofString "room") = true := by decide +kernel
theorem o_over : PyData.strOk (Str.ofString "over") = true := by decide +kernel
theorem eqs (a b : Str) (ha : PyData.strOk a = true) (hb : PyData.strOk b = true) : eqD (.str a) (.str b) = some (.bool (decide (a = b))) := eqD_str a b ha hb
theorem neD_nil (l : List D) (h : PyData.canLayAll0 l = true) : neD (.tuple l) (.tuple []) = some (.bool (!l.isEmpty)) := by
  cases l <;> simp [neD, okCmp, PyData.canLay0, PyData.canLayAll0, PyData.depth, PyData.depthAll, PyData.eqv, PyData.eqvAll] at h ⊢
  exact h
theorem lay_ints : ∀ l : List Int, PyData.canLayAll0 (l.map .int) = true
  | [] => rfl
  | x :: l => by simp [PyData.canLayAll0, PyData.canLay0, lay_ints l]
theorem lay_mk : ∀ l : List (Option Int), PyData.canLayAll0 (l.map mkD) = true
  | [] => rfl
  | none :: l => by simp [PyData.canLayAll0, PyData.canLay0, mkD, lay_mk l]
  | some i :: l => by simp [PyData.canLayAll0, PyData.canLay0, mkD, lay_mk l]
def first (f : Fmt) : Std := if f.head = [] then .tag else .head 0
theorem first_stand_eq (f : Fmt) : S_first_stand [f.d] = .ok (first f).d [] := by
  simp [S_first_stand, T_first_stand, runF_eq, rho0, neD_nil _ (lay_mk _), first]
  cases f.head <;> simp [Std.d]
theorem mkD_ne (m : Option Int) (s : Int) (h : m ≠ none) : neD (mkD m) (.int s) = some (.bool (decide (m ≠ some s))) := by
  cases m with
  | none => exact absurd rfl h
  | some i => simp [mkD]
theorem behind_head_eq (f : Fmt) (p : Nat) (s : Int) (hp : p < f.head.length) : S_behind_head [f.d, .int p, .int s] = .ok (stD (step f (.head p) s)) [] := by
  have e : atI (f.head.map mkD) (p : Int) = some (mkD f.head[p]) := by
    rw [Z.atI_nat, List.getElem?_map, List.getElem?_eq_getElem hp]; rfl
  have e2 : f.head[p]? = some f.head[p] := List.getElem?_eq_getElem hp
  have e3 : ((p : Int) + 1 < (f.head.length : Int)) ↔ p + 1 < f.head.length := by omega
  simp only [S_behind_head, T_behind_head, runF_eq, rho0, step, e2]
  cases hm : f.head[p] with
  | none =>
    simp [e, hm, mkD, e3]
    split <;> simp [stD, Std.d]
  | some m =>
    simp [e, hm, mkD, e3]
    by_cases hs : m = s
    · simp [hs]
      split <;> simp [stD, Std.d]
    · simp [hs, stD]
theorem behind_tag_eq (f : Fmt) (s : Int) : S_behind_tag [f.d, .int s] = .ok (stD (step f .tag s)) [] := by
  simp only [S_behind_tag, T_behind_tag, runF_eq, rho0, step]
  cases hu : use f s with
  | none => simp [use_at_eq, hu, useD, stD]
  | some u =>
    simp [use_at_eq, hu, useD, us_end, us_stop]
    cases u <;> simp [stD, Std.d]
def Std.In (f : Fmt) : Std → Prop
  | .head p => p < f.head.length
  | _ => True
theorem step_eq {f : Fmt} (h : f.Ok) (st : Std) (hs : st.In f) (s : Int) : S_step [f.d, st.d, .int s] = .ok (stD (step f st s)) [] := by
  simp only [S_step, T_step, runF_eq, rho0]
  cases st with
  | head p => simp [Std.d, eqD_str, o_head, o_tag, o_length, o_second, o_body, o_sum, o_room, behind_head_eq f p s hs]
  | tag => simp [Std.d, eqD_str, o_head, o_tag, o_length, o_second, o_body, o_sum, o_room, behind_tag_eq]
  | len u => simp [Std.d, eqD_str, o_head, o_tag, o_length, o_second, o_body, o_sum, o_room, behind_length_eq h]
  | second u a => simp [Std.d, eqD_str, o_head, o_tag, o_length, o_second, o_body, o_sum, o_room, behind_second_eq h]
  | body u l t =>
    have e := behind_body_eq h u l t s
    simp only [Std.d] at e
    simp [Std.d, eqD_str, o_head, o_tag, o_length, o_second, o_body, o_sum, o_room, e]
  | sum t =>
    simp [Std.d, eqD_str, o_head, o_tag, o_length, o_second, o_body, o_sum, o_room, step]
    split <;> simp [stD, Std.d]
  | room => simp [Std.d, eqD_str, o_head, o_tag, o_length, o_second, o_body, o_sum, o_room, step, stD]
  | over => simp [Std.d, eqD_str, o_head, o_tag, o_length, o_second, o_body, o_sum, o_room, o_over, step, stD]
theorem bodyStd_in (f : Fmt) (u : Use) (n : Int) : (bodyStd u n).In f := by
  unfold bodyStd
  split
  · trivial
  · split <;> trivial
theorem step_in {f : Fmt} {st st' : Std} {s : Int} (h : step f st s = some st') : st'.In f := by
  cases st with
  | head p =>
    simp only [step] at h
    split at h
    · cases h
    · cases h
      split
      · assumption
      · trivial
    · split at h
      · cases h
        split
        · assumption
        · trivial
      · cases h
  | tag =>
    simp only [step] at h
    split at h <;> cases h <;> trivial
  | len u =>
    simp only [step] at h
    split at h <;> split at h <;> first | (cases h; done) | (cases h; first | exact bodyStd_in _ _ _ | trivial)
  | second u a =>
    simp only [step] at h
    generalize (if f.width = .high then a * f.base + s else s * f.base + a) = n at h
    split at h
    · cases h; exact bodyStd_in _ _ _
    · cases h
  | body u l t => simp only [step] at h; cases h; (try split) <;> (try split) <;> trivial
  | sum t => simp only [step] at h; split at h <;> cases h; trivial
  | room => cases h; trivial
  | over => cases h
theorem first_in (f : Fmt) : (first f).In f := by
  unfold first
  split
  · trivial
  · show 0 < f.head.length
    exact List.length_pos_iff.mpr (by assumption)
/-! ### endings, looks -/
def hasEnd (f : Fmt) : Bool := f.tags.any fun t => decide (t.2 = .end_ ∨ t.2 = .stop)
def ending (f : Fmt) : Std → Bool
  | .room => true
  | .over => true
  | .tag => !hasEnd f
  | _ => false
def looking (f : Fmt) : Std → Bool
  | .head p => match f.head[p]? with
    | some (some _) => true
    | _ => false
  | .room => false
  | .body .skip _ _ => false
  | _ => true
theorem std_lay (st : Std) : st.d.canLay0 = true := by
  cases st <;> simp [Std.d, PyData.canLay0, PyData.canLayAll0, use_ok, o_head, o_tag, o_length, o_second, o_body, o_sum, o_room, o_over]
theorem std_depth (st : Std) : st.d.depth = 1 := by
  cases st <;> simp [Std.d, PyData.depth, PyData.depthAll]
theorem tag_eqv (st : Std) : eqD st.d (.tuple [.str "tag"]) = some (.bool (match st with | .tag => true | _ => false)) := by
  unfold eqD
  have e : okCmp st.d (.tuple [.str "tag"]) = true := by simp [okCmp, std_lay, std_depth, PyData.canLay0, PyData.canLayAll0, PyData.depth, PyData.depthAll, o_tag]
  rw [if_pos e]
  cases st <;> simp [Std.d, PyData.eqv, PyData.eqvAll]
theorem room_nev (st : Std) : neD st.d (.tuple [.str "room"]) = some (.bool (match st with | .room => false | _ => true)) := by
  unfold neD
  have e : okCmp st.d (.tuple [.str "room"]) = true := by simp [okCmp, std_lay, std_depth, PyData.canLay0, PyData.canLayAll0, PyData.depth, PyData.depthAll, o_room]
  rw [if_pos e]
  cases st <;> simp [Std.d, PyData.eqv, PyData.eqvAll]
theorem roomover (st : Std) : inD st.d (.tuple [.tuple [.str "room"], .tuple [.str "over"]]) = some (.bool (match st with | .room => true | .over => true | _ => false)) := by
  unfold inD inB
  have e : okIn st.d [.tuple [.str "room"], .tuple [.str "over"]] = true := by simp [okIn, std_lay, std_depth, PyData.canLay0, PyData.canLayAll0, PyData.depth, PyData.depthAll, o_room, o_over]
  simp only [itemsD_tuple, e]
  cases st <;> simp [Std.d, PyData.eqv, PyData.eqvAll]
theorem inEnd (u : Use) : inD (.str u.s) (.tuple [.str "end", .str "stop"]) = some (.bool (decide (u = .end_ ∨ u = .stop))) := by
  unfold inD inB
  have e : okIn (.str u.s) [.str "end", .str "stop"] = true := by
    simp [okIn, PyData.canLay0, PyData.canLayAll0, PyData.depth, PyData.depthAll, use_ok]
    exact ⟨by decide +kernel, by decide +kernel⟩
  simp only [itemsD_tuple, e]
  cases u <;> simp [PyData.eqv] <;> decide +kernel
theorem inTold (u : Use) : inD (.str u.s) (.tuple [.str "keep", .str "check"]) = some (.bool (decide (u = .keep ∨ u = .check))) := by
  unfold inD inB
  have e : okIn (.str u.s) [.str "keep", .str "check"] = true := by
    simp [okIn, PyData.canLay0, PyData.canLayAll0, PyData.depth, PyData.depthAll, use_ok]
    exact ⟨by decide +kernel, by decide +kernel⟩
  simp only [itemsD_tuple, e]
  cases u <;> simp [PyData.eqv] <;> decide +kernel
end K80

/-! file KP2 -/
set_option Elab.async false
set_option linter.all false
set_option autoImplicit false
set_option maxRecDepth 100000
set_option maxHeartbeats 4000000
namespace K80
open PySem PySem.Spec L2 Z
theorem any_map {α : Type} (l : List α) (p : α → Bool) : anyD [.list (l.map fun x => .bool (p x))] = some (.bool (l.any p)) := by
  have := anyD_list (l.map p)
  rw [List.map_map] at this
  rw [show (fun x => PyData.bool (p x)) = PyData.bool ∘ p from rfl, this]
  simp
theorem all_map {α : Type} (l : List α) (p : α → Bool) : allD [.list (l.map fun x => .bool (p x))] = some (.bool (l.all p)) := by
  have := allD_list (l.map p)
  rw [List.map_map] at this
  rw [show (fun x => PyData.bool (p x)) = PyData.bool ∘ p from rfl, this]
  simp
theorem fuse {α : Type} (l : List α) : l.filter (fun _ => true) = l := by simp
theorem is_ending_eq {f : Fmt} (h : f.Ok) (st : Std) : S_is_ending [f.d, st.d] = .ok (.bool (ending f st)) [] := by
  simp only [S_is_ending, T_is_ending, runF_eq, rho0]
  have hl := h.tl
  have lc := lcT_pure (vs := [2, 3]) (Ti := seqT (Z.binT idxD (varT 0) (cT (.int 4)))) (g := tupG 2 (consG (setG 2) (consG (setG 3) (nilG)))) (tt := yesT) (te := Z.binT inD (varT 3) (tupT (consT (cT (.str ("end" : Str))) (consT (cT (.str ("stop" : Str))) (nilT)))))
    (ρ := [some f.d, some st.d, none, none]) (ρ1 := [some f.d, some st.d, none, none]) f.tags tgD (fun _ => true) (fun t => .bool (decide (t.2 = .end_ ∨ t.2 = .stop))) (fun t => [some f.d, some st.d, some (.int t.1), some (.str t.2.s)])
    (by simp) (fun t _ => by simp [tgD, wipeR, yesT, inEnd]) (by simp; omega)
  rw [fuse] at lc
  simp [tag_eqv, roomover, lc, any_map]
  cases st <;> simp [ending, hasEnd]
theorem is_looking_eq {f : Fmt} (h : f.Ok) (st : Std) (hs : st.In f) : S_is_looking [f.d, st.d] = .ok (.bool (looking f st)) [] := by
  simp only [S_is_looking, T_is_looking, runF_eq, rho0]
  cases st with
  | head p =>
    have hp : p < f.head.length := hs
    have e : atI (f.head.map mkD) (p : Int) = some (mkD f.head[p]) := by
      rw [Z.atI_nat, List.getElem?_map, List.getElem?_eq_getElem hp]; rfl
    simp [Std.d, eqD_str, o_head, e, looking, List.getElem?_eq_getElem hp]
    cases f.head[p] <;> simp [mkD]
  | body u l t =>
    have q := room_nev (.body u l t)
    simp only [Std.d] at q
    simp [Std.d, eqD_str, o_head, o_body, us_skip, q, looking]
    cases u <;> simp
  | room =>
    have q := room_nev .room
    simp only [Std.d] at q
    simp [Std.d, eqD_str, o_head, o_room, q, looking]
  | tag =>
    have q := room_nev .tag
    simp only [Std.d] at q
    simp [Std.d, eqD_str, o_head, o_tag, o_body, q, looking]
  | len u =>
    have q := room_nev (.len u)
    simp only [Std.d] at q
    simp [Std.d, eqD_str, o_head, o_length, o_body, q, looking]
  | second u a =>
    have q := room_nev (.second u a)
    simp only [Std.d] at q
    simp [Std.d, eqD_str, o_head, o_second, o_body, q, looking]
  | sum t =>
    have q := room_nev (.sum t)
    simp only [Std.d] at q
    simp [Std.d, eqD_str, o_head, o_sum, o_body, q, looking]
  | over =>
    have q := room_nev .over
    simp only [Std.d] at q
    simp [Std.d, eqD_str, o_head, o_over, o_body, q, looking]
/-! ### contents -/
abbrev Cont := List (Int × List Int)
def chD (c : Int × List Int) : D := .tuple [.int c.1, sgD c.2]
def coD (c : Cont) : D := .tuple (c.map chD)
def Use.told : Use → Bool
  | .keep => true
  | .check => true
  | _ => false
def useTold : Option Use → Bool
  | some u => u.told
  | none => false
theorem use_told (o : Option Use) : inD (useD o) (.tuple [.str "keep", .str "check"]) = some (.bool (useTold o)) := by
  cases o with
  | none =>
    have e : okIn .none [.str "keep", .str "check"] = true := by
      simp [okIn, PyData.canLay0, PyData.canLayAll0, PyData.depth, PyData.depthAll]
      exact ⟨by decide +kernel, by decide +kernel⟩
    simp [inD, inB, useD, e, PyData.eqv, useTold]
  | some u =>
    rw [show useD (some u) = .str u.s from rfl, inTold]
    cases u <;> rfl
def toldAt (f : Fmt) (st : Std) (s : Int) (told : Cont) : Cont := match st with
  | .tag => if useTold (use f s) then told ++ [(s, [])] else told
  | .body u _ _ => if u.told then told.dropLast ++ (match told.getLast? with | some (t, b) => [(t, b ++ [s])] | none => []) else told
  | _ => told
theorem sgD_items (l : List Int) : itemsD (sgD l) = some (l.map .int) := rfl
theorem told_at_eq (f : Fmt) (st : Std) (s : Int) (told : Cont) (hs : told.length ≤ 1000000) (hb : ∀ c ∈ told, c.2.length ≤ 1000000) (hn : ∀ u l t, st = .body u l t → u.told = true → told ≠ []) : S_told_at [f.d, st.d, .int s, coD told] = .ok (coD (toldAt f st s told)) [] := by
  have base : ∀ st : Std, (∀ u l t, st ≠ .body u l t) → st ≠ .tag → S_told_at [f.d, st.d, .int s, coD told] = .ok (coD told) [] := by
    intro st h1 h2
    simp only [S_told_at, T_told_at, runF_eq, rho0]
    cases st <;> first | exact absurd rfl h2 | (exact absurd rfl (h1 _ _ _)) | skip
    all_goals simp [tag_eqv]
    all_goals simp [Std.d, eqD_str, o_head, o_body, o_length, o_second, o_sum, o_room, o_over]
  cases st with
  | tag =>
    simp only [S_told_at, T_told_at, runF_eq, rho0]
    simp [tag_eqv, use_at_eq, use_told]
    by_cases hu : useTold (use f s) = true
    · simp [hu, coD, toldAt, chD, sgD]
      omega
    · simp [hu, toldAt]
      simp [Std.d, eqD_str, o_tag, o_body]
  | body u l t =>
    simp only [S_told_at, T_told_at, runF_eq, rho0]
    simp [tag_eqv]
    simp [Std.d, eqD_str, o_body, inTold]
    by_cases hu : u = .keep ∨ u = .check
    · have ht : u.told = true := by rcases hu with rfl | rfl <;> rfl
      obtain ⟨pre, c, rfl⟩ : ∃ pre c, told = pre ++ [c] := ⟨told.dropLast, told.getLast (hn u l t rfl ht), (List.dropLast_concat_getLast _).symm⟩
      obtain ⟨tt, bb⟩ := c
      have hbb := hb (tt, bb) (by simp)
      simp at hs hbb
      have e1 : List.drop pre.length (List.map chD pre ++ [chD (tt, bb)]) = [chD (tt, bb)] := by
        rw [show pre.length = (List.map chD pre).length by simp, List.drop_left]
      have e2 : List.take pre.length (List.map chD pre ++ [chD (tt, bb)]) = List.map chD pre := by
        rw [show pre.length = (List.map chD pre).length by simp, List.take_left]
      simp [hu, toldAt, ht, coD, starG, e1, e2, chD, sgD_items]
      simp [sgD]
      rw [if_pos (by omega), if_pos (by omega)]
    · have ht : u.told = false := by cases u <;> simp at hu ⊢ <;> rfl
      simp [hu, toldAt, ht]
  | head p => exact base _ (fun _ _ _ h => by cases h) (fun h => by cases h)
  | len u => exact base _ (fun _ _ _ h => by cases h) (fun h => by cases h)
  | second u a => exact base _ (fun _ _ _ h => by cases h) (fun h => by cases h)
  | sum t => exact base _ (fun _ _ _ h => by cases h) (fun h => by cases h)
  | room => exact base _ (fun _ _ _ h => by cases h) (fun h => by cases h)
  | over => exact base _ (fun _ _ _ h => by cases h) (fun h => by cases h)
end K80

/-! file KP3 -/
set_option Elab.async false
set_option linter.all false
set_option autoImplicit false
set_option maxRecDepth 100000
set_option maxHeartbeats 4000000
namespace K80
open PySem PySem.Spec L2 Z
/-- a reading from a stand: what is behind it -/
inductive Run (f : Fmt) : Std → Cont → List Int → Std → Cont → Prop
  | nil (st : Std) (c : Cont) : Run f st c [] st c
  | cons {st st' st2 : Std} {c c2 : Cont} {s : Int} {l : List Int} (h : step f st s = some st') (hn : ∀ u a t, st = .body u a t → u.told = true → c ≠ []) (r : Run f st' (toldAt f st s c) l st2 c2) : Run f st c (s :: l) st2 c2
theorem Run.trans {f : Fmt} {st st1 st2 : Std} {c c1 c2 : Cont} {l l2 : List Int} (a : Run f st c l st1 c1) (b : Run f st1 c1 l2 st2 c2) : Run f st c (l ++ l2) st2 c2 := by
  induction a with
  | nil => exact b
  | cons h hn r ih => exact .cons h hn (ih b)
theorem Run.one {f : Fmt} {st st1 : Std} {c : Cont} {s : Int} (h : step f st s = some st1) (hn : ∀ u a t, st = .body u a t → u.told = true → c ≠ []) : Run f st c [s] st1 (toldAt f st s c) := .cons h hn (.nil _ _)
theorem Run.in_ {f : Fmt} {st st1 : Std} {c c1 : Cont} {l : List Int} (a : Run f st c l st1 c1) (h : st.In f) : st1.In f := by
  induction a with
  | nil => exact h
  | cons h' hn r ih => exact ih (step_in h')
/-- what a def's loop reads -/
theorem nonD (st : Std) : isNoneD st.d = false := by cases st <;> rfl
theorem refusal_loop {f : Fmt} (h : f.Ok) : ∀ {l : List Int} {st st' : Std} {c c' : Cont} (k : Nat) (F : D) (x y z : Option D), Run f st c l st' c' → st.In f →
    ∃ x' y' z', forT (tupG 2 (consG (setG 3) (consG (setG 4) (nilG)))) (sqT (asgT 5 (callT [none, none, none] S_step (consT (varT 0) (consT (varT 2) (consT (varT 4) (nilT)))))) (sqT (ifT (isB (Z.binT isD (varT 5) (cT .none))) (retT (tupT (consT (varT 3) (consT (callT [none] S_word_at (consT (varT 2) (nilT))) (nilT))))) (nxT)) (asgT 2 (varT 5))))
      (enumFrom k (l.map .int)) [some f.d, some F, some st.d, x, y, z] = .ok .nx [some f.d, some F, some st'.d, x', y', z']
  | [], _, _, _, _, k, F, x, y, z, .nil _ _, _ => ⟨x, y, z, rfl⟩
  | s :: l, st, st', c, c', k, F, x, y, z, .cons (st' := st1) h1 hn r, hs => by
    obtain ⟨x', y', z', e⟩ := refusal_loop h (k + 1) F (some (.int k)) (some (.int s)) (some st1.d) r (step_in h1)
    refine ⟨x', y', z', ?_⟩
    rw [List.map_cons, show enumFrom k (.int s :: l.map .int) = .tuple [.int k, .int s] :: enumFrom (k + 1) (l.map .int) from rfl, forT_cons]
    simp [step_eq h st hs, h1, stD, nonD]
    exact e
theorem refusal_of_eq {f : Fmt} (h : f.Ok) {l : List Int} {st : Std} {c : Cont} (r : Run f (first f) [] l st c) (he : ending f st = true) : S_refusal_of [f.d, sgD l] = .ok .none [] := by
  obtain ⟨x', y', z', e⟩ := refusal_loop h 0 (sgD l) none none none r (first_in f)
  simp only [S_refusal_of, T_refusal_of, runF_eq, rho0]
  have en : enumD [sgD l] = some (enumFrom 0 (l.map .int)) := rfl
  simp [first_stand_eq, en, e, is_ending_eq h, he]
theorem toldAt_len (f : Fmt) (st : Std) (s : Int) (c : Cont) : (toldAt f st s c).length ≤ c.length + 1 := by
  cases st <;> simp only [toldAt] <;> try omega
  · split <;> simp
  · split
    · simp only [List.length_append, List.length_dropLast]
      split <;> simp <;> omega
    · omega
theorem toldAt_bodies {f : Fmt} {st : Std} {s : Int} {c : Cont} {m : Nat} (h : ∀ d ∈ c, d.2.length ≤ m) : ∀ d ∈ toldAt f st s c, d.2.length ≤ m + 1 := by
  intro d hd
  cases st <;> simp only [toldAt] at hd <;> first | exact Nat.le_succ_of_le (h d hd) | skip
  · split at hd
    · rcases List.mem_append.mp hd with hd | hd
      · exact Nat.le_succ_of_le (h d hd)
      · rw [List.mem_singleton.mp hd]; simp
    · exact Nat.le_succ_of_le (h d hd)
  · split at hd
    · rcases List.mem_append.mp hd with hd | hd
      · exact Nat.le_succ_of_le (h d (List.dropLast_subset c hd))
      · split at hd
        · rename_i t b e
          rw [List.mem_singleton.mp hd]
          have := h (t, b) (List.mem_of_getLast? e)
          simp at this ⊢
          exact this
        · cases hd
    · exact Nat.le_succ_of_le (h d hd)
theorem told_loop {f : Fmt} (h : f.Ok) : ∀ {l : List Int} {st st' : Std} {c c' : Cont} (F : D) (x : Option D), Run f st c l st' c' → st.In f → c.length + l.length ≤ 1000000 → (∀ d ∈ c, d.2.length + l.length ≤ 1000000) →
    ∃ x', forT (setG 4) (sqT (asgT 3 (callT [none, none, none, none] S_told_at (consT (varT 0) (consT (varT 2) (consT (varT 4) (consT (varT 3) (nilT))))))) (asgT 2 (callT [none, none, none] S_step (consT (varT 0) (consT (varT 2) (consT (varT 4) (nilT)))))))
      (l.map .int) [some f.d, some F, some st.d, some (coD c), x] = .ok .nx [some f.d, some F, some st'.d, some (coD c'), x']
  | [], _, _, _, _, F, x, .nil _ _, _, _, _ => ⟨x, rfl⟩
  | s :: l, st, st', c, c', F, x, .cons (st' := st1) h1 hn r, hs, hl, hb => by
    rw [List.length_cons] at hl
    have hb' : ∀ d ∈ c, d.2.length ≤ 1000000 - (l.length + 1) := fun d hd => by have := hb d hd; rw [List.length_cons] at this; omega
    obtain ⟨x', e⟩ := told_loop h F (some (.int s)) r (step_in h1) (by have := toldAt_len f st s c; omega) (fun d hd => by have := toldAt_bodies (f := f) (st := st) (s := s) hb' d hd; omega)
    refine ⟨x', ?_⟩
    rw [List.map_cons, forT_cons]
    simp [step_eq h st hs, told_at_eq f st s c (by omega) (fun d hd => by have := hb' d hd; omega) hn, h1, stD]
    exact e
theorem told_in_eq {f : Fmt} (h : f.Ok) {l : List Int} {st : Std} {c : Cont} (r : Run f (first f) [] l st c) (hl : l.length ≤ 1000000) : S_told_in [f.d, sgD l] = .ok (coD c) [] := by
  obtain ⟨x', e⟩ := told_loop h (sgD l) none r (first_in f) (by simpa using hl) (fun d hd => by cases hd)
  simp only [S_told_in, T_told_in, runF_eq, rho0]
  have e' : coD [] = .tuple [] := rfl
  rw [e'] at e
  simp [first_stand_eq, sgD_items, e]
/-- where it looks -/
def lookedF (f : Fmt) : Std → Nat → List Int → List Nat
  | _, _, [] => []
  | st, k, s :: l => (if looking f st then [k] else []) ++ (match step f st s with
    | some st' => lookedF f st' (k + 1) l
    | none => [])
theorem looked_loop {f : Fmt} (h : f.Ok) : ∀ {l : List Int} {st st' : Std} {c c' : Cont} (k : Nat) (F : D) (x y : Option D) (acc : List Nat), Run f st c l st' c' → st.In f → acc.length + l.length ≤ 1000000 →
    ∃ x' y', forT (tupG 2 (consG (setG 4) (consG (setG 5) (nilG)))) (sqT (ifT (isB (callT [none, none] S_is_looking (consT (varT 0) (consT (varT 2) (nilT))))) (asgT 3 (lstT (starT (varT 3) (consT (varT 4) (nilT))))) (nxT)) (asgT 2 (callT [none, none, none] S_step (consT (varT 0) (consT (varT 2) (consT (varT 5) (nilT)))))))
      (enumFrom k (l.map .int)) [some f.d, some F, some st.d, some (.list (acc.map fun (n : Nat) => .int n)), x, y] = .ok .nx [some f.d, some F, some st'.d, some (.list ((acc ++ lookedF f st k l).map fun (n : Nat) => .int n)), x', y']
  | [], _, _, _, _, k, F, x, y, acc, .nil _ _, _, _ => ⟨x, y, by simp [lookedF, enumFrom]⟩
  | s :: l, st, st', c, c', k, F, x, y, acc, .cons (st' := st1) h1 hn r, hs, hl => by
    rw [List.length_cons] at hl
    rw [List.map_cons, show enumFrom k (.int s :: l.map .int) = .tuple [.int k, .int s] :: enumFrom (k + 1) (l.map .int) from rfl, forT_cons]
    by_cases hk : looking f st = true
    · obtain ⟨x', y', e⟩ := looked_loop h (k + 1) F (some (.int k)) (some (.int s)) (acc ++ [k]) r (step_in h1) (by simp; omega)
      refine ⟨x', y', ?_⟩
      simp [step_eq h st hs, is_looking_eq h st hs, h1, stD, hk, lookedF]
      rw [if_pos (by omega)]
      simpa using e
    · obtain ⟨x', y', e⟩ := looked_loop h (k + 1) F (some (.int k)) (some (.int s)) acc r (step_in h1) (by omega)
      refine ⟨x', y', ?_⟩
      simp [step_eq h st hs, is_looking_eq h st hs, h1, stD, hk, lookedF]
      simpa using e
theorem looked_in_eq {f : Fmt} (h : f.Ok) {l : List Int} {st : Std} {c : Cont} (r : Run f (first f) [] l st c) (hl : l.length ≤ 1000000) : S_looked_in [f.d, sgD l] = .ok (.list ((lookedF f (first f) 0 l).map fun (n : Nat) => .int n)) [] := by
  obtain ⟨x', y', e⟩ := looked_loop h 0 (sgD l) none none [] r (first_in f) (by simpa using hl)
  simp only [S_looked_in, T_looked_in, runF_eq, rho0]
  have en : enumD [sgD l] = some (enumFrom 0 (l.map .int)) := rfl
  simp at e
  simp [first_stand_eq, en, e]
theorem stand_loop {f : Fmt} (h : f.Ok) : ∀ {l : List Int} {st st' : Std} {c c' : Cont} (F : D) (x : Option D), Run f st c l st' c' → st.In f →
    ∃ x', forT (setG 3) (sqT (ifT (isB (Z.binT isD (varT 1) (cT .none))) (retT (cT .none)) (nxT)) (asgT 1 (callT [none, none, none] S_step (consT (varT 0) (consT (varT 1) (consT (varT 3) (nilT)))))))
      (l.map .int) [some f.d, some st.d, some F, x] = .ok .nx [some f.d, some st'.d, some F, x']
  | [], _, _, _, _, F, x, .nil _ _, _ => ⟨x, rfl⟩
  | s :: l, st, st', c, c', F, x, .cons (st' := st1) h1 hn r, hs => by
    obtain ⟨x', e⟩ := stand_loop h F (some (.int s)) r (step_in h1)
    refine ⟨x', ?_⟩
    rw [List.map_cons, forT_cons]
    simp [step_eq h st hs, h1, stD, nonD]
    exact e
theorem stand_from_eq {f : Fmt} (h : f.Ok) {l : List Int} {st : Std} {c : Cont} (r : Run f (first f) [] l st c) : S_stand_from [f.d, (first f).d, sgD l] = .ok st.d [] := by
  obtain ⟨x', e⟩ := stand_loop h (sgD l) none r (first_in f)
  simp only [S_stand_from, T_stand_from, runF_eq, rho0]
  simp [sgD_items, e]
end K80

/-! file KP4 -/
set_option Elab.async false
set_option linter.all false
set_option autoImplicit false
set_option maxRecDepth 100000
set_option maxHeartbeats 4000000
namespace K80
open PySem PySem.Spec L2 Z
def Use.chunk : Use → Bool
  | .keep => true
  | .check => true
  | .skip => true
  | _ => false
def chunkS (f : Fmt) (p : Int × List Int) : List Int := p.1 :: (lenS f (p.2.length : Int) ++ (p.2 ++ (if use f p.1 = some .check then [p.2.sum % f.base] else [])))
def afterBody (f : Fmt) (u : Use) (t : Int) : Std := if u = .check then .sum t else .tag
theorem body_run {f : Fmt} (hb : 0 < f.base) (u : Use) : ∀ (bs : List Int) (s : Int) (tot : Int) (c pre : Cont) (t : Int) (b0 : List Int), (u.told = true → c = pre ++ [(t, b0)]) →
    Run f (.body u (((s :: bs).length : Nat) : Int) tot) c (s :: bs) (afterBody f u (if u = .check then (tot + (s :: bs).sum) % f.base else tot)) (if u.told then pre ++ [(t, b0 ++ (s :: bs))] else c)
  | [], s, tot, c, pre, t, b0, hc => by
    have h1 : step f (.body u (([s].length : Nat) : Int) tot) s = some (afterBody f u (if u = .check then (tot + [s].sum) % f.base else tot)) := by
      simp only [step, afterBody]
      by_cases hu : u = .check <;> simp [hu]
    have h2 : toldAt f (.body u (([s].length : Nat) : Int) tot) s c = (if u.told then pre ++ [(t, b0 ++ [s])] else c) := by
      simp only [toldAt]
      by_cases ht : u.told = true
      · rw [hc ht]; simp [ht]
      · simp [ht]
    rw [← h2]
    exact Run.one h1 fun u' a t' e hu => by
      cases e
      rw [hc hu]; simp
  | s2 :: bs, s, tot, c, pre, t, b0, hc => by
    have h1 : step f (.body u (((s :: s2 :: bs).length : Nat) : Int) tot) s = some (.body u (((s2 :: bs).length : Nat) : Int) (if u = .check then (tot + s) % f.base else tot)) := by
      simp only [step]
      rw [if_pos (by simp only [List.length_cons]; omega)]
      congr 2
      simp only [List.length_cons]; omega
    have h2 : toldAt f (.body u (((s :: s2 :: bs).length : Nat) : Int) tot) s c = (if u.told then pre ++ [(t, b0 ++ [s])] else c) := by
      simp only [toldAt]
      by_cases ht : u.told = true
      · rw [hc ht]; simp [ht]
      · simp [ht]
    have r := body_run hb u bs s2 (if u = .check then (tot + s) % f.base else tot) (if u.told then pre ++ [(t, b0 ++ [s])] else c) pre t (b0 ++ [s]) (fun ht => by simp [ht])
    have e1 : (if u = .check then ((if u = .check then (tot + s) % f.base else tot) + (s2 :: bs).sum) % f.base else (if u = .check then (tot + s) % f.base else tot)) = (if u = .check then (tot + (s :: s2 :: bs).sum) % f.base else tot) := by
      by_cases hu : u = .check
      · simp only [hu, if_pos, List.sum_cons]
        rw [Int.emod_add_emod]
        congr 1
        omega
      · simp [hu]
    have e2 : (if u.told then pre ++ [(t, (b0 ++ [s]) ++ (s2 :: bs))] else (if u.told then pre ++ [(t, b0 ++ [s])] else c)) = (if u.told then pre ++ [(t, b0 ++ (s :: s2 :: bs))] else c) := by
      by_cases ht : u.told = true <;> simp [ht]
    rw [e1, e2, ← h2] at r
    exact .cons h1 (fun u' a t' e hu => by
      cases e
      rw [hc hu]; simp) r
theorem len_run {f : Fmt} (h : f.Ok) (u : Use) (n : Int) (hn : 0 ≤ n) (hm : n ≤ f.most) (c : Cont) : Run f (.len u) c (lenS f n) (bodyStd u n) c := by
  have hb := h.b2
  have ed : n / f.base * f.base + n % f.base = n := by have := Int.mul_ediv_add_emod n f.base; rw [Int.mul_comm]; exact this
  have hr := Int.emod_nonneg n (show f.base ≠ 0 by omega)
  have hq : 0 ≤ n / f.base := Int.ediv_nonneg hn (by omega)
  have hqb : 0 ≤ n / f.base * f.base := Int.mul_nonneg hq (by omega)
  cases hw : f.width with
  | one =>
    rw [lenS, hw]
    exact Run.one (by simp only [step, hw]; rw [if_pos hm]) (fun _ _ _ e => by cases e)
  | high =>
    rw [lenS, hw]
    refine .cons (st' := .second u (n / f.base)) ?_ (fun _ _ _ e => by cases e) (Run.one ?_ (fun _ _ _ e => by cases e))
    · simp only [step, hw]; rw [if_pos (by omega)]
    · simp only [step, hw, if_pos]; rw [ed, if_pos hm]
  | low =>
    rw [lenS, hw]
    refine .cons (st' := .second u (n % f.base)) ?_ (fun _ _ _ e => by cases e) (Run.one ?_ (fun _ _ _ e => by cases e))
    · simp only [step, hw]; rw [if_pos (by omega)]
    · simp only [step, hw]
      rw [if_neg (show ¬ (Wd.low = Wd.high) by decide), ed, if_pos hm]
theorem chunk_run {f : Fmt} (h : f.Ok) (p : Int × List Int) (u : Use) (hu : use f p.1 = some u) (hc : u.chunk = true) (hm : (p.2.length : Int) ≤ f.most) (c : Cont) : Run f .tag c (chunkS f p) .tag (if u.told then c ++ [p] else c) := by
  obtain ⟨t, b⟩ := p
  simp only at hu hm
  have h1 : step f .tag t = some (.len u) := by
    simp only [step, hu]
    cases u <;> simp [Use.chunk] at hc ⊢
  have h2 : toldAt f .tag t c = if u.told then c ++ [(t, [])] else c := by
    simp only [toldAt, hu, useTold]
  unfold chunkS
  refine .cons h1 (fun _ _ _ e => by cases e) ?_
  rw [h2]
  simp only
  refine (len_run h u _ (by omega) hm _).trans ?_
  have hb : 0 < f.base := by have := h.b2; omega
  cases b with
  | nil =>
    simp only [List.length_nil, List.nil_append, bodyStd, hu]
    by_cases hk : u = .check
    · subst hk
      simp only [if_pos]
      refine Run.one (c := if Use.check.told then c ++ [(t, [])] else c) ?_ (fun _ _ _ e => by cases e)
      simp [step]
    · have e : (if (some u : Option Use) = some .check then [([] : List Int).sum % f.base] else []) = [] := by simp [hk]
      simp [hk]
      exact .nil _ _
  | cons s bs =>
    have e0 : bodyStd u (((s :: bs).length : Nat) : Int) = .body u (((s :: bs).length : Nat) : Int) 0 := by
      simp only [bodyStd]
      rw [if_pos (by simp only [List.length_cons]; omega)]
    rw [e0]
    have r := body_run hb u bs s 0 (if u.told then c ++ [(t, [])] else c) c t [] (fun ht => by simp [ht])
    have e2 : (if u.told then c ++ [(t, [] ++ (s :: bs))] else (if u.told then c ++ [(t, [])] else c)) = (if u.told then c ++ [(t, s :: bs)] else c) := by
      by_cases ht : u.told = true <;> simp [ht]
    rw [e2] at r
    refine r.trans ?_
    by_cases hk : u = .check
    · simp only [hu, hk, if_pos, afterBody]
      refine Run.one (c := if Use.check.told then c ++ [(t, s :: bs)] else c) ?_ (fun _ _ _ e => by cases e)
      simp [step]
    · simp only [hu, afterBody]
      simp [hk]
      exact .nil _ _
/-! ### files -/
structure File where
  hd : List Int
  ps : List (Int × List Int)
  e : List Int
def File.signs (f : Fmt) (F : File) : List Int := F.hd ++ (F.ps.flatMap (chunkS f) ++ F.e)
def ChunkOk (f : Fmt) (p : Int × List Int) : Prop := ∃ u, use f p.1 = some u ∧ u.chunk = true ∧ (p.2.length : Int) ≤ f.most
def EndOk (f : Fmt) (e : List Int) : Prop := (hasEnd f = false ∧ e = []) ∨ (∃ t r, e = t :: r ∧ use f t = some .end_) ∨ ∃ t, e = [t] ∧ use f t = some .stop
structure FileOk (f : Fmt) (F : File) : Prop where
  hl : F.hd.length = f.head.length
  hm : ∀ (i : Nat) (m : Int), f.head[i]? = some (some m) → F.hd[i]? = some m
  ps : ∀ p ∈ F.ps, ChunkOk f p
  e : EndOk f F.e
def content (f : Fmt) (ps : List (Int × List Int)) : Cont := ps.filter fun p => useTold (use f p.1)
theorem head_run {f : Fmt} {c : Cont} : ∀ (hd : List Int) (i : Nat), i < f.head.length → hd.length + i = f.head.length → (∀ (j : Nat) (m : Int), f.head[i + j]? = some (some m) → hd[j]? = some m) → Run f (.head i) c hd .tag c
  | [], i, hi, hl, _ => by simp at hl; omega
  | s :: hd, i, hi, hl, hm => by
    have e0 : f.head[i]? = some f.head[i] := List.getElem?_eq_getElem hi
    have h1 : step f (.head i) s = some (if i + 1 < f.head.length then .head (i + 1) else .tag) := by
      simp only [step, e0]
      cases hq : f.head[i] with
      | none => rfl
      | some m =>
        have := hm 0 m (by rw [Nat.add_zero, e0, hq])
        simp at this
        simp [this]
    by_cases hlt : i + 1 < f.head.length
    · rw [if_pos hlt] at h1
      refine .cons h1 (fun _ _ _ e => by cases e) ?_
      exact head_run hd (i + 1) hlt (by simp only [List.length_cons] at hl; omega) (fun j m e => by
        have := hm (j + 1) m (by rw [show i + (j + 1) = i + 1 + j by omega]; exact e)
        simpa using this)
    · rw [if_neg hlt] at h1
      have : hd = [] := by
        simp only [List.length_cons] at hl
        exact List.length_eq_zero_iff.mp (by omega)
      subst this
      exact Run.one (c := c) h1 (fun _ _ _ e => by cases e)
theorem first_run {f : Fmt} {F : File} (h : FileOk f F) : Run f (first f) [] F.hd .tag [] := by
  unfold first
  by_cases e : f.head = []
  · rw [if_pos e]
    have := h.hl
    rw [e] at this
    rw [List.length_eq_zero_iff.mp this]
    exact .nil _ _
  · rw [if_neg e]
    exact head_run F.hd 0 (List.length_pos_iff.mpr e) (by rw [h.hl]; omega) (fun j m q => h.hm j m (by rwa [Nat.zero_add] at q))
theorem chunks_run {f : Fmt} (h : f.Ok) : ∀ (ps : List (Int × List Int)) (c : Cont), (∀ p ∈ ps, ChunkOk f p) → Run f .tag c (ps.flatMap (chunkS f)) .tag (c ++ content f ps)
  | [], c, _ => by simp [content]; exact .nil _ _
  | p :: ps, c, hp => by
    obtain ⟨u, h1, h2, h3⟩ := hp p (List.mem_cons_self ..)
    have r1 := chunk_run h p u h1 h2 h3 c
    have r2 := chunks_run h ps (if u.told then c ++ [p] else c) (fun q hq => hp q (List.mem_cons_of_mem _ hq))
    rw [List.flatMap_cons]
    have e : (if u.told then c ++ [p] else c) ++ content f ps = c ++ content f (p :: ps) := by
      simp only [content, List.filter_cons, h1, useTold]
      by_cases ht : u.told = true <;> simp [ht]
    rw [← e]
    exact r1.trans r2
theorem room_run {f : Fmt} {c : Cont} : ∀ l : List Int, Run f .room c l .room c
  | [] => .nil _ _
  | s :: l => .cons (st' := .room) rfl (fun _ _ _ e => by cases e) (room_run l)
theorem end_run {f : Fmt} {e : List Int} (h : EndOk f e) (c : Cont) : ∃ st, Run f .tag c e st c ∧ ending f st = true := by
  rcases h with ⟨h1, rfl⟩ | ⟨t, r, rfl, h1⟩ | ⟨t, rfl, h1⟩
  · exact ⟨.tag, .nil _ _, by simp [ending, h1]⟩
  · refine ⟨.room, .cons (st' := .room) (by simp [step, h1]) (fun _ _ _ e => by cases e) ?_, rfl⟩
    have : toldAt f .tag t c = c := by simp [toldAt, h1, useTold, Use.told]
    rw [this]
    exact room_run r
  · refine ⟨.over, ?_, rfl⟩
    have : toldAt f .tag t c = c := by simp [toldAt, h1, useTold, Use.told]
    have r := Run.one (f := f) (st := .tag) (st1 := .over) (c := c) (s := t) (by simp [step, h1]) (fun _ _ _ e => by cases e)
    rwa [this] at r
theorem file_run {f : Fmt} (h : f.Ok) {F : File} (hF : FileOk f F) : ∃ st, Run f (first f) [] (F.signs f) st (content f F.ps) ∧ ending f st = true := by
  obtain ⟨st, r, e⟩ := end_run hF.e (content f F.ps)
  have r2 := chunks_run h F.ps [] hF.ps
  rw [List.nil_append] at r2
  exact ⟨st, (first_run hF).trans (r2.trans r), e⟩
end K80

/-! file KP5 -/
set_option Elab.async false
set_option linter.all false
set_option autoImplicit false
set_option maxRecDepth 100000
set_option maxHeartbeats 4000000
namespace K80
open PySem PySem.Spec L2 Z
/-! ### what is asked of formats, files, contents -/
theorem all_true {α : Type} (l : List α) : allD [.list (l.map fun _ => .bool true)] = some (.bool true) := by
  rw [all_map l (fun _ => true)]; simp
theorem all_rep (n : Nat) : allD [.list (List.replicate n (.bool true))] = some (.bool true) := by
  have := all_true (List.replicate n ())
  rwa [List.map_replicate] at this
theorem is_word_of_eq (w : Str) (ws : List D) (b : Bool) (h : inD (.str w) (.tuple ws) = some (.bool b)) : S_is_word_of [.str w, .tuple ws] = .ok (.bool b) [] := by
  simp [S_is_word_of, T_is_word_of, runF_eq, rho0, h, subTy]
theorem inUses (u : Use) : inD (.str u.s) (.tuple [.str "keep", .str "check", .str "skip", .str "end", .str "stop"]) = some (.bool true) := by
  unfold inD inB
  have e : okIn (.str u.s) [.str "keep", .str "check", .str "skip", .str "end", .str "stop"] = true := by
    simp [okIn, PyData.canLay0, PyData.canLayAll0, PyData.depth, PyData.depthAll, use_ok]
    exact ⟨by decide +kernel, by decide +kernel, by decide +kernel, by decide +kernel, by decide +kernel⟩
  simp only [itemsD_tuple, e]
  cases u <;> simp [PyData.eqv, Use.s]
theorem inWds (w : Wd) : inD (.str w.s) (.tuple [.str "one", .str "high", .str "low"]) = some (.bool true) := by
  unfold inD inB
  have e : okIn (.str w.s) [.str "one", .str "high", .str "low"] = true := by
    simp [okIn, PyData.canLay0, PyData.canLayAll0, PyData.depth, PyData.depthAll, wd_ok]
    exact ⟨by decide +kernel, by decide +kernel, by decide +kernel⟩
  simp only [itemsD_tuple, e]
  cases w <;> simp [PyData.eqv, Wd.s]
theorem inRest (b : Bool) : inD (.str (if b then "skip" else "refuse")) (.tuple [.str "skip", .str "refuse"]) = some (.bool true) := by
  unfold inD inB
  have e : okIn (.str (if b then "skip" else "refuse")) [.str "skip", .str "refuse"] = true := by
    have e1 : PyData.strOk (Str.ofString "skip") = true := by decide +kernel
    have e2 : PyData.strOk (Str.ofString "refuse") = true := by decide +kernel
    cases b <;> simp [okIn, PyData.canLay0, PyData.canLayAll0, PyData.depth, PyData.depthAll, e1, e2]
  simp only [itemsD_tuple, e]
  cases b <;> simp [PyData.eqv]
theorem is_head_eq {f : Fmt} (h : f.Ok) : S_is_head [.int f.base, .tuple (f.head.map mkD)] = .ok (.bool true) [] := by
  simp only [S_is_head, T_is_head, runF_eq, rho0]
  have hl := h.hl
  have lc := lcT_pure (vs := [2]) (Ti := seqT (varT 1)) (g := setG 2) (tt := yesT) (te := orV (Z.binT isD (varT 2) (cT .none)) (callT [none, none] S_is_sign (consT (varT 0) (consT (varT 2) (nilT)))))
    (ρ := [some (.int f.base), some (.tuple (f.head.map mkD)), none]) (ρ1 := [some (.int f.base), some (.tuple (f.head.map mkD)), none]) f.head mkD (fun _ => true) (fun _ => .bool true) (fun m => [some (.int f.base), some (.tuple (f.head.map mkD)), some (mkD m)])
    (by simp) (fun m hm => by
      cases m with
      | none => simp [wipeR, yesT, mkD]
      | some i =>
        have := h.hd i hm
        simp [wipeR, yesT, mkD, is_sign_int, this]) (by simp; omega)
  rw [fuse] at lc
  simp [lc, subTy, all_true, all_rep]
theorem is_signs_eq (b : Int) (l : List Int) (hl : l.length ≤ 1000000) (h : ∀ s ∈ l, 0 ≤ s ∧ s < b) : S_is_signs [.int b, sgD l] = .ok (.bool true) [] := by
  simp only [S_is_signs, T_is_signs, runF_eq, rho0]
  have lc := lcT_pure (vs := [2]) (Ti := seqT (varT 1)) (g := setG 2) (tt := yesT) (te := callT [none, none] S_is_sign (consT (varT 0) (consT (varT 2) (nilT))))
    (ρ := [some (.int b), some (sgD l), none]) (ρ1 := [some (.int b), some (sgD l), none]) l .int (fun _ => true) (fun _ => .bool true) (fun m => [some (.int b), some (sgD l), some (.int m)])
    (by simp [sgD_items]) (fun m hm => by
      have := h m hm
      simp [wipeR, yesT, is_sign_int, this]) (by simp; omega)
  rw [fuse] at lc
  have e : isiD "tuple" (sgD l) = some (.bool true) := rfl
  simp [lc, e, all_true, all_rep]
theorem tags_loop {f : Fmt} : ∀ (ts : List (Int × Use)) (F : D) (x y : Option D), (∀ t ∈ ts, 0 ≤ t.1 ∧ t.1 < f.base) →
    ∃ x', forT (setG 2) (ifT (orT (notT (isB (isiT "tuple" (varT 2)))) (orT (isB (Z.binT neD (callB lenD (consT (varT 2) (nilT))) (cT (.int 2)))) (orT (notT (isB (callT [none, none] S_is_sign (consT (varT 0) (consT (Z.binT idxD (varT 2) (cT (.int 0))) (nilT)))))) (notT (isB (callT [none, none] S_is_word_of (consT (Z.binT idxD (varT 2) (cT (.int 1))) (consT (cT (.tuple [.str ("keep" : Str), .str ("check" : Str), .str ("skip" : Str), .str ("end" : Str), .str ("stop" : Str)])) (nilT))))))))) (retT (cT (.bool false))) (nxT))
      (ts.map tgD) [some (.int f.base), some F, x, y] = .ok .nx [some (.int f.base), some F, x', y]
  | [], F, x, y, _ => ⟨x, rfl⟩
  | t :: ts, F, x, y, h => by
    obtain ⟨x', e⟩ := tags_loop ts F (some (tgD t)) y (fun q hq => h q (List.mem_cons_of_mem _ hq))
    refine ⟨x', ?_⟩
    have ht := h t (List.mem_cons_self ..)
    rw [List.map_cons, forT_cons]
    have e1 : isiD "tuple" (tgD t) = some (.bool true) := rfl
    have e2 : lenD [tgD t] = some (.int 2) := rfl
    have e3 : idxD (tgD t) (.int 0) = some (.int t.1) := rfl
    have e4 : idxD (tgD t) (.int 1) = some (.str t.2.s) := by simp [tgD]
    simp [e1, e2, e3, e4, is_sign_int, ht, is_word_of_eq _ _ _ (inUses t.2)]
    exact e
theorem zipW_map (ts ss : List (Int × Use)) : zipW (ts.map tgD) (ss.map tgD) = (ts.zip ss).map fun p => .tuple [tgD p.1, tgD p.2] := by
  unfold zipW
  rw [List.zip_map, List.map_map]
  rfl
theorem pw_zip {ts : List (Int × Use)} (h : ts.Pairwise fun a b => a.1 < b.1) : ∀ p ∈ ts.zip (ts.drop 1), p.1.1 < p.2.1 := by
  intro p hp
  obtain ⟨i, hi⟩ := List.mem_iff_getElem?.mp hp
  rw [List.getElem?_zip_eq_some] at hi
  obtain ⟨h1, h2⟩ := hi
  rw [List.getElem?_drop] at h2
  obtain ⟨l1, e1⟩ := List.getElem?_eq_some_iff.mp h1
  obtain ⟨l2, e2⟩ := List.getElem?_eq_some_iff.mp h2
  have := (List.pairwise_iff_getElem.mp h) i (1 + i) l1 l2 (by omega)
  rw [← e1, ← e2]
  exact this
theorem is_tags_eq {f : Fmt} (h : f.Ok) : S_is_tags [.int f.base, .tuple (f.tags.map tgD)] = .ok (.bool true) [] := by
  simp only [S_is_tags, T_is_tags, runF_eq, rho0]
  have hl := h.tl
  obtain ⟨x', e⟩ := tags_loop f.tags (.tuple (f.tags.map tgD)) none none h.tg
  have cut : cutD (f.tags.map tgD) (some 1) none = (f.tags.drop 1).map tgD := by
    unfold cutD
    by_cases hz : f.tags.length = 0
    · rw [List.length_eq_zero_iff.mp hz]; rfl
    · simp only [HT.sIx, List.length_map]
      rw [if_neg (by omega), show min (1 : Int).toNat f.tags.length = 1 by simp; omega, List.take_of_length_le (by simp), List.map_drop]
  have lc := lcT_pure (vs := [2, 3]) (Ti := rngT zipD (consT (varT 1) (consT (slcT (varT 1) (someP (cT (.int 1))) (noP)) (nilT)))) (g := tupG 2 (consG (setG 2) (consG (setG 3) (nilG)))) (tt := yesT) (te := Z.binT ltD (Z.binT idxD (varT 2) (cT (.int 0))) (Z.binT idxD (varT 3) (cT (.int 0))))
    (ρ := [some (.int f.base), some (.tuple (f.tags.map tgD)), x', none]) (ρ1 := [some (.int f.base), some (.tuple (f.tags.map tgD)), x', none]) (f.tags.zip (f.tags.drop 1)) (fun p => .tuple [tgD p.1, tgD p.2]) (fun _ => true) (fun _ => .bool true)
    (fun p => [some (.int f.base), some (.tuple (f.tags.map tgD)), some (tgD p.1), some (tgD p.2)])
    (by
      have e := zipW_map f.tags (f.tags.drop 1)
      simp only [List.drop_one] at e cut
      simp [slcD, cut, zipD]
      rw [← List.map_tail]
      exact e) (fun p hp => by
      have e3 : ∀ t, idxD (tgD t) (.int 0) = some (.int t.1) := fun _ => rfl
      have := pw_zip h.so p hp
      simp [wipeR, yesT, e3, this]) (by simp; omega)
  rw [fuse] at lc
  simp [e, lc, subTy, all_true, all_rep]
theorem is_format_eq {f : Fmt} (h : f.Ok) : S_is_format [f.d] = .ok (.bool true) [] := by
  simp only [S_is_format, T_is_format, runF_eq, rho0]
  have e1 : isiD "tuple" f.d = some (.bool true) := rfl
  have e2 : lenD [f.d] = some (.int 6) := rfl
  have b2 := h.b2
  have b256 := h.b256
  simp only [Fmt.d] at e1 e2 ⊢
  simp [e1, e2, is_at_least_int, h.b2, h.m0, is_head_eq h, is_tags_eq h, is_word_of_eq _ _ _ (inWds f.width), is_word_of_eq _ _ _ (inRest f.rest)]
  exact h.b256
theorem check_format_eq {f : Fmt} (h : f.Ok) : S_check_format [f.d] = .ok .none [] := by
  simp [S_check_format, T_check_format, runF_eq, rho0, is_format_eq h]
def SgOk (f : Fmt) (l : List Int) : Prop := l.length ≤ 1000000 ∧ ∀ s ∈ l, 0 ≤ s ∧ s < f.base
theorem check_file_eq {f : Fmt} {l : List Int} (hl : SgOk f l) : S_check_file [f.d, sgD l] = .ok .none [] := by
  simp [S_check_file, T_check_file, S_is_file_of, T_is_file_of, runF_eq, rho0, is_signs_eq f.base l hl.1 hl.2]
theorem check_read_eq {f : Fmt} (h : f.Ok) {F : File} (hF : FileOk f F) : S_check_read [f.d, sgD (F.signs f)] = .ok .none [] := by
  obtain ⟨st, r, e⟩ := file_run h hF
  simp [S_check_read, T_check_read, runF_eq, rho0, refusal_of_eq h r e]
theorem read_eq {f : Fmt} (h : f.Ok) {F : File} (hF : FileOk f F) (hs : SgOk f (F.signs f)) : S_read [f.d, sgD (F.signs f)] = .ok (coD (content f F.ps)) [] := by
  obtain ⟨st, r, e⟩ := file_run h hF
  simp [S_read, T_read, runF_eq, rho0, check_format_eq h, check_file_eq hs, check_read_eq h hF, told_in_eq h r hs.1]
theorem refusal_eq {f : Fmt} (h : f.Ok) {F : File} (hF : FileOk f F) (hs : SgOk f (F.signs f)) : S_refusal [f.d, sgD (F.signs f)] = .ok .none [] := by
  obtain ⟨st, r, e⟩ := file_run h hF
  simp [S_refusal, T_refusal, runF_eq, rho0, check_format_eq h, check_file_eq hs, refusal_of_eq h r e]
theorem looked_at_eq {f : Fmt} (h : f.Ok) {F : File} (hF : FileOk f F) (hs : SgOk f (F.signs f)) : S_looked_at [f.d, sgD (F.signs f)] = .ok (.list ((lookedF f (first f) 0 (F.signs f)).map fun (n : Nat) => .int n)) [] := by
  obtain ⟨st, r, e⟩ := file_run h hF
  simp [S_looked_at, T_looked_at, runF_eq, rho0, check_format_eq h, check_file_eq hs, check_read_eq h hF, looked_in_eq h r hs.1]
/-! ### contents -/
def longest (f : Fmt) : Int := min f.most (if f.width = .one then f.base - 1 else f.base * f.base - 1)
theorem greatest_length_eq {f : Fmt} (h : f.Ok) : S_greatest_length [f.d] = .ok (.int (longest f)) [] := by
  simp only [S_greatest_length, T_greatest_length, runF_eq, rho0]
  simp [wd_one, h.mul, longest]
  cases f.width <;> simp <;> (rw [Int.min_def]; split <;> split <;> first | rfl | omega | (congr 1; omega))
structure ConOk (f : Fmt) (c : Cont) : Prop where
  n : c.length ≤ 1000
  t : ∀ p ∈ c, (0 ≤ p.1 ∧ p.1 < f.base) ∧ useTold (use f p.1) = true ∧ (p.2.length : Int) ≤ longest f ∧ p.2.length ≤ 10000 ∧ ∀ s ∈ p.2, 0 ≤ s ∧ s < f.base
theorem is_chunk_eq {f : Fmt} (h : f.Ok) (p : Int × List Int) (h1 : 0 ≤ p.1 ∧ p.1 < f.base) (h2 : useTold (use f p.1) = true) (h3 : (p.2.length : Int) ≤ longest f) (h4 : p.2.length ≤ 10000) (h5 : ∀ s ∈ p.2, 0 ≤ s ∧ s < f.base) : S_is_chunk [f.d, chD p] = .ok (.bool true) [] := by
  simp only [S_is_chunk, T_is_chunk, runF_eq, rho0]
  have e1 : isiD "tuple" (chD p) = some (.bool true) := rfl
  have e2 : lenD [chD p] = some (.int 2) := rfl
  have e3 : idxD (chD p) (.int 0) = some (.int p.1) := rfl
  have e4 : idxD (chD p) (.int 1) = some (sgD p.2) := by simp [chD]
  have e5 : notInD (useD (use f p.1)) (.tuple [.str "keep", .str "check"]) = some (.bool false) := by
    have := use_told (use f p.1)
    unfold inD at this
    unfold notInD
    obtain ⟨b, hb, e⟩ := Option.map_eq_some_iff.mp this
    rw [hb]
    cases e
    simp [h2]
  have e6 : lenD [sgD p.2] = some (.int p.2.length) := by simp [sgD]
  simp [e1, e2, e3, e4, is_sign_int, h1, use_at_eq, e5, is_signs_eq f.base p.2 (by omega) h5, e6, greatest_length_eq h, h3]
theorem is_content_of_eq {f : Fmt} (h : f.Ok) {c : Cont} (hc : ConOk f c) : S_is_content_of [f.d, coD c] = .ok (.bool true) [] := by
  simp only [S_is_content_of, T_is_content_of, runF_eq, rho0]
  have hn := hc.n
  have lc := lcT_pure (vs := [2]) (Ti := seqT (varT 1)) (g := setG 2) (tt := yesT) (te := callT [none, none] S_is_chunk (consT (varT 0) (consT (varT 2) (nilT))))
    (ρ := [some f.d, some (coD c), none]) (ρ1 := [some f.d, some (coD c), none]) c chD (fun _ => true) (fun _ => .bool true) (fun m => [some f.d, some (coD c), some (chD m)])
    (by simp [coD]) (fun m hm => by
      obtain ⟨a1, a2, a3, a4, a5⟩ := hc.t m hm
      simp [wipeR, yesT, is_chunk_eq h m a1 a2 a3 a4 a5]) (by simp; omega)
  rw [fuse] at lc
  have e : isiD "tuple" (coD c) = some (.bool true) := rfl
  simp [lc, e, all_true, all_rep]
theorem is_content_eq {f : Fmt} (h : f.Ok) {c : Cont} (hc : ConOk f c) : S_is_content [f.d, coD c] = .ok (.bool true) [] := by
  simp [S_is_content, T_is_content, runF_eq, rho0, check_format_eq h, is_content_of_eq h hc]
theorem check_content_eq {f : Fmt} (h : f.Ok) {c : Cont} (hc : ConOk f c) : S_check_content [f.d, coD c] = .ok .none [] := by
  simp [S_check_content, T_check_content, runF_eq, rho0, is_content_of_eq h hc]
theorem lenS_len (f : Fmt) (n : Int) : (lenS f n).length ≤ 2 := by
  unfold lenS
  split <;> simp
theorem sum_list (l : List Int) : sumD [.list (l.map .int)] = some (.int l.sum) := by simp [sumD]
theorem chunk_signs_eq {f : Fmt} (h : f.Ok) (p : Int × List Int) (hp : p.2.length ≤ 10000) : S_chunk_signs [f.d, chD p] = .ok (sgD (chunkS f p)) [] := by
  simp only [S_chunk_signs, T_chunk_signs, runF_eq, rho0]
  have e6 : lenD [sgD p.2] = some (.int p.2.length) := by simp [sgD]
  have hl := lenS_len f p.2.length
  have e7 : eqD (useD (use f p.1)) (.str "check") = some (.bool (decide (use f p.1 = some .check))) := by
    cases use f p.1 with
    | none =>
      have : okCmp .none (.str "check") = true := by
        simp [okCmp, PyData.canLay0, PyData.depth]
        decide +kernel
      simp [eqD, useD, this, PyData.eqv]
    | some u => rw [show useD (some u) = .str u.s from rfl, us_check]; simp
  simp [chD, e6, length_signs_eq h, sgD_items, use_at_eq, e7, sum_list, h.mod]
  rw [if_pos (by omega)]
  by_cases hk : use f p.1 = some .check
  · simp [hk, e7, sum_list, h.mod, sgD, chunkS]
    rw [if_pos (by omega), if_pos (by omega)]
  · simp [hk, e7, sgD, chunkS]
/-! ### what is written -/
def isEnd (t : Int × Use) : Bool := decide (t.2 = .end_ ∨ t.2 = .stop)
def endS (f : Fmt) : List Int := match f.tags.filter isEnd with
  | t :: _ => [t.1]
  | [] => []
def writ (f : Fmt) (c : Cont) : List Int := f.head.map (fun m => m.getD 0) ++ (c.flatMap (chunkS f) ++ endS f)
theorem chunkS_len (f : Fmt) (p : Int × List Int) : (chunkS f p).length ≤ p.2.length + 4 := by
  have := lenS_len f p.2.length
  unfold chunkS
  split <;> simp <;> omega
theorem flat_len (f : Fmt) : ∀ (c : Cont), (∀ p ∈ c, p.2.length ≤ 10000) → (c.flatMap (chunkS f)).length ≤ c.length * 10004
  | [], _ => by simp
  | p :: c, h => by
    have h1 := chunkS_len f p
    have h2 := flat_len f c (fun q hq => h q (List.mem_cons_of_mem _ hq))
    have h3 := h p (List.mem_cons_self ..)
    simp only [List.flatMap_cons, List.length_append, List.length_cons]
    omega
theorem written_loop {f : Fmt} (h : f.Ok) : ∀ (c : Cont) (found : List Int) (F : D) (x a b e g : Option D), (∀ p ∈ c, p.2.length ≤ 10000) → found.length + c.length * 10004 ≤ 16000000 →
    ∃ x', forT (setG 3) (asgT 2 (tupT (starT (varT 2) (starT (callT [none, none] S_chunk_signs (consT (varT 0) (consT (varT 3) (nilT)))) (nilT))))) (c.map chD) [some f.d, some F, some (sgD found), x, a, b, e, g] = .ok .nx [some f.d, some F, some (sgD (found ++ c.flatMap (chunkS f))), x', a, b, e, g]
  | [], found, F, x, a, b, e, g, _, _ => ⟨x, by simp⟩
  | p :: c, found, F, x, a, b, e, g, hc, hl => by
    have h1 := chunkS_len f p
    have h3 := hc p (List.mem_cons_self ..)
    rw [List.length_cons] at hl
    obtain ⟨x', q⟩ := written_loop h c (found ++ chunkS f p) F (some (chD p)) a b e g (fun q hq => hc q (List.mem_cons_of_mem _ hq)) (by simp only [List.length_append]; omega)
    refine ⟨x', ?_⟩
    rw [List.map_cons, forT_cons]
    simp [chunk_signs_eq h p h3, sgD_items]
    rw [if_pos (by omega)]
    have e1 : PyData.tuple (List.map PyData.int found ++ List.map PyData.int (chunkS f p)) = sgD (found ++ chunkS f p) := by simp [sgD]
    rw [e1, q]
    simp
theorem ends_ne (l : List Int) : neD (.list (l.map .int)) (.list []) = some (.bool (!l.isEmpty)) := by
  have h := lay_ints l
  cases l <;> simp [neD, okCmp, PyData.canLay0, PyData.canLayAll0, PyData.depth, PyData.depthAll, PyData.eqv, PyData.eqvAll] at h ⊢
  exact h
theorem written_eq {f : Fmt} (h : f.Ok) {c : Cont} (hn : c.length ≤ 1000) (hc : ∀ p ∈ c, p.2.length ≤ 10000) : S_written [f.d, coD c] = .ok (sgD (writ f c)) [] := by
  simp only [S_written, T_written, runF_eq, rho0]
  have hl := h.hl
  have tl := h.tl
  have lc1 := lcT_pure (vs := [7]) (Ti := seqT (Z.binT idxD (varT 0) (cT (.int 1)))) (g := setG 7) (tt := yesT) (te := ifT (isB (Z.binT isD (varT 7) (cT .none))) (cT (.int 0)) (varT 7))
    (ρ := [some f.d, some (coD c), none, none, none, none, none, none]) (ρ1 := [some f.d, some (coD c), none, none, none, none, none, none]) f.head mkD (fun _ => true) (fun m => .int (m.getD 0)) (fun m => [some f.d, some (coD c), none, none, none, none, none, some (mkD m)])
    (by simp) (fun m hm => by cases m <;> simp [wipeR, yesT, mkD]) (by simp; omega)
  rw [fuse] at lc1
  have e1 : PyData.tuple (f.head.map fun m => PyData.int (m.getD 0)) = sgD (f.head.map fun m => m.getD 0) := by simp [sgD]
  obtain ⟨x', q⟩ := written_loop h c (f.head.map fun m => m.getD 0) (coD c) none none none none none hc (by simp; omega)
  have lc2 := lcT_pure (vs := [5, 6]) (Ti := seqT (Z.binT idxD (varT 0) (cT (.int 4)))) (g := tupG 2 (consG (setG 5) (consG (setG 6) (nilG)))) (tt := isB (Z.binT inD (varT 6) (tupT (consT (cT (.str ("end" : Str))) (consT (cT (.str ("stop" : Str))) (nilT)))))) (te := varT 5)
    (ρ := [some f.d, some (coD c), some (sgD ((f.head.map fun m => m.getD 0) ++ c.flatMap (chunkS f))), x', none, none, none, none]) (ρ1 := [some f.d, some (coD c), some (sgD ((f.head.map fun m => m.getD 0) ++ c.flatMap (chunkS f))), x', none, none, none, none])
    f.tags tgD isEnd (fun t => .int t.1) (fun t => [some f.d, some (coD c), some (sgD ((f.head.map fun m => m.getD 0) ++ c.flatMap (chunkS f))), x', none, some (.int t.1), some (.str t.2.s), none])
    (by simp) (fun t _ => by simp [tgD, wipeR, inEnd, isEnd]) (by simp; omega)
  have fl := flat_len f c hc
  have e2 : (f.tags.filter isEnd).map (fun t => PyData.int t.1) = ((f.tags.filter isEnd).map (·.1)).map .int := by simp
  rw [e2] at lc2
  simp [lc1, e1]
  simp [coD] at q lc2 ⊢
  simp [q, lc2]
  have ne := ends_ne ((f.tags.filter isEnd).map (·.1))
  simp at ne
  simp [ne, sgD_items]
  unfold writ endS
  cases hz : f.tags.filter isEnd with
  | nil => simp [hz]
  | cons t r =>
    simp [hz, sgD]
    simp only [List.length_flatMap] at fl
    omega
theorem write_eq {f : Fmt} (h : f.Ok) {c : Cont} (hc : ConOk f c) : S_write [f.d, coD c] = .ok (sgD (writ f c)) [] := by
  simp [S_write, T_write, runF_eq, rho0, check_format_eq h, check_content_eq h hc, written_eq h hc.n (fun p hp => (hc.t p hp).2.2.2.1)]
end K80

/-! file KP6 -/
set_option Elab.async false
set_option linter.all false
set_option autoImplicit false
set_option maxRecDepth 100000
set_option maxHeartbeats 4000000
namespace K80
open PySem PySem.Spec L2 Z
/-! ### draws -/
def Bag (n : Nat) (d : D) : Prop := ∃ a m k : Int, d = .list [.int a, .int m, .int k] ∧ 0 ≤ m ∧ m < 10 ^ 42 ∧ 0 ≤ k ∧ k ≤ n
theorem Bag.mono {n m : Nat} {d : D} (h : Bag n d) (l : n ≤ m) : Bag m d := by
  obtain ⟨a, b, k, e, h1, h2, h3, h4⟩ := h
  exact ⟨a, b, k, e, h1, h2, h3, by omega⟩
theorem pow_small (x j : Int) (h : x.natAbs < 2 ^ 1000) (h0 : 0 ≤ j) (h1 : j ≤ 100) : powOk x j = true := by
  unfold powOk
  refine decide_eq_true ⟨h0, ?_⟩
  have hb : Builtin.Int.intBits x ≤ 1000 := by
    unfold Builtin.Int.intBits
    split
    · omega
    · rename_i hz
      have hz' : x.natAbs ≠ 0 := by simpa using hz
      have := (Nat.log2_lt hz').mpr h
      omega
  have : (Builtin.Int.intBits x : Int) * j ≤ 1000 * 100 := by
    have h2 : (Builtin.Int.intBits x : Int) ≤ 1000 := by exact_mod_cast hb
    calc (Builtin.Int.intBits x : Int) * j ≤ 1000 * j := Int.mul_le_mul_of_nonneg_right h2 h0
      _ ≤ 1000 * 100 := Int.mul_le_mul_of_nonneg_left h1 (by decide)
  exact Int.le_trans this (by decide)
theorem mul_smallL (a b : Int) (h : -(2 ^ 64) < a) (h' : a < 2 ^ 64) : mulOk a b = true := by
  unfold mulOk
  exact decide_eq_true (.inl ⟨h, h'⟩)
theorem div_small (a b : Int) (h : 0 < b) (h' : b ≤ 1000000) : divOk a b = true := by
  unfold divOk
  refine decide_eq_true ⟨h, ?_⟩
  have hn : b.natAbs ≠ 0 := by omega
  have : b.natAbs < 2 ^ 20 := by omega
  have := (Nat.log2_lt hn).mpr this
  omega
@[simp] theorem ixN0 (n : Nat) : ixN (n + 1) 0 = some 0 := by
  unfold ixN
  rw [if_pos (by decide), if_pos (by omega)]
  rfl
@[simp] theorem ixN2 (n : Nat) : ixN (n + 3) 2 = some 2 := by
  unfold ixN
  rw [if_pos (by decide), if_pos (by omega)]
  rfl
theorem p38 : powD (.int 10) (.int 38) = some (.int (10 ^ 38)) := powD_int _ _ (pow_small _ _ (by decide) (by decide) (by decide))
theorem p39 : powD (.int 10) (.int 39) = some (.int (10 ^ 39)) := powD_int _ _ (pow_small _ _ (by decide) (by decide) (by decide))
theorem p37 : powD (.int 10) (.int 37) = some (.int (10 ^ 37)) := powD_int _ _ (pow_small _ _ (by decide) (by decide) (by decide))
theorem p18 : powD (.int 10) (.int 18) = some (.int (10 ^ 18)) := powD_int _ _ (pow_small _ _ (by decide) (by decide) (by decide))
theorem grab_eq {n : Nat} {d : D} (hB : Bag n d) (hn : n ≤ 1000000000000) (b : Int) (h0 : 0 < b) (h1 : b ≤ 1000000) : ∃ v d', S__law_grab [d, .int b] = .ok (.int v) [d'] ∧ 0 ≤ v ∧ v < b ∧ Bag (n + 1) d' := by
  obtain ⟨a, m, k, rfl, hm0, hm1, hk0, hk1⟩ := hB
  by_cases ha : 0 < a
  · refine ⟨a % b, .list [.int (a / b), .int m, .int k], ?_, Int.emod_nonneg _ (by omega), Int.emod_lt_of_pos _ h0, ⟨_, _, _, rfl, hm0, hm1, hk0, by omega⟩⟩
    simp [S__law_grab, T__law_grab, runF_eq, rho0, ha, modD_int _ _ h0, fdivD_int _ _ (div_small a b h0 h1)]
  · have q1 : mulD (.int 90019) (.int (k + 1)) = some (.int (90019 * (k + 1))) := mulD_int _ _ (mul_smallL _ _ (by decide) (by decide))
    have q2 : mulD (.int 1900037) (.int (k + 1)) = some (.int (1900037 * (k + 1))) := mulD_int _ _ (mul_smallL _ _ (by decide) (by decide))
    have q3 : powD (.int (m + 90019 * (k + 1))) (.int 2) = some (.int ((m + 90019 * (k + 1)) ^ 2)) := powD_int _ _ (pow_small _ _ (by omega) (by decide) (by decide))
    have q4 : ∀ x, modD (.int x) (.int (10 ^ 38 + 271)) = some (.int (x % (10 ^ 38 + 271))) := fun x => modD_int _ _ (by decide)
    have q5 : ∀ x, modD (.int x) (.int (10 ^ 39 + 331)) = some (.int (x % (10 ^ 39 + 331))) := fun x => modD_int _ _ (by decide)
    have q6 : ∀ x : Int, powD (.int (x % (10 ^ 38 + 271) + 1900037 * (k + 1))) (.int 3) = some (.int ((x % (10 ^ 38 + 271) + 1900037 * (k + 1)) ^ 3)) := fun x => powD_int _ _ (pow_small _ _ (by
      have h1 := Int.emod_nonneg x (show (10 ^ 38 + 271 : Int) ≠ 0 by decide)
      have h2 := Int.emod_lt_of_pos x (show (0 : Int) < 10 ^ 38 + 271 by decide)
      omega) (by decide) (by decide))
    have q7 : ∀ x, fdivD (.int x) (.int 8192) = some (.int (x / 8192)) := fun x => fdivD_int _ _ (div_small _ _ (by decide) (by decide))
    refine ⟨(((m + 90019 * (k + 1)) ^ 2 % (10 ^ 38 + 271) + 1900037 * (k + 1)) ^ 3 % (10 ^ 39 + 331)) / 8192 % b, .list [.int a, .int m, .int (k + 1)], ?_, Int.emod_nonneg _ (by omega), Int.emod_lt_of_pos _ h0, ⟨_, _, _, rfl, hm0, hm1, by omega, by omega⟩⟩
    simp only [Int.reducePow, Int.reduceAdd] at q4 q5 q6 ⊢
    simp [S__law_grab, T__law_grab, runF_eq, rho0, ha, p38, p39, q1, q2, q3, q4, q5, q6, q7, modD_int _ _ h0]
end K80

/-! file KP7 -/
set_option Elab.async false
set_option linter.all false
set_option autoImplicit false
set_option maxRecDepth 100000
set_option maxHeartbeats 4000000
namespace K80
open PySem PySem.Spec L2 Z
theorem bag_eq (ns : List Int) (i : Int) (h0 : 0 ≤ i) (h1 : i ≤ 100) : ∃ d, S__law_bag [.list (ns.map .int), .int i] = .ok d [] ∧ Bag 0 d := by
  have q1 : ∀ x, modD (.int x) (.int (10 ^ 37 + 163)) = some (.int (x % (10 ^ 37 + 163))) := fun x => modD_int _ _ (by decide)
  have q2 : ∀ x, mulD (.int x) (.int 89) = some (.int (x * 89)) := fun x => mulD_int _ _ (by unfold mulOk; exact decide_eq_true (.inr ⟨by decide, by decide⟩))
  have q3 : mulD (.int 71) (.int i) = some (.int (71 * i)) := mulD_int _ _ (mul_smallL _ _ (by decide) (by decide))
  have fin : ∀ cell : Int, ∃ d, Bag 0 d ∧ ∃ a : Int, d = .list [.int a, .int ((cell % (10 ^ 37 + 163)) * 89 + 71 * i + 53), .int 0] ∧ a = (if (if cell < 0 then -cell else cell) - 10 ^ 18 > 0 then (if cell < 0 then -cell else cell) - 10 ^ 18 else 0) := fun cell => by
    have hr0 := Int.emod_nonneg cell (show (10 ^ 37 + 163 : Int) ≠ 0 by decide)
    have hr1 := Int.emod_lt_of_pos cell (show (0 : Int) < 10 ^ 37 + 163 by decide)
    exact ⟨_, ⟨_, _, 0, rfl, by omega, by omega, by decide, by decide⟩, _, rfl, rfl⟩
  simp only [Int.reducePow, Int.reduceAdd] at q1 fin
  simp only [S__law_bag, T__law_bag, runF_eq, rho0]
  by_cases hl : i < ns.length
  · have e : atI (ns.map PyData.int) i = some (.int (ns[i.toNat]'(by omega))) := by
      have := Z.atI_nat (ns.map PyData.int) i.toNat
      rw [show ((i.toNat : Nat) : Int) = i by omega] at this
      rw [this, List.getElem?_map, List.getElem?_eq_getElem (by omega)]
      rfl
    obtain ⟨d, hb, x, hd, hx⟩ := fin (ns[i.toNat]'(by omega))
    refine ⟨d, ?_, hb⟩
    subst hd hx
    simp [hl, e, p18, p37, q1, q2, q3]
  · obtain ⟨d, hb, x, hd, hx⟩ := fin 0
    refine ⟨d, ?_, hb⟩
    subst hd hx
    simp [hl, p18, p37, q1, q2, q3]
def kinds : List D := [.str "keep", .str "check", .str "skip", .str "end", .str "stop", .str "keep", .str "skip"]
theorem kind_at (v : Int) (h0 : 0 ≤ v) (h1 : v < 7) : ∃ u : Use, atI kinds v = some (.str u.s) := by
  have : v = 0 ∨ v = 1 ∨ v = 2 ∨ v = 3 ∨ v = 4 ∨ v = 5 ∨ v = 6 := by omega
  rcases this with rfl | rfl | rfl | rfl | rfl | rfl | rfl
  · exact ⟨.keep, rfl⟩
  · exact ⟨.check, rfl⟩
  · exact ⟨.skip, rfl⟩
  · exact ⟨.end_, rfl⟩
  · exact ⟨.stop, rfl⟩
  · exact ⟨.keep, rfl⟩
  · exact ⟨.skip, rfl⟩
/-- tags that are drawn -/
def TgOk (base : Int) (ts : List (Int × Use)) : Prop := (∀ t ∈ ts, 0 ≤ t.1 ∧ t.1 < base) ∧ (ts.Pairwise fun a b => a.1 < b.1) ∧ ts.length ≤ 1000
structure TagsI (n : Nat) (base many : Int) (rest : List Nat) (bag : D) (ts : List (Int × Use)) : Prop where
  b : ∃ m, Bag m bag ∧ m + 2 * rest.length ≤ n + 600
  t : ∀ t ∈ ts, (0 ≤ t.1 ∧ t.1 < base) ∧ ∀ s ∈ rest, t.1 < (s : Int)
  p : ts.Pairwise fun a b => a.1 < b.1
  r : rest.Pairwise (· < ·)
  s : ∀ s ∈ rest, (s : Int) < base
  l : ts.length + rest.length ≤ 300
theorem TagsI.next {n : Nat} {base many : Int} {s : Nat} {rest : List Nat} {bag bag' : D} {ts : List (Int × Use)} (h : TagsI n base many (s :: rest) bag ts) (hb : ∃ m, Bag m bag' ∧ m + 2 * rest.length ≤ n + 600) : TagsI n base many rest bag' ts where
  b := hb
  t := fun t ht => ⟨(h.t t ht).1, fun q hq => (h.t t ht).2 q (List.mem_cons_of_mem _ hq)⟩
  p := h.p
  r := (List.pairwise_cons.mp h.r).2
  s := fun q hq => h.s q (List.mem_cons_of_mem _ hq)
  l := by have := h.l; rw [List.length_cons] at this; omega
theorem TagsI.add {n : Nat} {base many : Int} {s : Nat} {rest : List Nat} {bag bag' : D} {ts : List (Int × Use)} (h : TagsI n base many (s :: rest) bag ts) (hb : ∃ m, Bag m bag' ∧ m + 2 * rest.length ≤ n + 600) (u : Use) : TagsI n base many rest bag' (ts ++ [((s : Int), u)]) where
  b := (h.next hb).b
  t := fun t ht => by
    rcases List.mem_append.mp ht with ht | ht
    · exact (h.next hb).t t ht
    · rw [List.mem_singleton.mp ht]
      exact ⟨⟨by simp, h.s s (List.mem_cons_self ..)⟩, fun q hq => by have := (List.pairwise_cons.mp h.r).1 q hq; simp; omega⟩
  p := by
    refine List.pairwise_append.mpr ⟨h.p, List.pairwise_singleton .., fun a ha b hb => ?_⟩
    rw [List.mem_singleton.mp hb]
    exact (h.t a ha).2 s (List.mem_cons_self ..)
  r := (h.next hb).r
  s := (h.next hb).s
  l := by have := h.l; rw [List.length_cons] at this; simp; omega
theorem rng_nat (n : Int) (h0 : 0 ≤ n) (h : n ≤ 1000000) : rng1D [.int n] = some ((List.range n.toNat).map fun i : Nat => PyData.int (i : Int)) := by
  unfold rng1D rng
  have : okR 0 n = true := by unfold okR; exact decide_eq_true ⟨by decide, by omega⟩
  simp [this]
theorem drawn_tags_eq {n : Nat} {d : D} (hB : Bag n d) (hn : n + 1000 ≤ 1000000000000) (base many : Int) (h0 : 2 ≤ base) (h1 : base ≤ 256) :
    ∃ ts d', S__law_drawn_tags [d, .int base, .int many] = .ok (.tuple (ts.map tgD)) [d'] ∧ TgOk base ts ∧ Bag (n + 1000) d' := by
  simp only [S__law_drawn_tags, T__law_drawn_tags, runF_eq, rho0]
  have hloop := forT_inv (g := setG 5) (tb := ifT (andT (isB (Z.binT ltD (callO 4 lenD) (varT 2))) (isB (Z.binT ltD (callT [some 0, none] S__law_grab (ownT 0 (consT (varT 1) (nilT)))) (varT 2)))) (appT 4 (tupT (consT (varT 5) (consT (Z.binT idxD (varT 3) (callT [some 0, none] S__law_grab (ownT 0 (consT (cT (.int 7)) (nilT))))) (nilT))))) (nxT))
    (fun i : Nat => PyData.int (i : Int))
    (fun (rest : List Nat) (ρ : Rho) => ∃ bag ts x, ρ = [some bag, some (.int base), some (.int many), some (.list kinds), some (.list (ts.map tgD)), x] ∧ TagsI n base many rest bag ts)
    (fun _ => False) (fun _ _ => False) (by
      rintro s rest ρ ⟨bag, ts, x, rfl, hI⟩
      refine ⟨_, rfl, .inl ?_⟩
      obtain ⟨m, hb, hm⟩ := hI.b
      rw [List.length_cons] at hm
      have hl := hI.l
      rw [List.length_cons] at hl
      obtain ⟨v, bag1, e1, hv0, hv1, hb1⟩ := grab_eq hb (by omega) base (by omega) (by omega)
      by_cases c1 : (ts.length : Int) < many
      · by_cases c2 : v < many
        · obtain ⟨v2, bag2, e2, hw0, hw1, hb2⟩ := grab_eq hb1 (by omega) 7 (by decide) (by decide)
          obtain ⟨u, hu⟩ := kind_at v2 hw0 hw1
          refine ⟨[some bag2, some (.int base), some (.int many), some (.list kinds), some (.list ((ts ++ [((s : Int), u)]).map tgD)), some (.int (s : Int))], .inl ?_, bag2, _, _, rfl, ?_⟩
          · simp [c1, c2, e1, e2, hu, tgD]
            rw [sizeLine_eq]; omega
          · exact hI.add ⟨m + 2, hb2, by omega⟩ u
        · exact ⟨[some bag1, some (.int base), some (.int many), some (.list kinds), some (.list (ts.map tgD)), some (.int (s : Int))], .inl (by simp [c1, c2, e1]), bag1, _, _, rfl, hI.next ⟨m + 1, hb1, by omega⟩⟩
      · exact ⟨[some bag, some (.int base), some (.int many), some (.list kinds), some (.list (ts.map tgD)), some (.int (s : Int))], .inl (by simp [c1]), bag, _, _, rfl, hI.next ⟨m, hb, by omega⟩⟩)
    (List.range base.toNat) [some d, some (.int base), some (.int many), some (.list kinds), some (.list []), none]
    ⟨d, [], none, rfl, ⟨n, hB, by simp; omega⟩, (fun t h => by cases h), List.Pairwise.nil, List.pairwise_lt_range, (fun s hs => by have := List.mem_range.mp hs; omega), by simp; omega⟩
  rcases hloop with ⟨ρ', e, hI | hF⟩ | ⟨_, _, _, hF⟩
  · obtain ⟨bag, ts, x, rfl, hI⟩ := hI
    obtain ⟨m, hb, hm⟩ := hI.b
    have hl := hI.l
    simp at hm hl
    refine ⟨ts, bag, ?_, ⟨fun t h => (hI.t t h).1, hI.p, by omega⟩, hb.mono (by omega)⟩
    have ek : kinds = [.str "keep", .str "check", .str "skip", .str "end", .str "stop", .str "keep", .str "skip"] := rfl
    rw [ek] at e
    have er := rng_nat base (by omega) (by omega)
    simp [er, e]
  · exact hF.elim
  · exact hF.elim
end K80

/-! file KP8 -/
set_option Elab.async false
set_option linter.all false
set_option autoImplicit false
set_option maxRecDepth 100000
set_option maxHeartbeats 4000000
namespace K80
open PySem PySem.Spec L2 Z
theorem lcT_run {vs : List Nat} {Ti : Rho → Out Rho (List D)} {g : D → Rho → Option Rho} {tt : Rho → Out Rho Bool} {te : Rho → Out Rho D} {ρ ρ1 ρ2 : Rho} {ds l : List D} (hi : Ti ρ = .ok ds ρ1) (e : lcLoop vs g tt te ds [] ρ1 = .ok l ρ2) : lcT vs Ti g tt te ρ = .ok (.list l) (putBack ρ1 ρ2 vs) := by
  unfold lcT
  rw [hi, bind_ok, e, bindN_ok]
def HdOk (base : Int) (hs : List (Option Int)) : Prop := ∀ i, some i ∈ hs → 0 ≤ i ∧ i < base
theorem head_draw {n : Nat} {d : D} (hB : Bag n d) (base : Int) (h0 : 2 ≤ base) (h1 : base ≤ 256) (mm : Int) (hm0 : 0 ≤ mm) (hm1 : mm ≤ 100) (hn : n + 200 ≤ 1000000000000) (a b c : D) :
    ∃ hs d' k, lcLoop [10] (setG 10) yesT (ifT (isB (Z.binT eqD (callT [some 0, none] S__law_grab (ownT 0 (consT (cT (.int 3)) (nilT)))) (cT (.int 0)))) (cT .none) (callT [some 0, none] S__law_grab (ownT 0 (consT (varT 1) (nilT))))) ((List.range mm.toNat).map fun i : Nat => PyData.int (i : Int)) []
      [some d, some (.int base), some a, some b, some c, some (.int mm), none, none, none, none, none] = .ok (hs.map mkD) [some d', some (.int base), some a, some b, some c, some (.int mm), none, none, none, none, k] ∧ Bag (n + 200) d' ∧ HdOk base hs ∧ hs.length ≤ 100 := by
  obtain ⟨l, ρ', e, bag, k, hs, rfl, rfl, ⟨m, hb, hm⟩, ho, hl⟩ := lcLoop_inv (vs := [10]) (g := setG 10) (tt := yesT) (te := ifT (isB (Z.binT eqD (callT [some 0, none] S__law_grab (ownT 0 (consT (cT (.int 3)) (nilT)))) (cT (.int 0)))) (cT .none) (callT [some 0, none] S__law_grab (ownT 0 (consT (varT 1) (nilT)))))
    (fun i : Nat => PyData.int (i : Int))
    (fun rest acc ρ => ∃ bag k hs, ρ = [some bag, some (.int base), some a, some b, some c, some (.int mm), none, none, none, none, k] ∧ acc = hs.map mkD ∧ (∃ m, Bag m bag ∧ m + 2 * rest.length ≤ n + 200) ∧ HdOk base hs ∧ hs.length + rest.length ≤ 100)
    (by
      rintro s rest acc ρ ⟨bag, k, hs, rfl, rfl, ⟨m, hb, hm⟩, ho, hl⟩
      rw [List.length_cons] at hm hl
      obtain ⟨v, bag1, e1, hv0, hv1, hb1⟩ := grab_eq hb (by omega) 3 (by decide) (by decide)
      obtain ⟨v2, bag2, e2, hw0, hw1, hb2⟩ := grab_eq hb1 (by omega) base (by omega) (by omega)
      refine ⟨[some bag, some (.int base), some a, some b, some c, some (.int mm), none, none, none, none, some (.int (s : Int))], by simp [wipeR], true, [some bag, some (.int base), some a, some b, some c, some (.int mm), none, none, none, none, some (.int (s : Int))], by simp [yesT], fun _ => ?_, fun h => by cases h⟩
      by_cases hz : v = 0
      · refine ⟨.none, [some bag1, some (.int base), some a, some b, some c, some (.int mm), none, none, none, none, some (.int (s : Int))], by simp [e1, hz], by simp only [List.length_map]; rw [sizeLine_eq]; omega, bag1, _, hs ++ [none], rfl, by simp [mkD], ⟨m + 1, hb1, by omega⟩, fun i hi => ?_, by simp; omega⟩
        rcases List.mem_append.mp hi with hi | hi
        · exact ho i hi
        · simp at hi
      · refine ⟨.int v2, [some bag2, some (.int base), some a, some b, some c, some (.int mm), none, none, none, none, some (.int (s : Int))], by simp [e1, hz, e2], by simp only [List.length_map]; rw [sizeLine_eq]; omega, bag2, _, hs ++ [some v2], rfl, by simp [mkD], ⟨m + 2, hb2, by omega⟩, fun i hi => ?_, by simp; omega⟩
        rcases List.mem_append.mp hi with hi | hi
        · exact ho i hi
        · simp at hi; subst hi; exact ⟨hw0, hw1⟩)
    (List.range mm.toNat) [] [some d, some (.int base), some a, some b, some c, some (.int mm), none, none, none, none, none]
    ⟨d, none, [], rfl, rfl, ⟨n, hB, by simp; omega⟩, fun i hi => by simp at hi, by simp; omega⟩
  exact ⟨hs, bag, k, e, hb.mono (by simp at hm; omega), ho, by simp at hl; omega⟩
theorem wide_at (v : Int) (h0 : 0 ≤ v) (h1 : v < 4) : ∃ w : Wd, atI [PyData.str "one", .str "one", .str "high", .str "low"] v = some (.str w.s) := by
  have : v = 0 ∨ v = 1 ∨ v = 2 ∨ v = 3 := by omega
  rcases this with rfl | rfl | rfl | rfl
  · exact ⟨.one, rfl⟩
  · exact ⟨.one, rfl⟩
  · exact ⟨.high, rfl⟩
  · exact ⟨.low, rfl⟩
theorem rest_at (v : Int) (h0 : 0 ≤ v) (h1 : v < 2) : ∃ b : Bool, atI [PyData.str "skip", .str "refuse"] v = some (.str (if b then "skip" else "refuse")) := by
  have : v = 0 ∨ v = 1 := by omega
  rcases this with rfl | rfl
  · exact ⟨true, rfl⟩
  · exact ⟨false, rfl⟩
theorem drawn_form_eq {n : Nat} {d : D} (hB : Bag n d) (hn : n + 3000 ≤ 1000000000000) (base marks most many : Int) (h0 : 2 ≤ base) (h1 : base ≤ 256) (hk0 : 0 ≤ marks) (hk1 : marks ≤ 50) (hm0 : 0 ≤ most) (hm1 : most ≤ 100000) (hy0 : 0 ≤ many) (hy1 : many ≤ 1000) :
    ∃ f d', S__law_drawn_form [d, .int base, .int marks, .int most, .int many] = .ok (Fmt.d f) [d'] ∧ f.Ok ∧ f.most ≤ most ∧ f.head.length ≤ 100 ∧ Bag (n + 3000) d' := by
  simp only [S__law_drawn_form, T__law_drawn_form, runF_eq, rho0]
  obtain ⟨mm, d1, e1, a0, a1, b1⟩ := grab_eq hB (by omega) (marks + 1) (by omega) (by omega)
  obtain ⟨hs, d2, k, e2, b2, ho, hl⟩ := head_draw b1 base h0 h1 mm (by omega) (by omega) (by omega) (.int marks) (.int most) (.int many)
  obtain ⟨v3, d3, e3, c0, c1, b3⟩ := grab_eq b2 (by omega) 4 (by decide) (by decide)
  obtain ⟨w, ew⟩ := wide_at v3 c0 c1
  obtain ⟨top, d4, e4, t0, t1, b4⟩ := grab_eq b3 (by omega) (most + 1) (by omega) (by omega)
  obtain ⟨mt, d5, e5, u0, u1, b5⟩ := grab_eq b4 (by omega) (many + 1) (by omega) (by omega)
  obtain ⟨ts, d6, e6, ht, b6⟩ := drawn_tags_eq b5 (by omega) base mt h0 h1
  obtain ⟨v7, d7, e7, x0, x1, b7⟩ := grab_eq b6 (by omega) 2 (by decide) (by decide)
  obtain ⟨r, er⟩ := rest_at v7 x0 x1
  have rg := rng_nat mm (by omega) (by omega)
  have lc := lcT_run (vs := [10]) (Ti := rngT rng1D (consT (varT 5) (nilT))) (ρ := [some d1, some (.int base), some (.int marks), some (.int most), some (.int many), some (.int mm), none, none, none, none, none]) (by simp [rg]) e2
  refine ⟨⟨base, hs, w, top, ts, r⟩, d7, ?_, ⟨h0, h1, ho, by simp; omega, t0, ht.1, ht.2.1, ht.2.2⟩, by simp; omega, hl, b7.mono (by omega)⟩
  simp [e1, lc, putBack, e3, ew, e4, e5, e6, e7, er, Fmt.d]
theorem wide_form_eq {n : Nat} {d : D} (hB : Bag n d) (hn : n + 4000 ≤ 1000000000000) : ∃ f d', S__law_wide_form [d] = .ok (Fmt.d f) [d'] ∧ f.Ok ∧ f.most ≤ 65535 ∧ f.head.length ≤ 100 ∧ Bag (n + 4000) d' := by
  simp only [S__law_wide_form, T__law_wide_form, runF_eq, rho0]
  obtain ⟨v1, d1, e1, a0, a1, b1⟩ := grab_eq hB (by omega) 255 (by decide) (by decide)
  obtain ⟨v2, d2, e2, c0, c1, b2⟩ := grab_eq b1 (by omega) 7 (by decide) (by decide)
  have hb : ∃ base : Int, atI [PyData.int 2, .int 3, .int 4, .int 5, .int 16, .int 256, .int (2 + v1)] v2 = some (.int base) ∧ 2 ≤ base ∧ base ≤ 256 := by
    have : v2 = 0 ∨ v2 = 1 ∨ v2 = 2 ∨ v2 = 3 ∨ v2 = 4 ∨ v2 = 5 ∨ v2 = 6 := by omega
    rcases this with rfl | rfl | rfl | rfl | rfl | rfl | rfl
    · exact ⟨2, rfl, by decide, by decide⟩
    · exact ⟨3, rfl, by decide, by decide⟩
    · exact ⟨4, rfl, by decide, by decide⟩
    · exact ⟨5, rfl, by decide, by decide⟩
    · exact ⟨16, rfl, by decide, by decide⟩
    · exact ⟨256, rfl, by decide, by decide⟩
    · exact ⟨2 + v1, rfl, by omega, by omega⟩
  obtain ⟨base, eb, hb0, hb1⟩ := hb
  obtain ⟨v3, d3, e3, f0, f1, b3⟩ := grab_eq b2 (by omega) 4 (by decide) (by decide)
  have ht : ∃ top : Int, atI [PyData.int 3, .int 9, .int 40, .int 65535] v3 = some (.int top) ∧ 0 ≤ top ∧ top ≤ 65535 := by
    have : v3 = 0 ∨ v3 = 1 ∨ v3 = 2 ∨ v3 = 3 := by omega
    rcases this with rfl | rfl | rfl | rfl
    · exact ⟨3, rfl, by decide, by decide⟩
    · exact ⟨9, rfl, by decide, by decide⟩
    · exact ⟨40, rfl, by decide, by decide⟩
    · exact ⟨65535, rfl, by decide, by decide⟩
  obtain ⟨top, et, ht0, ht1⟩ := ht
  obtain ⟨v4, d4, e4, g0, g1, b4⟩ := grab_eq b3 (by omega) 2 (by decide) (by decide)
  obtain ⟨v5, d5, e5, k0, k1, b5⟩ := grab_eq b4 (by omega) 2 (by decide) (by decide)
  have h2 : ∀ v : Int, 0 ≤ v → v < 2 → ∃ x : Int, atI [PyData.int 4, .int 20] v = some (.int x) ∧ 0 ≤ x ∧ x ≤ 20 := fun v h0 h1 => by
    have : v = 0 ∨ v = 1 := by omega
    rcases this with rfl | rfl
    · exact ⟨4, rfl, by decide, by decide⟩
    · exact ⟨20, rfl, by decide, by decide⟩
  obtain ⟨x4, ex4, p0, p1⟩ := h2 v4 g0 g1
  obtain ⟨x5, ex5, q0, q1⟩ := h2 v5 k0 k1
  obtain ⟨f, d6, e6, hf, hm, hh, b6⟩ := drawn_form_eq b5 (by omega) base x4 top x5 hb0 hb1 p0 (by omega) ht0 (by omega) q0 (by omega)
  refine ⟨f, d6, ?_, hf, by omega, hh, b6.mono (by omega)⟩
  simp [e1, e2, eb, e3, et, e4, ex4, e5, ex5, e6]
theorem law_longest_eq {f : Fmt} (h : f.Ok) : S__law_longest [f.d] = .ok (.int (longest f)) [] := by
  simp only [S__law_longest, T__law_longest, runF_eq, rho0]
  simp [wd_one, h.mul, longest]
  cases f.width <;> simp <;> (rw [Int.min_def]; split <;> split <;> first | rfl | omega | (congr 1; omega))
end K80

/-! file KP9 -/
set_option Elab.async false
set_option linter.all false
set_option autoImplicit false
set_option maxRecDepth 100000
set_option maxHeartbeats 4000000
namespace K80
open PySem PySem.Spec L2 Z
theorem use_mem {f : Fmt} (h : f.Ok) {t : Int × Use} (ht : t ∈ f.tags) : use f t.1 = some t.2 := by
  unfold use
  have : ∀ ts : List (Int × Use), (ts.Pairwise fun a b => a.1 < b.1) → t ∈ ts → ts.find? (fun x => decide (x.1 = t.1)) = some t := by
    intro ts
    induction ts with
    | nil => intro _ h; cases h
    | cons a ts ih =>
      intro hp hm
      rw [List.find?_cons]
      rcases List.mem_cons.mp hm with rfl | hm
      · simp
      · have := (List.pairwise_cons.mp hp).1 t hm
        rw [decide_eq_false (by omega)]
        exact ih (List.pairwise_cons.mp hp).2 hm
  rw [this f.tags h.so ht]
theorem longest_nonneg {f : Fmt} (h : f.Ok) : 0 ≤ longest f := by
  have := h.b2
  have := h.m0
  unfold longest
  have : 2 * 2 ≤ f.base * f.base := Int.mul_le_mul (by omega) (by omega) (by decide) (by omega)
  split <;> omega
theorem body_draw {f : Fmt} (h : f.Ok) {n : Nat} {d : D} (hB : Bag n d) (size : Int) (hs0 : 0 ≤ size) (hs1 : size ≤ 1000) (hn : n + 1000 ≤ 1000000000000) (a b c e g i j k : Option D) :
    ∃ (l : List Int) (d' : D) (x : Option D), lcLoop [11] (setG 11) yesT (callT [some 0, none] S__law_grab (ownT 0 (consT (Z.binT idxD (varT 1) (cT (.int 0))) (nilT)))) ((List.range size.toNat).map fun i : Nat => PyData.int (i : Int)) []
      [some d, some f.d, a, b, c, e, g, i, j, k, none, none] = .ok (l.map .int) [some d', some f.d, a, b, c, e, g, i, j, k, none, x] ∧ Bag (n + size.toNat) d' ∧ (∀ s ∈ l, 0 ≤ s ∧ s < f.base) ∧ l.length = size.toNat := by
  have hb2 := h.b2
  have hb3 := h.b256
  obtain ⟨l, ρ', er, bag, x, xs, rfl, rfl, ⟨m, hb, hm⟩, ho, hl⟩ := lcLoop_inv (vs := [11]) (g := setG 11) (tt := yesT) (te := callT [some 0, none] S__law_grab (ownT 0 (consT (Z.binT idxD (varT 1) (cT (.int 0))) (nilT))))
    (fun i : Nat => PyData.int (i : Int))
    (fun rest acc ρ => ∃ bag x xs, ρ = [some bag, some f.d, a, b, c, e, g, i, j, k, none, x] ∧ acc = xs.map .int ∧ (∃ m, Bag m bag ∧ m + rest.length ≤ n + size.toNat) ∧ (∀ s ∈ xs, 0 ≤ s ∧ s < f.base) ∧ xs.length + rest.length = size.toNat)
    (by
      rintro s rest acc ρ ⟨bag, x, xs, rfl, rfl, ⟨m, hb, hm⟩, ho, hl⟩
      rw [List.length_cons] at hm hl
      obtain ⟨v, bag1, e1, hv0, hv1, hb1⟩ := grab_eq hb (by omega) f.base (by omega) (by omega)
      refine ⟨[some bag, some f.d, a, b, c, e, g, i, j, k, none, some (.int (s : Int))], by simp [wipeR], true, [some bag, some f.d, a, b, c, e, g, i, j, k, none, some (.int (s : Int))], by simp [yesT], fun _ => ?_, fun h => by cases h⟩
      refine ⟨.int v, [some bag1, some f.d, a, b, c, e, g, i, j, k, none, some (.int (s : Int))], by simp [e1], by simp only [List.length_map]; rw [sizeLine_eq]; omega, bag1, _, xs ++ [v], rfl, by simp, ⟨m + 1, hb1, by omega⟩, fun q hq => ?_, by simp; omega⟩
      rcases List.mem_append.mp hq with hq | hq
      · exact ho q hq
      · rw [List.mem_singleton.mp hq]; exact ⟨hv0, hv1⟩)
    (List.range size.toNat) [] [some d, some f.d, a, b, c, e, g, i, j, k, none, none]
    ⟨d, none, [], rfl, rfl, ⟨n, hB, by simp⟩, (fun q hq => by cases hq), by simp⟩
  exact ⟨xs, bag, x, er, hb.mono (by simp at hm; omega), ho, by simpa using hl⟩
theorem lists_ne (l : List D) (h : PyData.canLayAll0 l = true) : neD (.list l) (.list []) = some (.bool (!l.isEmpty)) := by
  cases l <;> simp [neD, okCmp, PyData.canLay0, PyData.canLayAll0, PyData.depth, PyData.depthAll, PyData.eqv, PyData.eqvAll] at h ⊢
  exact h
theorem lay_tg : ∀ l : List (Int × Use), PyData.canLayAll0 (l.map tgD) = true
  | [] => rfl
  | t :: l => by simp [PyData.canLayAll0, PyData.canLay0, tgD, use_ok, lay_tg l]
def isTold (t : Int × Use) : Bool := decide (t.2 = .keep ∨ t.2 = .check)
theorem content_eq {f : Fmt} (h : f.Ok) {n : Nat} {d : D} (hB : Bag n d) (hn : n + 7000 ≤ 1000000000000) (many most : Int) (hm0 : 0 ≤ many) (hm1 : many ≤ 20) (hs0 : 0 ≤ most) (hs1 : most ≤ 100) :
    ∃ c d', S__law_content [d, f.d, .int many, .int most] = .ok (coD c) [d'] ∧ ConOk f c ∧ c.length ≤ 20 ∧ (∀ p ∈ c, p.2.length ≤ 100) ∧ Bag (n + 5000) d' := by
  simp only [S__law_content, T__law_content, runF_eq, rho0]
  have tl := h.tl
  have hb2 := h.b2
  have hb3 := h.b256
  have hlg := longest_nonneg h
  have lc := lcT_pure (vs := [10]) (Ti := seqT (Z.binT idxD (varT 1) (cT (.int 4)))) (g := setG 10) (tt := isB (Z.binT inD (Z.binT idxD (varT 10) (cT (.int 1))) (tupT (consT (cT (.str ("keep" : Str))) (consT (cT (.str ("check" : Str))) (nilT)))))) (te := varT 10)
    (ρ := [some d, some f.d, some (.int many), some (.int most), none, none, none, none, none, none, none, none]) (ρ1 := [some d, some f.d, some (.int many), some (.int most), none, none, none, none, none, none, none, none])
    f.tags tgD isTold tgD (fun t => [some d, some f.d, some (.int many), some (.int most), none, none, none, none, none, none, some (tgD t), none])
    (by simp) (fun t _ => by
      have e4 : idxD (tgD t) (.int 1) = some (.str t.2.s) := by simp [tgD]
      simp [wipeR, e4, inTold, isTold]) (by simp; omega)
  obtain ⟨rs, hrs⟩ : ∃ rs, rs = f.tags.filter isTold := ⟨_, rfl⟩
  rw [← hrs] at lc
  have rsl : rs.length ≤ 1000 := by rw [hrs]; exact Nat.le_trans (List.length_filter_le ..) tl
  have rst : ∀ t ∈ rs, (0 ≤ t.1 ∧ t.1 < f.base) ∧ useTold (use f t.1) = true := fun t ht => by
    rw [hrs] at ht
    obtain ⟨h1, h2⟩ := List.mem_filter.mp ht
    refine ⟨h.tg t h1, ?_⟩
    rw [use_mem h h1]
    unfold isTold at h2
    rcases of_decide_eq_true h2 with e | e <;> rw [e] <;> rfl
  obtain ⟨gm, d1, e1, a0, a1, b1⟩ := grab_eq hB (by omega) (many + 1) (by omega) (by omega)
  have ne := lists_ne (rs.map tgD) (lay_tg rs)
  obtain ⟨cnt, hcnt⟩ : ∃ cnt : Int, cnt = gm * (if rs = [] then 0 else 1) := ⟨_, rfl⟩
  have hc0 : 0 ≤ cnt := by rw [hcnt]; split <;> omega
  have hc1 : cnt ≤ 20 := by rw [hcnt]; split <;> omega
  have hcr : rs = [] → cnt = 0 := fun e => by rw [hcnt, if_pos e]; omega
  have rg := rng_nat cnt hc0 (by omega)
  have em : mulD (.int gm) (.int (if rs = [] then 0 else 1)) = some (.int cnt) := by
    rw [hcnt]
    exact mulD_int _ _ (by unfold mulOk; exact decide_eq_true (.inr ⟨by split <;> decide, by split <;> decide⟩))
  have hloop := forT_inv (g := setG 6) (tb := sqT (asgT 7 (callB minD (consT (callT [none] S__law_longest (consT (varT 1) (nilT))) (consT (varT 3) (nilT))))) (sqT (asgT 8 (Z.binT idxD (lstT (consT (callT [some 0, none] S__law_grab (ownT 0 (consT (Z.binT addD (varT 7) (cT (.int 1))) (nilT)))) (consT (callT [some 0, none] S__law_grab (ownT 0 (consT (Z.binT addD (callB minD (consT (varT 7) (consT (cT (.int 2)) (nilT)))) (cT (.int 1))) (nilT)))) (nilT)))) (callT [some 0, none] S__law_grab (ownT 0 (consT (cT (.int 2)) (nilT)))))) (sqT (asgT 9 (callB tupC (consT (lcT [11] (rngT rng1D (consT (varT 8) (nilT))) (setG 11) (yesT) (callT [some 0, none] S__law_grab (ownT 0 (consT (Z.binT idxD (varT 1) (cT (.int 0))) (nilT))))) (nilT)))) (appT 5 (tupT (consT (Z.binT idxD (binO 4 idxD (callT [some 0, none] S__law_grab (ownT 0 (consT (callO 4 lenD) (nilT))))) (cT (.int 0))) (consT (varT 9) (nilT))))))))
    (fun i : Nat => PyData.int (i : Int))
    (fun (rest : List Nat) (ρ : Rho) => ∃ bag c x y z q, ρ = [some bag, some f.d, some (.int many), some (.int most), some (.list (rs.map tgD)), some (.list (c.map chD)), x, y, z, q, none, none] ∧ (∃ m, Bag m bag ∧ m + 200 * rest.length ≤ n + 4500) ∧ ConOk f c ∧ (∀ p ∈ c, p.2.length ≤ 100) ∧ c.length + rest.length ≤ 20 ∧ (rest ≠ [] → rs ≠ []))
    (fun _ => False) (fun _ _ => False) (by
      rintro s rest ρ ⟨bag, c, x, y, z, q, rfl, ⟨m, hb, hm⟩, hc, hq, hl, hr⟩
      have hne := hr (by simp)
      rw [List.length_cons] at hm hl
      have hlen : 0 < rs.length := List.length_pos_iff.mpr hne
      refine ⟨_, rfl, .inl ?_⟩
      obtain ⟨top, htop⟩ : ∃ top : Int, top = (if most < longest f then most else longest f) := ⟨_, rfl⟩
      have ht0 : 0 ≤ top := by rw [htop]; split <;> omega
      have ht1 : top ≤ 100 ∧ top ≤ longest f := by rw [htop]; split <;> omega
      obtain ⟨t2, ht2⟩ : ∃ t2 : Int, t2 = (if 2 < top then 2 else top) := ⟨_, rfl⟩
      have ht20 : 0 ≤ t2 ∧ t2 ≤ top := by rw [ht2]; split <;> omega
      obtain ⟨v1, g1, w1, c0, c1, k1⟩ := grab_eq hb (by omega) (top + 1) (by omega) (by omega)
      obtain ⟨v2, g2, w2, f0, f1, k2⟩ := grab_eq k1 (by omega) (t2 + 1) (by omega) (by omega)
      obtain ⟨v3, g3, w3, p0, p1, k3⟩ := grab_eq k2 (by omega) 2 (by decide) (by decide)
      have hz : ∃ size : Int, atI [PyData.int v1, .int v2] v3 = some (.int size) ∧ 0 ≤ size ∧ size ≤ top := by
        have : v3 = 0 ∨ v3 = 1 := by omega
        rcases this with rfl | rfl
        · exact ⟨v1, rfl, c0, by omega⟩
        · exact ⟨v2, rfl, f0, by omega⟩
      obtain ⟨size, ez, z0, z1⟩ := hz
      obtain ⟨l, g4, xx, w4, k4, hl4, hll⟩ := body_draw h k3 size z0 (by omega) (by omega) (some (.int many)) (some (.int most)) (some (.list (rs.map tgD))) (some (.list (c.map chD))) (some (.int (s : Int))) (some (.int top)) (some (.int size)) q
      have rgs := rng_nat size z0 (by omega)
      have lcb := lcT_run (vs := [11]) (Ti := rngT rng1D (consT (varT 8) (nilT))) (ρ := [some g3, some f.d, some (.int many), some (.int most), some (.list (rs.map tgD)), some (.list (c.map chD)), some (.int (s : Int)), some (.int top), some (.int size), q, none, none]) (by simp [rgs]) w4
      obtain ⟨v5, g5, w5, y0, y1, k5⟩ := grab_eq k4 (by omega) (rs.length : Int) (by omega) (by omega)
      have hv5 : v5.toNat < rs.length := by omega
      have e5 : atI (rs.map tgD) v5 = some (tgD rs[v5.toNat]) := by
        have := Z.atI_nat (rs.map tgD) v5.toNat
        rw [show ((v5.toNat : Nat) : Int) = v5 by omega] at this
        rw [this, List.getElem?_map, List.getElem?_eq_getElem hv5]; rfl
      have e6 : idxD (tgD rs[v5.toNat]) (.int 0) = some (.int rs[v5.toNat].1) := rfl
      have hin := rst _ (List.getElem_mem hv5)
      refine ⟨[some g5, some f.d, some (.int many), some (.int most), some (.list (rs.map tgD)), some (.list ((c ++ [(rs[v5.toNat].1, l)]).map chD)), some (.int (s : Int)), some (.int top), some (.int size), some (sgD l), none, none], .inl ?_, g5, _, _, _, _, _, rfl, ⟨m + 200, k5.mono (by omega), by omega⟩, ⟨?_, ?_⟩, ?_, by simp; omega, fun hh => hne⟩
      · simp [law_longest_eq h, ← htop, w1, ← ht2, w2, w3, ez, lcb, putBack, w5, e5, e6, chD, sgD]
        rw [sizeLine_eq]; omega
      · simp; omega
      · intro p hp
        rcases List.mem_append.mp hp with hp | hp
        · exact hc.t p hp
        · rw [List.mem_singleton.mp hp]
          refine ⟨hin.1, hin.2, ?_, ?_, hl4⟩
          · simp only; omega
          · simp only; omega
      · intro p hp
        rcases List.mem_append.mp hp with hp | hp
        · exact hq p hp
        · rw [List.mem_singleton.mp hp]; simp only; omega)
    (List.range cnt.toNat) [some d1, some f.d, some (.int many), some (.int most), some (.list (rs.map tgD)), some (.list []), none, none, none, none, none, none]
    ⟨d1, [], none, none, none, none, rfl, ⟨n + 1, b1, by simp; omega⟩, ⟨by simp, fun p hp => by cases hp⟩, (fun p hp => by cases hp), by simp; omega, fun hh hz => by
      rw [hcr hz] at hh
      exact hh rfl⟩
  rcases hloop with ⟨ρ', e, hI | hF⟩ | ⟨_, _, _, hF⟩
  · obtain ⟨bag, c, x, y, z, q, rfl, ⟨m, hb, hm⟩, hc, hq, hl, _⟩ := hI
    refine ⟨c, bag, ?_, hc, by simpa using hl, hq, hb.mono (by simp at hm; omega)⟩
    have em' : mulD (.int gm) (.int (if rs = [] then 0 else 1)) = some (.int cnt) := em
    simp [lc, e1, ne]
    by_cases hz : rs = []
    · simp [hz] at em e ⊢
      simp [em, rg, e, coD]
    · simp [hz] at em e ⊢
      simp [em, rg, e, coD]
  · exact hF.elim
  · exact hF.elim
end K80

/-! file KP10 -/
set_option Elab.async false
set_option linter.all false
set_option autoImplicit false
set_option maxRecDepth 100000
set_option maxHeartbeats 4000000
namespace K80
open PySem PySem.Spec L2 Z
/-! ### alike -/
theorem eq_int (n : Nat) (i : Int) : S__law_equal (n + 1) [.int i, .int i] = .ok (.bool true) [] := by
  simp [S__law_equal, T__law_equal, runF_eq, rho0, subTy, isi2D, tyD]
theorem eq_none (n : Nat) : S__law_equal (n + 1) [.none, .none] = .ok (.bool true) [] := by
  have e : eqD .none .none = some (.bool true) := by simp [eqD, okCmp, PyData.canLay0, PyData.depth, PyData.eqv]
  simp [S__law_equal, T__law_equal, runF_eq, rho0, subTy, isi2D, tyD, e]
theorem eq_str (n : Nat) (s : Str) (h : PyData.strOk s = true) : S__law_equal (n + 1) [.str s, .str s] = .ok (.bool true) [] := by
  simp [S__law_equal, T__law_equal, runF_eq, rho0, subTy, isi2D, tyD, eqD_strT s s h h rfl]
theorem eq_nil : eqD (.list []) (.list []) = some (.bool true) := by simp [eqD, okCmp, PyData.canLay0, PyData.canLayAll0, PyData.depth, PyData.depthAll, PyData.eqv, PyData.eqvAll]
theorem rngT_len {i : Nat} {y : D} {n : Int} {l : List D} {ρ : Rho} (hρ : getS i ρ = some y) (hy : lenD [y] = some (.int n)) (rg : rng1D [.int n] = some l) : rngT rng1D (consT (callB lenD (consT (varT i) (nilT))) (nilT)) ρ = .ok l ρ := by
  simp [hρ, hy, rg]
theorem eq_lc (n : Nat) (x y : D) (ds : List D) (hx : ∀ i, idxD x (.int i) = atI ds i) (hy : lenD [y] = some (.int ds.length)) (hxy : x = y) (hl : ds.length ≤ 1000000) (h : ∀ d ∈ ds, S__law_equal n [d, d] = .ok (.bool true) []) :
    lcT [2] (rngT rng1D (consT (callB lenD (consT (varT 1) (nilT))) (nilT))) (setG 2) (notT (isB (callT [none, none] (S__law_equal n) (consT (Z.binT idxD (varT 0) (varT 2)) (consT (Z.binT idxD (varT 1) (varT 2)) (nilT)))))) (varT 2) [some x, some y, none] = .ok (.list []) [some x, some y, none] := by
  subst hxy
  have rg : rng1D [.int (ds.length : Int)] = some ((List.range ds.length).map fun i : Nat => PyData.int (i : Int)) := by
    have := rng_nat (ds.length : Int) (by omega) (by omega)
    rwa [Int.toNat_natCast] at this
  have lc := lcT_pure (vs := [2]) (Ti := rngT rng1D (consT (callB lenD (consT (varT 1) (nilT))) (nilT))) (g := setG 2) (tt := notT (isB (callT [none, none] (S__law_equal n) (consT (Z.binT idxD (varT 0) (varT 2)) (consT (Z.binT idxD (varT 1) (varT 2)) (nilT)))))) (te := varT 2)
    (ρ := [some x, some x, none]) (ρ1 := [some x, some x, none]) (List.range ds.length) (fun i : Nat => PyData.int (i : Int)) (fun _ => false) (fun i => .int i) (fun i => [some x, some x, some (.int (i : Int))])
    (rngT_len rfl hy rg) (fun i hi => by
      have hi' := List.mem_range.mp hi
      have e : atI ds (i : Int) = some ds[i] := by rw [Z.atI_nat]; exact List.getElem?_eq_getElem hi'
      simp [wipeR, hx, e, h _ (List.getElem_mem hi')]) (by simp; omega)
  rw [lc]
  simp
theorem eq_gen (S : List D → Out (List D) D) (t : D) (ll tl sl il : Bool) (m : Int) (hb : isiD "bool" t = some (.bool false)) (hll : isiD "list" t = some (.bool ll)) (htl : isiD "tuple" t = some (.bool tl)) (hs : isiD "str" t = some (.bool sl)) (hi : isiD "int" t = some (.bool il)) (h2 : isi2D "list" "tuple" t = some (.bool true)) (hm : lenD [t] = some (.int m))
    (lc : lcT [2] (rngT rng1D (consT (callB lenD (consT (varT 1) (nilT))) (nilT))) (setG 2) (notT (isB (callT [none, none] S (consT (Z.binT idxD (varT 0) (varT 2)) (consT (Z.binT idxD (varT 1) (varT 2)) (nilT)))))) (varT 2) [some t, some t, none] = .ok (.list []) [some t, some t, none]) : endK [] (T__law_equal S [some t, some t, none]) = .ok (.bool true) [] := by
  unfold T__law_equal
  simp [hb, hll, htl, hs, hi, h2, hm, lc, eq_nil]
theorem eq_tuple (n : Nat) (ds : List D) (hl : ds.length ≤ 1000000) (h : ∀ d ∈ ds, S__law_equal n [d, d] = .ok (.bool true) []) : S__law_equal (n + 1) [.tuple ds, .tuple ds] = .ok (.bool true) [] := by
  have lc := eq_lc n (.tuple ds) (.tuple ds) ds (fun i => rfl) rfl rfl hl h
  have g := eq_gen (S__law_equal n) (.tuple ds) false true false false ds.length rfl rfl rfl rfl rfl rfl rfl lc
  rw [S__law_equal, runF_eq]
  exact g
theorem eq_list (n : Nat) (ds : List D) (hl : ds.length ≤ 1000000) (h : ∀ d ∈ ds, S__law_equal n [d, d] = .ok (.bool true) []) : S__law_equal (n + 1) [.list ds, .list ds] = .ok (.bool true) [] := by
  have lc := eq_lc n (.list ds) (.list ds) ds (fun i => rfl) rfl rfl hl h
  have g := eq_gen (S__law_equal n) (.list ds) true false false false ds.length rfl rfl rfl rfl rfl rfl rfl lc
  rw [S__law_equal, runF_eq]
  exact g
theorem eq_sg (n : Nat) (l : List Int) (hl : l.length ≤ 1000000) : S__law_equal (n + 2) [sgD l, sgD l] = .ok (.bool true) [] :=
  eq_tuple (n + 1) _ (by simpa using hl) fun d hd => by
    obtain ⟨i, _, rfl⟩ := List.mem_map.mp hd
    exact eq_int n i
theorem eq_co (n : Nat) (c : Cont) (hl : c.length ≤ 1000000) (hb : ∀ p ∈ c, p.2.length ≤ 1000000) : S__law_equal (n + 4) [coD c, coD c] = .ok (.bool true) [] :=
  eq_tuple (n + 3) _ (by simpa using hl) fun d hd => by
    obtain ⟨p, hp, rfl⟩ := List.mem_map.mp hd
    refine eq_tuple (n + 2) _ (by simp) fun e he => ?_
    rcases List.mem_cons.mp he with rfl | he
    · exact eq_int (n + 1) p.1
    · rw [List.mem_singleton.mp he]; exact eq_sg n p.2 (hb p hp)
theorem eq_co_none (c : Cont) (hl : c.length ≤ 1000000) (hb : ∀ p ∈ c, p.2.length ≤ 1000000) : S__law_equal 12 [.list [coD c, .none], .list [coD c, .none]] = .ok (.bool true) [] :=
  eq_list 11 _ (by simp) fun d hd => by
    rcases List.mem_cons.mp hd with rfl | hd
    · exact eq_co 7 c hl hb
    · rw [List.mem_singleton.mp hd]; exact eq_none 10
theorem eq_co_sg (c : Cont) (l : List Int) (hl : c.length ≤ 1000000) (hb : ∀ p ∈ c, p.2.length ≤ 1000000) (h : l.length ≤ 1000000) : S__law_equal 12 [.list [coD c, sgD l], .list [coD c, sgD l]] = .ok (.bool true) [] :=
  eq_list 11 _ (by simp) fun d hd => by
    rcases List.mem_cons.mp hd with rfl | hd
    · exact eq_co 7 c hl hb
    · rw [List.mem_singleton.mp hd]; exact eq_sg 9 l h
theorem eq_co_done (c : Cont) (hl : c.length ≤ 1000000) (hb : ∀ p ∈ c, p.2.length ≤ 1000000) : S__law_equal 12 [.tuple [coD c, .str "done"], .tuple [coD c, .str "done"]] = .ok (.bool true) [] :=
  eq_tuple 11 _ (by simp) fun d hd => by
    rcases List.mem_cons.mp hd with rfl | hd
    · exact eq_co 7 c hl hb
    · rw [List.mem_singleton.mp hd]; exact eq_str 10 _ (by decide +kernel)
/-! ### a live reader -/
@[simp] theorem getF_eq (f : Str) (g : Str) (d : D) (r : List (D × D)) : getF f ((.str g, d) :: r) = if g = f then some d else getF f r := rfl
@[simp] theorem putD_nil (f : Str) (d : D) : putD f d [] = [(.str f, d)] := rfl
@[simp] theorem putD_eq (f : Str) (d : D) (g : Str) (e : D) (r : List (D × D)) : putD f d ((.str g, e) :: r) = if g = f then (.str g, d) :: r else (.str g, e) :: putD f d r := rfl
@[simp] theorem n_own_taken : (Str.ofString "own_form" = Str.ofString "taken") = False := eq_false (by decide +kernel)
@[simp] theorem n_taken_own : (Str.ofString "taken" = Str.ofString "own_form") = False := eq_false (by decide +kernel)
def rdD (f : Fmt) (l : List Int) : D := .dict [(.str "own_form", f.d), (.str "taken", sgD l)]
theorem reader_init {f : Fmt} (h : f.Ok) : S_Reader___init__ [.dict [], f.d] = .ok .none [rdD f []] := by
  simp [S_Reader___init__, T_Reader___init__, runF_eq, rho0, check_format_eq h, rdD, sgD]
theorem reader_stand {f : Fmt} (h : f.Ok) {l : List Int} {st : Std} {c : Cont} (r : Run f (first f) [] l st c) : S_Reader_stand [rdD f l] = .ok st.d [rdD f l] := by
  simp [S_Reader_stand, T_Reader_stand, runF_eq, rho0, rdD, first_stand_eq, stand_from_eq h r]
theorem reader_told {f : Fmt} (h : f.Ok) {l : List Int} {st : Std} {c : Cont} (r : Run f (first f) [] l st c) (hl : l.length ≤ 1000000) : S_Reader_told [rdD f l] = .ok (coD c) [rdD f l] := by
  simp [S_Reader_told, T_Reader_told, runF_eq, rho0, rdD, told_in_eq h r hl]
theorem reader_call {f : Fmt} (h : f.Ok) {l : List Int} {st st' : Std} {c : Cont} (r : Run f (first f) [] l st c) {s : Int} (hs : 0 ≤ s ∧ s < f.base) (e : step f st s = some st') (hl : l.length ≤ 1000000) :
    S_Reader___call__ [rdD f l, .int s] = .ok (.str (if ending f st' then "done" else "open")) [rdD f (l ++ [s])] := by
  have hin := r.in_ (first_in f)
  have rs := reader_stand h r
  simp only [rdD] at rs
  simp [S_Reader___call__, T_Reader___call__, runF_eq, rho0, rdD, is_sign_int, hs, rs, step_eq h st hin, e, stD, nonD, sgD_items, is_ending_eq h]
  rw [if_pos (by omega)]
  cases ending f st' <;> simp [sgD]
theorem Run.split {f : Fmt} {st st2 : Std} {c c2 : Cont} {l : List Int} {s : Int} (r : Run f st c (s :: l) st2 c2) : ∃ st1, step f st s = some st1 ∧ Run f st c [s] st1 (toldAt f st s c) ∧ Run f st1 (toldAt f st s c) l st2 c2 := by
  cases r with
  | cons h hn r => exact ⟨_, h, Run.one h hn, r⟩
theorem live_loop {f : Fmt} (h : f.Ok) : ∀ (l pre : List Int) (st st' : Std) (c c' : Cont) (F : D) (w x : Option D), Run f (first f) [] pre st c → Run f st c l st' c' → (∀ s ∈ l, 0 ≤ s ∧ s < f.base) → pre.length + l.length ≤ 1000000 →
    ∃ x', forT (setG 4) (asgT 3 (callQ [some 2, none] S_Reader___call__ (ownT 2 (consT (varT 4) (nilT))))) (l.map .int) [some f.d, some F, some (rdD f pre), w, x] = .ok .nx [some f.d, some F, some (rdD f (pre ++ l)), (if l = [] then w else some (.str (if ending f st' then "done" else "open"))), x']
  | [], pre, st, st', c, c', F, w, x, _, _, _, _ => ⟨x, by simp⟩
  | s :: l, pre, st, st', c, c', F, w, x, r0, r, hs, hl => by
    obtain ⟨st1, e1, r1, r2⟩ := r.split
    rw [List.length_cons] at hl
    have call := reader_call h r0 (hs s (List.mem_cons_self ..)) e1 (by omega)
    cases l with
    | nil =>
      refine ⟨some (.int s), ?_⟩
      cases r2
      rw [List.map_cons, forT_cons]
      cases hw : w <;> simp [call]
    | cons s2 l =>
      obtain ⟨x', e⟩ := live_loop h (s2 :: l) (pre ++ [s]) st1 st' _ c' F (some (.str (if ending f st1 then "done" else "open"))) (some (.int s)) (r0.trans r1) r2 (fun q hq => hs q (List.mem_cons_of_mem _ hq)) (by simp at hl ⊢; omega)
      refine ⟨x', ?_⟩
      rw [List.map_cons, forT_cons]
      simp at e
      cases hw : w <;> simp [call, e]
theorem live_told_eq {f : Fmt} (h : f.Ok) {F : File} (hF : FileOk f F) (hs : SgOk f (F.signs f)) (hne : F.signs f ≠ []) : S__law_live_told [f.d, sgD (F.signs f)] = .ok (.tuple [coD (content f F.ps), .str "done"]) [] := by
  obtain ⟨st, r, e⟩ := file_run h hF
  obtain ⟨x', q⟩ := live_loop h (F.signs f) [] (first f) st [] _ (sgD (F.signs f)) (some (.str "")) none (.nil _ _) r hs.2 (by simpa using hs.1)
  rw [if_neg hne, e] at q
  simp only [S__law_live_told, T__law_live_told, runF_eq, rho0]
  simp at q
  simp [makeT, reader_init h, sgD_items, q, reader_told h r hs.1]
end K80

/-! file KP11 -/
set_option Elab.async false
set_option linter.all false
set_option autoImplicit false
set_option maxRecDepth 100000
set_option maxHeartbeats 4000000
namespace K80
open PySem PySem.Spec L2 Z
/-! ### the law's own reading -/
def useS : Option Use → Str
  | some u => u.s
  | none => ("" : Str)
theorem law_use_loop (s : Int) : ∀ (ts : List (Int × Use)) (F : D) (x : Option D), ∃ x', forT (setG 2) (ifT (isB (Z.binT eqD (Z.binT idxD (varT 2) (cT (.int 0))) (varT 1))) (retT (Z.binT idxD (varT 2) (cT (.int 1)))) (nxT)) (ts.map tgD) [some F, some (.int s), x] =
    match ts.find? (fun t => decide (t.1 = s)) with
    | some t => .ok (.rt (.str t.2.s)) [some F, some (.int s), x']
    | none => .ok .nx [some F, some (.int s), x']
  | [], F, x => ⟨x, rfl⟩
  | t :: ts, F, x => by
    rw [List.map_cons, forT_cons]
    have e3 : idxD (tgD t) (.int 0) = some (.int t.1) := rfl
    have e4 : idxD (tgD t) (.int 1) = some (.str t.2.s) := by simp [tgD]
    by_cases e : t.1 = s
    · refine ⟨some (tgD t), ?_⟩
      simp [e3, e4, e]
    · obtain ⟨x', q⟩ := law_use_loop s ts F (some (tgD t))
      refine ⟨x', ?_⟩
      simp [e3, e4, e, q]
theorem law_use_eq (f : Fmt) (s : Int) : S__law_use [f.d, .int s] = .ok (.str (useS (use f s))) [] := by
  obtain ⟨x', q⟩ := law_use_loop s f.tags f.d none
  have e0 : eqD (.str (if f.rest then "skip" else "refuse")) (.str "skip") = some (.bool f.rest) := by
    cases f.rest
    · exact eqD_strF "refuse" "skip" (by decide +kernel) (by decide +kernel) (by decide +kernel)
    · exact eqD_strT "skip" "skip" (by decide +kernel) (by decide +kernel) rfl
  unfold use
  cases h : f.tags.find? (fun t => decide (t.1 = s)) with
  | some t =>
    simp only [h] at q
    simp [S__law_use, T__law_use, runF_eq, rho0, q, useS]
  | none =>
    simp only [h] at q
    simp [S__law_use, T__law_use, runF_eq, rho0, q, e0]
    cases f.rest <;> simp [useS, Use.s]
def BadR (d : D) : Prop := ∃ (a : Int) (w : Str), d = .tuple [.none, .tuple [.int a, .str w]]
theorem sg_at {row : List Int} {p : Nat} (hp : p < row.length) : idxD (sgD row) (.int p) = some (.int row[p]) := by
  show atI (row.map PyData.int) (p : Int) = _
  rw [Z.atI_nat, List.getElem?_map, List.getElem?_eq_getElem hp]; rfl
theorem len_sg (row : List Int) : lenD [sgD row] = some (.int row.length) := by simp [sgD]
theorem law_long_eq {f : Fmt} (h : f.Ok) {row : List Int} (hr : ∀ s ∈ row, 0 ≤ s ∧ s < f.base) (p : Nat) : ∃ d, S__law_long [f.d, sgD row, .int p] = .ok d [] ∧ (BadR d ∨ ∃ n k : Nat, d = .tuple [.int n, .int k] ∧ (n : Int) ≤ f.most ∧ k ≤ row.length ∧ p ≤ k ∧ row.drop p = lenS f n ++ row.drop k) := by
  simp only [S__law_long, T__law_long, runF_eq, rho0]
  by_cases hp : p < row.length
  · have hd : row.drop p = row[p] :: row.drop (p + 1) := List.drop_eq_getElem_cons hp
    have h1 := hr row[p] (List.getElem_mem hp)
    have e1 := sg_at hp
    obtain ⟨a, ha⟩ : ∃ a, a = row[p] := ⟨_, rfl⟩
    rw [← ha] at e1 h1 hd
    have hp' : ¬ (row.length ≤ p) := by omega
    cases hw : f.width with
    | one =>
      by_cases hm : a ≤ f.most
      · refine ⟨.tuple [.int a, .int ((p : Int) + 1)], by simp [len_sg, e1, hp', wd_one, hw, hm], .inr ⟨a.toNat, p + 1, ?_, by omega, by omega, by omega, ?_⟩⟩
        · rw [Int.toNat_of_nonneg h1.1]; rfl
        · rw [hd, lenS, hw, Int.toNat_of_nonneg h1.1]; rfl
      · exact ⟨.tuple [.none, .tuple [.int p, .str "length"]], by simp [len_sg, e1, hp', wd_one, hw, hm], .inl ⟨_, _, rfl⟩⟩
    | high =>
      by_cases hm : f.most < a * f.base
      · exact ⟨.tuple [.none, .tuple [.int p, .str "length"]], by simp [len_sg, e1, hp', wd_one, wd_high, hw, hm, h.mul], .inl ⟨_, _, rfl⟩⟩
      · by_cases hp2 : p + 1 < row.length
        · have hd2 : row.drop (p + 1) = row[p + 1] :: row.drop (p + 1 + 1) := List.drop_eq_getElem_cons hp2
          have h2 := hr row[p + 1] (List.getElem_mem hp2)
          have e2 := sg_at hp2
          obtain ⟨b, hb⟩ : ∃ b, b = row[p + 1] := ⟨_, rfl⟩
          rw [← hb] at e2 h2 hd2
          rw [show ((p + 1 : Nat) : Int) = (p : Int) + 1 by omega] at e2
          have hp2' : ¬ ((row.length : Int) ≤ (p : Int) + 1) := by omega
          by_cases hn : a * f.base + b ≤ f.most
          · have hz : 0 ≤ a * f.base := Int.mul_nonneg h1.1 (by have := h.b2; omega)
            refine ⟨.tuple [.int (a * f.base + b), .int ((p : Int) + 2)], by simp [len_sg, e1, e2, hp', hp2', wd_one, wd_high, hw, hm, hn, h.mul], .inr ⟨(a * f.base + b).toNat, p + 2, ?_, by omega, by omega, by omega, ?_⟩⟩
            · rw [Int.toNat_of_nonneg (by omega)]; rfl
            · rw [hd, hd2, lenS, hw, Int.toNat_of_nonneg (by omega)]
              have q1 : (a * f.base + b) / f.base = a := by
                rw [Int.add_comm, Int.add_mul_ediv_right _ _ (by have := h.b2; omega), Int.ediv_eq_zero_of_lt h2.1 h2.2]; omega
              have q2 : (a * f.base + b) % f.base = b := by
                rw [Int.add_comm, Int.add_mul_emod_self_right]; exact Int.emod_eq_of_lt h2.1 h2.2
              rw [q1, q2]; rfl
          · exact ⟨.tuple [.none, .tuple [.int ((p : Int) + 1), .str "length"]], by simp [len_sg, e1, e2, hp', hp2', wd_one, wd_high, hw, hm, hn, h.mul], .inl ⟨_, _, rfl⟩⟩
        · have hp2' : ((row.length : Int) ≤ (p : Int) + 1) := by omega
          exact ⟨.tuple [.none, .tuple [.int row.length, .str "short"]], by simp [len_sg, e1, hp', hp2', wd_one, wd_high, hw, hm, h.mul], .inl ⟨_, _, rfl⟩⟩
    | low =>
      by_cases hm : f.most < a
      · exact ⟨.tuple [.none, .tuple [.int p, .str "length"]], by simp [len_sg, e1, hp', wd_one, wd_high, hw, hm, h.mul], .inl ⟨_, _, rfl⟩⟩
      · by_cases hp2 : p + 1 < row.length
        · have hd2 : row.drop (p + 1) = row[p + 1] :: row.drop (p + 1 + 1) := List.drop_eq_getElem_cons hp2
          have h2 := hr row[p + 1] (List.getElem_mem hp2)
          have e2 := sg_at hp2
          obtain ⟨b, hb⟩ : ∃ b, b = row[p + 1] := ⟨_, rfl⟩
          rw [← hb] at e2 h2 hd2
          rw [show ((p + 1 : Nat) : Int) = (p : Int) + 1 by omega] at e2
          have hp2' : ¬ ((row.length : Int) ≤ (p : Int) + 1) := by omega
          by_cases hn : b * f.base + a ≤ f.most
          · have hz : 0 ≤ b * f.base := Int.mul_nonneg h2.1 (by have := h.b2; omega)
            refine ⟨.tuple [.int (b * f.base + a), .int ((p : Int) + 2)], by simp [len_sg, e1, e2, hp', hp2', wd_one, wd_high, hw, hm, hn, h.mul], .inr ⟨(b * f.base + a).toNat, p + 2, ?_, by omega, by omega, by omega, ?_⟩⟩
            · rw [Int.toNat_of_nonneg (by omega)]; rfl
            · rw [hd, hd2, lenS, hw, Int.toNat_of_nonneg (by omega)]
              have q1 : (b * f.base + a) / f.base = b := by
                rw [Int.add_comm, Int.add_mul_ediv_right _ _ (by have := h.b2; omega), Int.ediv_eq_zero_of_lt h1.1 h1.2]; omega
              have q2 : (b * f.base + a) % f.base = a := by
                rw [Int.add_comm, Int.add_mul_emod_self_right]; exact Int.emod_eq_of_lt h1.1 h1.2
              rw [q1, q2]; rfl
          · exact ⟨.tuple [.none, .tuple [.int ((p : Int) + 1), .str "length"]], by simp [len_sg, e1, e2, hp', hp2', wd_one, wd_high, hw, hm, hn, h.mul], .inl ⟨_, _, rfl⟩⟩
        · have hp2' : ((row.length : Int) ≤ (p : Int) + 1) := by omega
          exact ⟨.tuple [.none, .tuple [.int row.length, .str "short"]], by simp [len_sg, e1, hp', hp2', wd_one, wd_high, hw, hm, h.mul], .inl ⟨_, _, rfl⟩⟩
  · have hp' : row.length ≤ p := by omega
    exact ⟨.tuple [.none, .tuple [.int row.length, .str "short"]], by simp [len_sg, hp'], .inl ⟨_, _, rfl⟩⟩
theorem cut_sg (row : List Int) (p n : Nat) (h : p + n ≤ row.length) : slcD (sgD row) (some (p : Int)) (some ((p : Int) + (n : Int))) = some (sgD ((row.drop p).take n)) := by
  show some (PyData.tuple (cutD (row.map .int) (some (p : Int)) (some ((p : Int) + (n : Int))))) = _
  unfold cutD
  rw [show ((p : Int) + (n : Int)) = ((p + n : Nat) : Int) by omega, HT.sIx_nat, HT.sIx_nat, List.length_map, Nat.min_eq_left h, Nat.min_eq_left (show p ≤ row.length by omega), Nat.add_sub_cancel_left, ← List.map_drop, ← List.map_take]
  rfl
theorem sum_sg (l : List Int) : sumD [sgD l] = some (.int l.sum) := by simp [sumD, sgD]
theorem us_nck (u : Use) : neD (.str u.s) (.str "check") = some (.bool (!decide (u = .check))) := by
  rw [neD_str _ _ (use_ok u) (by decide +kernel)]
  congr 3
  exact decide_eq_decide.mpr (use_eq u .check)
theorem law_chunk_eq {f : Fmt} (h : f.Ok) {row : List Int} (hr : ∀ s ∈ row, 0 ≤ s ∧ s < f.base) (p : Nat) (u : Use) : ∃ d, S__law_chunk [f.d, sgD row, .int p, .str u.s] = .ok d [] ∧ (BadR d ∨ ∃ (b : List Int) (k : Nat), d = .tuple [sgD b, .int k] ∧ (b.length : Int) ≤ f.most ∧ k ≤ row.length ∧ p ≤ k ∧ row.drop p = (lenS f b.length ++ (b ++ (if u = .check then [b.sum % f.base] else []))) ++ row.drop k) := by
  simp only [S__law_chunk, T__law_chunk, runF_eq, rho0]
  obtain ⟨d, e, hd | ⟨n, k, rfl, hn, hk, hpk, hrow⟩⟩ := law_long_eq h hr p
  · obtain ⟨a, w, rfl⟩ := hd
    exact ⟨.tuple [.none, .tuple [.int a, .str w]], by simp [e], .inl ⟨_, _, rfl⟩⟩
  · by_cases hl : k + n ≤ row.length
    · have c1 := cut_sg row k n hl
      obtain ⟨b, hb⟩ : ∃ b, b = (row.drop k).take n := ⟨_, rfl⟩
      have hbl : b.length = n := by rw [hb]; simp; omega
      rw [← hb] at c1
      have hl' : ¬ ((row.length : Int) < (k : Int) + (n : Int)) := by omega
      have hspl : row.drop k = b ++ row.drop (k + n) := by
        rw [hb, ← List.drop_drop, List.take_append_drop]
      by_cases hu : u = .check
      · by_cases h2 : k + n < row.length
        · have h2' : ¬ ((row.length : Int) ≤ (k : Int) + (n : Int)) := by omega
          have e2 := sg_at h2
          rw [show ((k + n : Nat) : Int) = (k : Int) + (n : Int) by omega] at e2
          by_cases hc : row[k + n] = b.sum % f.base
          · refine ⟨.tuple [sgD b, .int ((k : Int) + (n : Int) + 1)], by simp [e, len_sg, hl', c1, hu, us_check, h2', e2, hc, sum_sg, h.mod, us_nck], .inr ⟨b, k + n + 1, rfl, by omega, by omega, by omega, ?_⟩⟩
            rw [if_pos hu, hrow, hspl, List.drop_eq_getElem_cons h2, hc, hbl]
            simp
          · exact ⟨.tuple [.none, .tuple [.int ((k : Int) + (n : Int)), .str "check"]], by simp [e, len_sg, hl', c1, hu, us_check, h2', e2, hc, sum_sg, h.mod, us_nck], .inl ⟨_, _, rfl⟩⟩
        · have h2' : ((row.length : Int) ≤ (k : Int) + (n : Int)) := by omega
          exact ⟨.tuple [.none, .tuple [.int row.length, .str "short"]], by simp [e, len_sg, hl', c1, hu, us_check, h2', us_nck], .inl ⟨_, _, rfl⟩⟩
      · refine ⟨.tuple [sgD b, .int ((k : Int) + (n : Int))], by simp [e, len_sg, hl', c1, hu, us_nck], .inr ⟨b, k + n, rfl, by omega, by omega, by omega, ?_⟩⟩
        rw [if_neg hu, hrow, hspl, hbl]
        simp
    · have hl' : ((row.length : Int) < (k : Int) + (n : Int)) := by omega
      exact ⟨.tuple [.none, .tuple [.int row.length, .str "short"]], by simp [e, len_sg, hl'], .inl ⟨_, _, rfl⟩⟩
end K80

/-! file KP12 -/
set_option Elab.async false
set_option linter.all false
set_option autoImplicit false
set_option maxRecDepth 100000
set_option maxHeartbeats 4000000
namespace K80
open PySem PySem.Spec L2 Z
/-! ### where it does not look -/
def blindF (f : Fmt) : Std → Nat → List Int → List Nat
  | _, _, [] => []
  | st, k, s :: l => (if looking f st then [] else [k]) ++ (match step f st s with
    | some st' => blindF f st' (k + 1) l
    | none => [])
theorem blindF_app {f : Fmt} {st st1 : Std} {c c1 : Cont} {l : List Int} (r : Run f st c l st1 c1) : ∀ (k : Nat) (l2 : List Int), blindF f st k (l ++ l2) = blindF f st k l ++ blindF f st1 (k + l.length) l2 := by
  induction r with
  | nil st c => intro k l2; simp [blindF]
  | @cons st st' st2 c c2 s l h hn r ih =>
    intro k l2
    simp only [List.cons_append, blindF, h, ih (k + 1) l2, List.length_cons, List.append_assoc]
    rw [show k + 1 + l.length = k + (l.length + 1) by omega]
theorem blind_ge {f : Fmt} : ∀ (l : List Int) (st : Std) (k j : Nat), j ∈ blindF f st k l → k ≤ j ∧ j < k + l.length
  | [], st, k, j, h => by simp [blindF] at h
  | s :: l, st, k, j, h => by
    simp only [blindF, List.mem_append] at h
    rw [List.length_cons]
    rcases h with h | h
    · split at h
      · cases h
      · rw [List.mem_singleton.mp h]; omega
    · split at h
      · have := blind_ge l _ _ _ h; omega
      · cases h
theorem looked_ge {f : Fmt} : ∀ (l : List Int) (st : Std) (k j : Nat), j ∈ lookedF f st k l → k ≤ j
  | [], st, k, j, h => by simp [lookedF] at h
  | s :: l, st, k, j, h => by
    simp only [lookedF, List.mem_append] at h
    rcases h with h | h
    · split at h
      · rw [List.mem_singleton.mp h]; omega
      · cases h
    · split at h
      · have := looked_ge l _ _ _ h; omega
      · cases h
theorem blind_not_looked {f : Fmt} : ∀ (l : List Int) (st : Std) (k j : Nat), j ∈ blindF f st k l → j ∉ lookedF f st k l
  | [], st, k, j, h => by simp [blindF] at h
  | s :: l, st, k, j, h => by
    intro h'
    simp only [blindF, lookedF, List.mem_append] at h h'
    cases hs : step f st s with
    | none =>
      simp only [hs] at h h'
      cases hl : looking f st <;> simp [hl] at h h'
    | some st' =>
      simp only [hs] at h h'
      cases hl : looking f st
      · simp [hl] at h h'
        rcases h with rfl | h
        · have := looked_ge _ _ _ _ h'; omega
        · exact blind_not_looked l st' (k + 1) j h h'
      · simp [hl] at h h'
        rcases h' with rfl | h'
        · have := blind_ge _ _ _ _ h; omega
        · exact blind_not_looked l st' (k + 1) j h h'
theorem blind_step {f : Fmt} {st st' : Std} {s s' : Int} {c : Cont} (hl : looking f st = false) (h : step f st s = some st') : step f st s' = some st' ∧ toldAt f st s' c = toldAt f st s c := by
  cases st with
  | head p =>
    refine ⟨?_, rfl⟩
    simp only [looking] at hl
    simp only [step] at h ⊢
    cases hp : f.head[p]? with
    | none => rw [hp] at h; cases h
    | some m =>
      cases m with
      | none => rw [hp] at h; exact h
      | some i => rw [hp] at hl; cases hl
  | body u l t =>
    cases u <;> simp [looking] at hl
    exact ⟨h, by simp [toldAt, Use.told]⟩
  | room => exact ⟨h, rfl⟩
  | tag => simp [looking] at hl
  | len u => simp [looking] at hl
  | second u a => simp [looking] at hl
  | sum t => simp [looking] at hl
  | over => simp [looking] at hl
theorem blind_hn {f : Fmt} {st : Std} {c : Cont} (hl : looking f st = false) : ∀ u a t, st = .body u a t → u.told = true → c ≠ [] := by
  rintro u a t rfl ht
  cases u <;> simp [looking] at hl
  cases ht
theorem blind_set {f : Fmt} {st st1 : Std} {c c1 : Cont} {l : List Int} (r : Run f st c l st1 c1) : ∀ (k j : Nat) (s' : Int), j ∈ blindF f st k l → Run f st c (l.set (j - k) s') st1 c1 ∧ blindF f st k (l.set (j - k) s') = blindF f st k l := by
  induction r with
  | nil st c => intro k j s' h; simp [blindF] at h
  | @cons st st' st2 c c2 s l h hn r ih =>
    intro k j s' hj
    have hj' := hj
    simp only [blindF, List.mem_append, h] at hj
    by_cases hk : j = k
    · subst hk
      have hl : looking f st = false := by
        cases hl : looking f st
        · rfl
        · simp [hl] at hj
          have := blind_ge _ _ _ _ hj; omega
      obtain ⟨e1, e2⟩ := blind_step (s' := s') (c := c) hl h
      rw [Nat.sub_self, List.set_cons_zero]
      refine ⟨.cons e1 hn (by rw [e2]; exact r), ?_⟩
      simp only [blindF, e1, h]
    · have hj2 : j ∈ blindF f st' (k + 1) l := by
        rcases hj with hj | hj
        · split at hj
          · cases hj
          · exact absurd (List.mem_singleton.mp hj) hk
        · exact hj
      have := blind_ge _ _ _ _ hj2
      obtain ⟨i1, i2⟩ := ih (k + 1) j s' hj2
      rw [show j - k = (j - (k + 1)) + 1 by omega, List.set_cons_succ]
      exact ⟨.cons h hn i1, by simp only [blindF, h, i2]⟩
theorem blind_body {f : Fmt} (u : Use) : ∀ (bs : List Int) (s : Int) (tot : Int) (k : Nat), blindF f (.body u (((s :: bs).length : Nat) : Int) tot) k (s :: bs) = if u = .skip then List.range' k (s :: bs).length else []
  | [], s, tot, k => by
    have hl : looking f (.body u (([s].length : Nat) : Int) tot) = !decide (u = .skip) := by cases u <;> rfl
    simp only [blindF, hl, step]
    cases u <;> simp
  | s2 :: bs, s, tot, k => by
    have h1 : step f (.body u (((s :: s2 :: bs).length : Nat) : Int) tot) s = some (.body u (((s2 :: bs).length : Nat) : Int) (if u = .check then (tot + s) % f.base else tot)) := by
      simp only [step]
      rw [if_pos (by simp only [List.length_cons]; omega)]
      congr 2
      simp only [List.length_cons]; omega
    have hl : looking f (.body u (((s :: s2 :: bs).length : Nat) : Int) tot) = !decide (u = .skip) := by cases u <;> rfl
    rw [blindF, h1, hl]
    simp only [blind_body u bs s2]
    cases u <;> simp [List.range'_succ]
theorem blind_one {f : Fmt} (st : Std) (k : Nat) (s : Int) (h : looking f st = true) : blindF f st k [s] = [] := by
  simp only [blindF, h, if_pos, List.nil_append]
  split <;> rfl
theorem blind_len {f : Fmt} (u : Use) (n : Int) (k : Nat) : blindF f (.len u) k (lenS f n) = [] := by
  have h2 : ∀ (a b : Int), f.width ≠ .one → blindF f (.len u) k [a, b] = [] := by
    intro a b hw
    have hl : looking f (.len u) = true := rfl
    rw [blindF, hl, if_pos rfl, List.nil_append]
    have hs : ∀ st', step f (.len u) a = some st' → blindF f st' (k + 1) [b] = [] := by
      intro st' e
      simp only [step] at e
      split at e
      · exact absurd (by assumption) hw
      · split at e <;> cases e
        exact blind_one _ _ _ rfl
      · split at e <;> cases e
        exact blind_one _ _ _ rfl
    split
    · exact hs _ (by assumption)
    · rfl
  cases hw : f.width with
  | one => rw [lenS, hw]; exact blind_one _ _ _ rfl
  | high => rw [lenS, hw]; exact h2 _ _ (by rw [hw]; decide)
  | low => rw [lenS, hw]; exact h2 _ _ (by rw [hw]; decide)
theorem blind_room {f : Fmt} : ∀ (l : List Int) (k : Nat), blindF f .room k l = List.range' k l.length
  | [], k => rfl
  | s :: l, k => by
    simp only [blindF, looking, step, blind_room l (k + 1), List.length_cons, List.range'_succ]
    simp
theorem blind_chunk {f : Fmt} (h : f.Ok) (p : Int × List Int) (u : Use) (hu : use f p.1 = some u) (hc : u.chunk = true) (hm : (p.2.length : Int) ≤ f.most) (k : Nat) : blindF f .tag k (chunkS f p) = if u = .skip then List.range' (k + 1 + (lenS f p.2.length).length) p.2.length else [] := by
  obtain ⟨t, b⟩ := p
  simp only at hu hm ⊢
  have h1 : step f .tag t = some (.len u) := by
    simp only [step, hu]
    cases u <;> simp [Use.chunk] at hc ⊢
  have hb : 0 < f.base := by have := h.b2; omega
  have e := blindF_app (len_run h u (b.length : Int) (by omega) hm [(t, [])]) (k + 1) (b ++ (if use f t = some .check then [b.sum % f.base] else []))
  rw [blind_len, List.nil_append] at e
  show blindF f .tag k (t :: (lenS f (b.length : Int) ++ (b ++ (if use f t = some .check then [b.sum % f.base] else [])))) = _
  have hlt : looking f .tag = true := rfl
  rw [blindF, h1, hlt, if_pos rfl, List.nil_append]
  simp only
  rw [e]
  cases b with
  | nil =>
    simp only [List.length_nil, List.nil_append, bodyStd, hu]
    by_cases hk : u = .check
    · subst hk
      simp [blindF, looking, step]
    · simp [hk, blindF]
  | cons s bs =>
    have e0 : bodyStd u (((s :: bs).length : Nat) : Int) = .body u (((s :: bs).length : Nat) : Int) 0 := by
      simp only [bodyStd]
      rw [if_pos (by simp only [List.length_cons]; omega)]
    rw [e0]
    have r := body_run hb u bs s 0 [(t, [])] [] t [] (fun _ => rfl)
    rw [blindF_app r, blind_body]
    have e3 : ∀ (k' : Nat), blindF f (afterBody f u (if u = .check then (0 + (s :: bs).sum) % f.base else 0)) k' (if use f t = some .check then [(s :: bs).sum % f.base] else []) = [] := by
      intro k'
      rw [hu]
      by_cases hk : u = .check
      · subst hk
        simp [afterBody, blindF, looking, step]
      · simp [hk, blindF]
    rw [e3, List.append_nil]
end K80

/-! file KP13 -/
set_option Elab.async false
set_option linter.all false
set_option autoImplicit false
set_option maxRecDepth 100000
set_option maxHeartbeats 4000000
namespace K80
open PySem PySem.Spec L2 Z
/-! ### the law's reading of a file -/
def ntD (l : List Nat) : D := .list (l.map fun (n : Nat) => .int n)
theorem us_s (o : Option Use) (s : Str) (hs : PyData.strOk s = true) : eqD (.str (useS o)) (.str s) = some (.bool (decide (useS o = s))) := by
  refine eqD_str _ _ ?_ hs
  cases o with
  | none => decide +kernel
  | some u => exact use_ok u
theorem uS_none (o : Option Use) : eqD (.str (useS o)) (.str ("" : Str)) = some (.bool (decide (o = none))) := by
  rw [us_s o "" (by decide +kernel)]
  congr 2
  cases o with
  | none => decide +kernel
  | some u => cases u <;> decide +kernel
theorem uS_is (o : Option Use) (v : Use) : eqD (.str (useS o)) (.str v.s) = some (.bool (decide (o = some v))) := by
  rw [us_s o v.s (use_ok v)]
  congr 2
  cases o with
  | none => cases v <;> decide +kernel
  | some u => cases u <;> cases v <;> decide +kernel
theorem uS_end (o : Option Use) : eqD (.str (useS o)) (.str "end") = some (.bool (decide (o = some .end_))) := uS_is o .end_
theorem uS_stop (o : Option Use) : eqD (.str (useS o)) (.str "stop") = some (.bool (decide (o = some .stop))) := uS_is o .stop
theorem uS_skip (o : Option Use) : eqD (.str (useS o)) (.str "skip") = some (.bool (decide (o = some .skip))) := uS_is o .skip
theorem us_emp (u : Use) : eqD (.str u.s) (.str ("" : Str)) = some (.bool false) := by
  have := uS_none (some u)
  simpa [useS] using this
theorem sgN (l : List Int) : isNoneD (sgD l) = false := rfl
theorem rng_nats (a n : Nat) : rng (a : Int) ((a : Int) + (n : Int)) = (List.range' a n).map fun (i : Nat) => PyData.int (i : Int) := by
  unfold rng
  rw [List.range'_eq_map_range, List.map_map, show ((a : Int) + (n : Int) - (a : Int)).toNat = n by omega]
  apply List.map_congr_left
  intro i _
  simp
theorem lrg_nats (a n : Nat) (h : a + n ≤ 1000000) : lrgD (.int (a : Int)) (.int ((a : Int) + (n : Int))) = some (ntD (List.range' a n)) := by
  unfold lrgD
  have e : rgOkB (a : Int) ((a : Int) + (n : Int)) = true := by
    unfold rgOkB
    exact decide_eq_true ⟨by omega, by omega, by omega⟩
  simp only [e, if_pos, rng_nats, ntD]
theorem add_nt (a b : List Nat) (h : a.length + b.length ≤ 1000000) : addD (ntD a) (ntD b) = some (ntD (a ++ b)) := by
  simp [addD, ntD]; omega
theorem cat_nt (a b : List Nat) (h : a.length + b.length ≤ 1000000) : catLD (ntD a) (ntD b) = some (ntD (a ++ b)) := by
  simp [catLD, ntD]; omega
def BadT (d : D) : Prop := ∃ (a : Int) (w : Str), d = .tuple [.none, .none, .tuple [.int a, .str w]]
/-- a file as the law reads it -/
def GoodT (f : Fmt) (row : List Int) (d : D) : Prop := ∃ F : File, FileOk f F ∧ row = F.signs f ∧ d = .tuple [coD (content f F.ps), ntD (blindF f (first f) 0 row), .none]
def hdSt (f : Fmt) (i : Nat) : Std := if i < f.head.length then .head i else .tag
theorem hd_step {f : Fmt} {i : Nat} {s : Int} (hi : i < f.head.length) (hm : ∀ m, f.head[i]? = some (some m) → m = s) : step f (.head i) s = some (hdSt f (i + 1)) := by
  simp only [step]
  rw [List.getElem?_eq_getElem hi]
  cases hq : f.head[i] with
  | none => rfl
  | some m =>
    have := hm m (by rw [List.getElem?_eq_getElem hi, hq])
    simp only
    rw [if_pos this]
    rfl
structure HdI (f : Fmt) (row : List Int) (i : Nat) (bl : List Nat) : Prop where
  l : i ≤ row.length
  h : i ≤ f.head.length
  r : Run f (first f) [] (row.take i) (hdSt f i) []
  m : ∀ (j : Nat) (m : Int), j < i → f.head[j]? = some (some m) → row[j]? = some m
  b : bl = blindF f (first f) 0 (row.take i)
theorem HdI.zero (f : Fmt) (row : List Int) : HdI f row 0 [] := by
  refine ⟨Nat.zero_le _, Nat.zero_le _, ?_, fun j m h => absurd h (Nat.not_lt_zero _), by simp [blindF]⟩
  have : first f = hdSt f 0 := by
    unfold first hdSt
    by_cases e : f.head = []
    · rw [if_pos e, e]; rfl
    · rw [if_neg e, if_pos (List.length_pos_iff.mpr e)]
  rw [List.take_zero, this]
  exact .nil _ _
theorem HdI.next {f : Fmt} {row : List Int} {i : Nat} {bl : List Nat} (I : HdI f row i bl) (hi : i < f.head.length) (hr : i < row.length) (hm : ∀ m, f.head[i]? = some (some m) → m = row[i]) :
    HdI f row (i + 1) (bl ++ if looking f (.head i) then [] else [i]) := by
  have hs : hdSt f i = .head i := if_pos hi
  have st := hd_step hi hm
  have r := I.r
  rw [hs] at r
  have e : row.take (i + 1) = row.take i ++ [row[i]] := by rw [List.take_succ, List.getElem?_eq_getElem hr]; rfl
  refine ⟨hr, hi, ?_, fun j m hj q => ?_, ?_⟩
  · rw [e]
    exact r.trans (Run.one (c := []) st (fun _ _ _ e => by cases e))
  · rcases Nat.lt_succ_iff_lt_or_eq.mp hj with hj | rfl
    · exact I.m j m hj q
    · rw [List.getElem?_eq_getElem hr, hm m q]
  · rw [e, blindF_app r, ← I.b]
    congr 1
    rw [blindF, st, List.length_take, Nat.min_eq_left I.l, Nat.zero_add]
    simp [blindF]
structure ChI (f : Fmt) (row : List Int) (p : Nat) (ps : List (Int × List Int)) (bl : List Nat) : Prop where
  l : p ≤ row.length
  e : row.take p = row.take f.head.length ++ ps.flatMap (chunkS f)
  hl : f.head.length ≤ p
  c : ∀ q ∈ ps, ChunkOk f q
  r : Run f (first f) [] (row.take p) .tag (content f ps)
  m : ∀ (j : Nat) (m : Int), j < f.head.length → f.head[j]? = some (some m) → row[j]? = some m
  b : bl = blindF f (first f) 0 (row.take p)
theorem ChI.zero {f : Fmt} {row : List Int} {bl : List Nat} (I : HdI f row f.head.length bl) : ChI f row f.head.length [] bl := by
  refine ⟨I.l, by simp, Nat.le_refl _, (fun q h => by cases h), ?_, I.m, I.b⟩
  have r := I.r
  rwa [show hdSt f f.head.length = .tag from if_neg (Nat.lt_irrefl _)] at r
theorem blindF_len (f : Fmt) : ∀ (l : List Int) (st : Std) (k : Nat), (blindF f st k l).length ≤ l.length
  | [], st, k => by simp [blindF]
  | s :: l, st, k => by
    have h1 : (if looking f st then ([] : List Nat) else [k]).length ≤ 1 := by split <;> simp
    cases hs : step f st s with
    | none =>
      simp only [blindF, hs, List.length_append, List.length_cons, List.length_nil]
      omega
    | some st' =>
      have := blindF_len f l st' (k + 1)
      simp only [blindF, hs, List.length_append, List.length_cons]
      omega
theorem ChI.blind_len {f : Fmt} {row : List Int} {p : Nat} {ps : List (Int × List Int)} {bl : List Nat} (I : ChI f row p ps bl) : bl.length ≤ p := by
  have := blindF_len f (row.take p) (first f) 0
  rw [← I.b] at this
  have hl := I.l
  simp at this
  omega
theorem content_snoc (f : Fmt) (ps : List (Int × List Int)) (q : Int × List Int) : content f (ps ++ [q]) = content f ps ++ (if useTold (use f q.1) then [q] else []) := by
  simp [content, List.filter_cons]
theorem ChI.next {f : Fmt} (h : f.Ok) {row : List Int} {p k : Nat} {ps : List (Int × List Int)} {bl : List Nat} (I : ChI f row p ps bl) (hp : p < row.length) (u : Use) (hu : use f row[p] = some u) (hc : u.chunk = true) (b : List Int) (hb : (b.length : Int) ≤ f.most)
    (hk : k ≤ row.length) (hpk : p + 1 ≤ k) (he : row.drop (p + 1) = (lenS f b.length ++ (b ++ (if u = .check then [b.sum % f.base] else []))) ++ row.drop k) :
    ChI f row k (ps ++ [(row[p], b)]) (bl ++ if u = .skip then List.range' (p + 1 + (lenS f b.length).length) b.length else []) ∧ k = p + 1 + (lenS f b.length).length + b.length + (if u = .check then 1 else 0) := by
  have hch : chunkS f (row[p], b) = row[p] :: (lenS f b.length ++ (b ++ (if u = .check then [b.sum % f.base] else []))) := by
    simp only [chunkS, hu, Option.some.injEq]
  have hd : row.drop p = chunkS f (row[p], b) ++ row.drop k := by
    rw [List.drop_eq_getElem_cons hp, he, hch]; rfl
  have hlen : k = p + (chunkS f (row[p], b)).length := by
    have := congrArg List.length hd
    simp only [List.length_append, List.length_drop] at this
    omega
  have et : row.take k = row.take p ++ chunkS f (row[p], b) := by
    have e1 : row = row.take p ++ (chunkS f (row[p], b) ++ row.drop k) := by rw [← hd, List.take_append_drop]
    have e2 : row = (row.take p ++ chunkS f (row[p], b)) ++ row.drop k := by rw [List.append_assoc]; exact e1
    have e3 : k = (row.take p ++ chunkS f (row[p], b)).length := by
      rw [List.length_append, List.length_take, Nat.min_eq_left I.l]; exact hlen
    conv => lhs; rw [e2]
    rw [e3, List.take_left']
    rw [← e3]
  have cr := chunk_run h (row[p], b) u hu hc hb (content f ps)
  have cb := blind_chunk h (row[p], b) u hu hc hb p
  refine ⟨⟨hk, ?_, by have := I.hl; omega, ?_, ?_, I.m, ?_⟩, ?_⟩
  · rw [et, I.e]; simp
  · intro q hq
    rcases List.mem_append.mp hq with hq | hq
    · exact I.c q hq
    · rw [List.mem_singleton.mp hq]; exact ⟨u, hu, hc, hb⟩
  · rw [et, content_snoc, hu]
    have e : (if useTold (some u) then [(row[p], b)] else []) = (if u.told then [(row[p], b)] else []) := rfl
    rw [e]
    refine I.r.trans ?_
    have e2 : content f ps ++ (if u.told then [(row[p], b)] else []) = if u.told then content f ps ++ [(row[p], b)] else content f ps := by split <;> simp
    rw [e2]
    exact cr
  · rw [et, blindF_app I.r, ← I.b, Nat.zero_add, List.length_take, Nat.min_eq_left I.l, cb]
  · rw [hlen, hch]
    simp only [List.length_cons, List.length_append]
    split <;> simp <;> omega
theorem ChI.file {f : Fmt} {row : List Int} {p : Nat} {ps : List (Int × List Int)} {bl : List Nat} (I : ChI f row p ps bl) (he : EndOk f (row.drop p)) : FileOk f ⟨row.take f.head.length, ps, row.drop p⟩ ∧ row = File.signs f ⟨row.take f.head.length, ps, row.drop p⟩ := by
  refine ⟨⟨?_, ?_, I.c, he⟩, ?_⟩
  · show (row.take f.head.length).length = _
    rw [List.length_take, Nat.min_eq_left]
    have := I.hl
    have := I.l
    omega
  · intro i m q
    have hi := (List.getElem?_eq_some_iff.mp q).1
    show (row.take f.head.length)[i]? = _
    rw [List.getElem?_take_of_lt hi]
    exact I.m i m hi q
  · show row = row.take f.head.length ++ (ps.flatMap (chunkS f) ++ row.drop p)
    rw [← List.append_assoc, ← I.e, List.take_append_drop]
end K80

/-! file KP14 -/
set_option Elab.async false
set_option linter.all false
set_option autoImplicit false
set_option maxRecDepth 100000
set_option maxHeartbeats 4000000
namespace K80
open PySem PySem.Spec L2 Z
def BadB (d : D) : Prop := ∃ (a : Int) (w : Str), d = .tuple [.none, .none, .tuple [.int a, .str w]]
theorem reading_head {f : Fmt} (h : f.Ok) {row : List Int} (hl : row.length ≤ 1000) :
    let tb : Rho → Out Rho Flw := sqT (ifT (isB (Z.binT geD (varT 4) (callB lenD (consT (varT 1) (nilT))))) (retT (tupT (consT (cT .none) (consT (cT .none) (consT (tupT (consT (callB lenD (consT (varT 1) (nilT))) (consT (cT (.str ("short" : Str))) (nilT)))) (nilT)))))) (nxT)) (ifT (isB (Z.binT isD (Z.binT idxD (Z.binT idxD (varT 0) (cT (.int 1))) (varT 4)) (cT .none))) (appT 3 (varT 4)) (ifT (isB (Z.binT neD (Z.binT idxD (Z.binT idxD (varT 0) (cT (.int 1))) (varT 4)) (Z.binT idxD (varT 1) (varT 4)))) (retT (tupT (consT (cT .none) (consT (cT .none) (consT (tupT (consT (varT 4) (consT (cT (.str ("head" : Str))) (nilT)))) (nilT)))))) (nxT)))
    (∃ bl x, forT (setG 4) tb ((List.range' 0 f.head.length).map fun i : Nat => PyData.int (i : Int)) [some f.d, some (sgD row), some (.list []), some (.list []), none, none, none, none, none, none, none] = .ok .nx [some f.d, some (sgD row), some (.list []), some (ntD bl), x, none, none, none, none, none, none] ∧ HdI f row f.head.length bl) ∨
    ∃ d ρ, forT (setG 4) tb ((List.range' 0 f.head.length).map fun i : Nat => PyData.int (i : Int)) [some f.d, some (sgD row), some (.list []), some (.list []), none, none, none, none, none, none, none] = .ok (.rt d) ρ ∧ BadB d := by
  intro tb
  have lp := forT_inv (g := setG 4) (tb := tb) (fun i : Nat => PyData.int (i : Int))
    (fun (rest : List Nat) (ρ : Rho) => ∃ i bl x, ρ = [some f.d, some (sgD row), some (.list []), some (ntD bl), x, none, none, none, none, none, none] ∧ rest = List.range' i (f.head.length - i) ∧ HdI f row i bl)
    (fun _ => False) (fun d _ => BadB d) (by
      rintro j rest ρ ⟨i, bl, x, rfl, hr, I⟩
      refine ⟨_, rfl, ?_⟩
      have hi : i < f.head.length := by
        rcases Nat.lt_or_ge i f.head.length with q | q
        · exact q
        · rw [Nat.sub_eq_zero_of_le q] at hr; cases hr
      rw [show f.head.length - i = (f.head.length - (i + 1)) + 1 by omega, List.range'_succ] at hr
      obtain ⟨rfl, hr⟩ := List.cons.inj hr
      have e1 : atI (f.head.map mkD) (j : Int) = some (mkD f.head[j]) := by
        rw [Z.atI_nat, List.getElem?_map, List.getElem?_eq_getElem hi]; rfl
      have bll : bl.length ≤ 1000 := by
        have : bl.length ≤ (row.take j).length := by
          rw [I.b]
          exact blindF_len f _ _ _
        simp at this
        omega
      by_cases hp : j < row.length
      · have hp' : ¬ row.length ≤ j := by omega
        have e2 := sg_at hp
        cases hm : f.head[j] with
        | none =>
          refine .inl ⟨[some f.d, some (sgD row), some (.list []), some (ntD (bl ++ [j])), some (.int (j : Int)), none, none, none, none, none, none], .inl ?_, j + 1, _, _, rfl, hr, ?_⟩
          · simp [tb, len_sg, hp', e1, hm, mkD, ntD]
            rw [sizeLine_eq]; omega
          · have hn := I.next hi hp (fun m q => by rw [List.getElem?_eq_getElem hi, hm] at q; cases q)
            have hk : looking f (.head j) = false := by simp [looking, List.getElem?_eq_getElem hi, hm]
            rwa [hk] at hn
        | some m =>
          by_cases hs : m = row[j]
          · refine .inl ⟨[some f.d, some (sgD row), some (.list []), some (ntD bl), some (.int (j : Int)), none, none, none, none, none, none], .inl ?_, j + 1, _, _, rfl, hr, ?_⟩
            · simp [tb, len_sg, hp', e1, hm, mkD, e2, hs]
            · have hn := I.next hi hp (fun m' q => by rw [List.getElem?_eq_getElem hi, hm] at q; cases q; exact hs)
              have hk : looking f (.head j) = true := by simp [looking, List.getElem?_eq_getElem hi, hm]
              rw [hk] at hn
              simpa using hn
          · exact .inr (.inr ⟨.tuple [.none, .none, .tuple [.int (j : Int), .str "head"]], _, by simp [tb, len_sg, hp', e1, hm, mkD, e2, hs]; rfl, _, _, rfl⟩)
      · have hp' : row.length ≤ j := by omega
        exact .inr (.inr ⟨.tuple [.none, .none, .tuple [.int row.length, .str "short"]], _, by simp [tb, len_sg, hp']; rfl, _, _, rfl⟩))
    (List.range' 0 f.head.length) [some f.d, some (sgD row), some (.list []), some (.list []), none, none, none, none, none, none, none]
    ⟨0, [], none, rfl, by simp, HdI.zero f row⟩
  rcases lp with ⟨ρ', e, hI | hF⟩ | ⟨d, ρ', e, hb⟩
  · obtain ⟨i, bl, x, rfl, hr, I⟩ := hI
    have hi : i = f.head.length := by
      rcases Nat.lt_or_ge i f.head.length with q | q
      · rw [show f.head.length - i = (f.head.length - (i + 1)) + 1 by omega, List.range'_succ] at hr; cases hr
      · exact Nat.le_antisymm I.h q
    subst hi
    exact .inl ⟨bl, x, e, I⟩
  · exact hF.elim
  · exact .inr ⟨d, ρ', e, hb⟩
end K80

/-! file KP15 -/
set_option Elab.async false
set_option linter.all false
set_option autoImplicit false
set_option maxRecDepth 100000
set_option maxHeartbeats 4000000
namespace K80
open PySem PySem.Spec L2 Z
theorem ended_eq {f : Fmt} (h : f.Ok) (a b c d e g i j k : Option D) : lcT [10] (seqT (Z.binT idxD (varT 0) (cT (.int 4)))) (setG 10) (isB (Z.binT inD (Z.binT idxD (varT 10) (cT (.int 1))) (tupT (consT (cT (.str ("end" : Str))) (consT (cT (.str ("stop" : Str))) (nilT)))))) (varT 10) [some f.d, a, b, c, d, e, g, i, j, k, none] = .ok (.list ((f.tags.filter isEnd).map tgD)) [some f.d, a, b, c, d, e, g, i, j, k, none] := by
  have tl := h.tl
  exact lcT_pure (vs := [10]) (Ti := seqT (Z.binT idxD (varT 0) (cT (.int 4)))) (g := setG 10) (tt := isB (Z.binT inD (Z.binT idxD (varT 10) (cT (.int 1))) (tupT (consT (cT (.str ("end" : Str))) (consT (cT (.str ("stop" : Str))) (nilT)))))) (te := varT 10)
    f.tags tgD isEnd tgD (fun t => [some f.d, a, b, c, d, e, g, i, j, k, some (tgD t)])
    (by simp) (fun t _ => by
      have e4 : idxD (tgD t) (.int 1) = some (.str t.2.s) := by simp [tgD]
      simp [wipeR, e4, inEnd, isEnd]) (by simp; omega)
theorem hasEnd_filter (f : Fmt) : hasEnd f = !(f.tags.filter isEnd).isEmpty := by
  unfold hasEnd
  rw [Bool.eq_iff_iff]
  simp [List.any_eq_true, isEnd, List.filter_eq_nil_iff]
  exact ⟨fun ⟨a, b, h, h'⟩ => ⟨a, b, h, fun hn => h'.resolve_left hn⟩, fun ⟨a, b, h, h'⟩ => ⟨a, b, h, (Decidable.em _).imp id h'⟩⟩
theorem reading_loop {f : Fmt} (h : f.Ok) {row : List Int} (hr : ∀ s ∈ row, 0 ≤ s ∧ s < f.base) (hl : row.length ≤ 1000) (bl0 : List Nat) (I0 : HdI f row f.head.length bl0) (x0 : Option D) :
    let tc : Rho → Out Rho Bool := isB (Z.binT ltD (varT 5) (callB lenD (consT (varT 1) (nilT))))
    let tb : Rho → Out Rho Flw := sqT (asgT 6 (callT [none, none] S__law_use (consT (varT 0) (consT (Z.binT idxD (varT 1) (varT 5)) (nilT))))) (sqT (ifT (isB (Z.binT eqD (varT 6) (cT (.str ("" : Str))))) (retT (tupT (consT (cT .none) (consT (cT .none) (consT (tupT (consT (varT 5) (consT (cT (.str ("tag" : Str))) (nilT)))) (nilT)))))) (nxT)) (sqT (ifT (isB (Z.binT eqD (varT 6) (cT (.str ("end" : Str))))) (retT (tupT (consT (callO 2 tupC) (consT (Z.binT addD (varT 3) (Z.binT lrgD (Z.binT addD (varT 5) (cT (.int 1))) (callB lenD (consT (varT 1) (nilT))))) (consT (cT .none) (nilT)))))) (nxT)) (sqT (ifT (isB (Z.binT eqD (varT 6) (cT (.str ("stop" : Str))))) (sqT (asgT 7 (Z.binT eqD (Z.binT addD (varT 5) (cT (.int 1))) (callB lenD (consT (varT 1) (nilT))))) (retT (ifT (isB (varT 7)) (tupT (consT (callO 2 tupC) (consT (varT 3) (consT (cT .none) (nilT))))) (tupT (consT (cT .none) (consT (cT .none) (consT (tupT (consT (Z.binT addD (varT 5) (cT (.int 1))) (consT (cT (.str ("behind" : Str))) (nilT)))) (nilT)))))))) (nxT)) (sqT (tgtT (tupG 2 (consG (setG 8) (consG (setG 9) (nilG)))) (callT [none, none, none, none] S__law_chunk (consT (varT 0) (consT (varT 1) (consT (Z.binT addD (varT 5) (cT (.int 1))) (consT (varT 6) (nilT))))))) (sqT (ifT (isB (Z.binT isD (varT 8) (cT .none))) (retT (tupT (consT (cT .none) (consT (cT .none) (consT (varT 9) (nilT)))))) (nxT)) (sqT (ifT (isB (Z.binT eqD (varT 6) (cT (.str ("skip" : Str))))) (asgT 3 (Z.binT catLD (varT 3) (Z.binT lrgD (Z.binT subD (varT 9) (callB lenD (consT (varT 8) (nilT)))) (varT 9)))) (appT 2 (tupT (consT (Z.binT idxD (varT 1) (varT 5)) (consT (varT 8) (nilT)))))) (asgT 5 (varT 9))))))))
    (∃ c bl y z u v w, whT tc tb fuel [some f.d, some (sgD row), some (.list []), some (ntD bl0), x0, some (.int f.head.length), none, none, none, none, none] = .ok .nx [some f.d, some (sgD row), some (.list c), some (ntD bl), x0, y, z, u, v, w, none] ∧ ∃ ps, ChI f row row.length ps bl ∧ c = (content f ps).map chD) ∨
    ∃ d ρ, whT tc tb fuel [some f.d, some (sgD row), some (.list []), some (ntD bl0), x0, some (.int f.head.length), none, none, none, none, none] = .ok (.rt d) ρ ∧ (BadB d ∨ GoodT f row d) := by
  intro tc tb
  have lp := whT_inv (tc := tc) (tb := tb)
    (fun m ρ => ∃ (p : Nat) (ps : List (Int × List Int)) (bl : List Nat) (y z u v : Option D), ρ = [some f.d, some (sgD row), some (.list ((content f ps).map chD)), some (ntD bl), x0, some (.int (p : Int)), y, z, u, v, none] ∧ m = row.length - p ∧ ChI f row p ps bl ∧ ps.length ≤ p)
    (fun ρ => ∃ (ps : List (Int × List Int)) (bl : List Nat) (y z u v w : Option D), ρ = [some f.d, some (sgD row), some (.list ((content f ps).map chD)), some (ntD bl), x0, w, y, z, u, v, none] ∧ ChI f row row.length ps bl)
    (fun d _ => BadB d ∨ GoodT f row d) (by
      rintro m ρ ⟨p, ps, bl, y, z, u, v, rfl, hm, I, hps⟩
      have hpl := I.l
      have hbl := I.blind_len
      have hcl : (content f ps).length ≤ ps.length := List.length_filter_le ..
      refine ⟨decide (p < row.length), [some f.d, some (sgD row), some (.list ((content f ps).map chD)), some (ntD bl), x0, some (.int (p : Int)), y, z, u, v, none], by simp [tc, len_sg], fun hc => ?_, fun hc => ?_⟩
      · have : p = row.length := by
          have := of_decide_eq_false hc
          omega
        subst this
        exact ⟨ps, bl, _, _, _, _, _, rfl, I⟩
      · have hp : p < row.length := of_decide_eq_true hc
        have e1 := sg_at hp
        have hd := List.drop_eq_getElem_cons hp
        cases hu : use f row[p] with
        | none =>
          exact .inr (.inr ⟨.tuple [.none, .none, .tuple [.int (p : Int), .str "tag"]], _, by simp [tb, e1, law_use_eq, hu, uS_none]; rfl, .inl ⟨_, _, rfl⟩⟩)
        | some us =>
          by_cases h1 : us = .end_
          · subst h1
            have hlr := lrg_nats (p + 1) (row.length - (p + 1)) (by omega)
            rw [show ((p + 1 : Nat) : Int) + ((row.length - (p + 1) : Nat) : Int) = (row.length : Int) by omega, show ((p + 1 : Nat) : Int) = (p : Int) + 1 by omega] at hlr
            have had := add_nt bl (List.range' (p + 1) (row.length - (p + 1))) (by simp; omega)
            refine .inr (.inr ⟨.tuple [coD (content f ps), ntD (bl ++ List.range' (p + 1) (row.length - (p + 1))), .none], _, by simp [tb, e1, law_use_eq, hu, uS_none, uS_end, len_sg, hlr, had, coD]; rfl, .inr ?_⟩)
            have he : EndOk f (row.drop p) := .inr (.inl ⟨row[p], row.drop (p + 1), hd, hu⟩)
            obtain ⟨F1, F2⟩ := I.file he
            refine ⟨_, F1, F2, ?_⟩
            have e2 : blindF f (first f) 0 row = bl ++ List.range' (p + 1) (row.length - (p + 1)) := by
              conv => lhs; rw [← List.take_append_drop p row]
              rw [blindF_app I.r, ← I.b, hd, blindF]
              have hs : step f .tag row[p] = some .room := by simp [step, hu]
              rw [hs]
              simp only [blind_room, List.length_drop, looking, List.length_take, Nat.min_eq_left hpl, Nat.zero_add]
              simp
            rw [e2]
          · by_cases h2 : us = .stop
            · subst h2
              by_cases hg : p + 1 = row.length
              · have hg' : (p : Int) + 1 = (row.length : Int) := by omega
                refine .inr (.inr ⟨.tuple [coD (content f ps), ntD bl, .none], _, by simp [tb, e1, law_use_eq, hu, uS_none, uS_end, uS_stop, len_sg, hg', coD]; rfl, .inr ?_⟩)
                have hd0 : row.drop (p + 1) = [] := List.drop_eq_nil_of_le (by omega)
                have he : EndOk f (row.drop p) := .inr (.inr ⟨row[p], by rw [hd, hd0], hu⟩)
                obtain ⟨F1, F2⟩ := I.file he
                refine ⟨_, F1, F2, ?_⟩
                have e2 : blindF f (first f) 0 row = bl := by
                  conv => lhs; rw [← List.take_append_drop p row]
                  rw [blindF_app I.r, ← I.b, hd, hd0]
                  simp [blindF, looking, step, hu]
                rw [e2]
              · have hg' : ¬ ((p : Int) + 1 = (row.length : Int)) := by omega
                exact .inr (.inr ⟨.tuple [.none, .none, .tuple [.int ((p : Int) + 1), .str "behind"]], _, by simp [tb, e1, law_use_eq, hu, uS_none, uS_end, uS_stop, len_sg, hg']; rfl, .inl ⟨_, _, rfl⟩⟩)
            · have hch : us.chunk = true := by cases us <;> simp [Use.chunk] at h1 h2 ⊢
              obtain ⟨d, ec, hd | ⟨b, k, rfl, hb, hk, hpk, hsp⟩⟩ := law_chunk_eq h hr (p + 1) us
              · obtain ⟨a, w, rfl⟩ := hd
                rw [show ((p + 1 : Nat) : Int) = (p : Int) + 1 by omega] at ec
                exact .inr (.inr ⟨.tuple [.none, .none, .tuple [.int a, .str w]], _, by simp [tb, e1, law_use_eq, hu, useS, uS_none, uS_end, uS_stop, h1, h2, us_end, us_stop, us_emp, ec]; rfl, .inl ⟨_, _, rfl⟩⟩)
              · rw [show ((p + 1 : Nat) : Int) = (p : Int) + 1 by omega] at ec
                obtain ⟨I', hke⟩ := I.next h hp us hu hch b hb hk hpk hsp
                have hbl2 := I'.blind_len
                by_cases h3 : us = .skip
                · subst h3
                  refine .inl ⟨[some f.d, some (sgD row), some (.list ((content f (ps ++ [(row[p], b)])).map chD)), some (ntD (bl ++ List.range' (p + 1 + (lenS f b.length).length) b.length)), x0, some (.int (k : Int)), some (.str Use.skip.s), z, some (sgD b), some (.int (k : Int)), none], row.length - k, .inl ?_, by omega, k, _, _, _, _, _, _, rfl, rfl, by simpa using I', by simp; omega⟩
                  have hlr := lrg_nats (p + 1 + (lenS f b.length).length) b.length (by simp at hke; omega)
                  have q1 : ((p + 1 + (lenS f b.length).length : Nat) : Int) = (k : Int) - (b.length : Int) := by simp at hke; omega
                  have q2 : ((p + 1 + (lenS f b.length).length : Nat) : Int) + ((b.length : Nat) : Int) = (k : Int) := by simp at hke; omega
                  rw [q2, q1] at hlr
                  have hct := cat_nt bl (List.range' (p + 1 + (lenS f b.length).length) b.length) (by simp at hbl2 ⊢; omega)
                  rw [content_snoc, hu]
                  simp [tb, e1, law_use_eq, hu, useS, h1, h2, us_end, us_stop, us_skip, us_emp, ec, len_sg, hlr, hct, useTold, Use.told, sgN]
                · have ht : us.told = true := by cases us <;> simp [Use.chunk, Use.told] at h3 hch ⊢
                  refine .inl ⟨[some f.d, some (sgD row), some (.list ((content f (ps ++ [(row[p], b)])).map chD)), some (ntD bl), x0, some (.int (k : Int)), some (.str us.s), z, some (sgD b), some (.int (k : Int)), none], row.length - k, .inl ?_, by omega, k, _, _, _, _, _, _, rfl, rfl, by simpa [h3] using I', by simp; omega⟩
                  rw [content_snoc, hu]
                  simp [tb, e1, law_use_eq, hu, useS, h1, h2, h3, us_end, us_stop, us_skip, us_emp, ec, useTold, ht, chD, sgN]
                  rw [sizeLine_eq]; omega)
    fuel (row.length - f.head.length) [some f.d, some (sgD row), some (.list []), some (ntD bl0), x0, some (.int f.head.length), none, none, none, none, none]
    ⟨f.head.length, [], bl0, _, _, _, _, rfl, rfl, ChI.zero I0, by simp⟩ (by rw [fuel_eq]; omega)
  rcases lp with ⟨ρ', e, ps, bl, y, z, u, v, w, rfl, I⟩ | ⟨d, ρ', e, hb⟩
  · exact .inl ⟨_, bl, _, _, _, _, _, e, ps, I, rfl⟩
  · exact .inr ⟨d, ρ', e, hb⟩
theorem law_reading_eq {f : Fmt} (h : f.Ok) {row : List Int} (hr : ∀ s ∈ row, 0 ≤ s ∧ s < f.base) (hl : row.length ≤ 1000) : ∃ d, S__law_reading [f.d, sgD row] = .ok d [] ∧ (BadB d ∨ GoodT f row d) := by
  simp only [S__law_reading, T__law_reading, runF_eq, rho0]
  have rg : rng1D [.int (f.head.length : Int)] = some ((List.range' 0 f.head.length).map fun i : Nat => PyData.int (i : Int)) := by
    have := rng_nat (f.head.length : Int) (by omega) (by have := h.hl; omega)
    rwa [Int.toNat_natCast, List.range_eq_range'] at this
  have hn : lenD [.tuple (f.head.map mkD)] = some (.int f.head.length) := by simp
  rcases reading_head h hl with ⟨bl0, x0, e1, I0⟩ | ⟨d, ρ, e1, hb⟩
  · rcases reading_loop h hr hl bl0 I0 x0 with ⟨c, bl, y, z, u, v, w, e2, ps, I, rfl⟩ | ⟨d, ρ, e2, hb⟩
    · have ee := ended_eq h (some (sgD row)) (some (.list ((content f ps).map chD))) (some (ntD bl)) x0 y z u v w
      have ne := lists_ne ((f.tags.filter isEnd).map tgD) (lay_tg _)
      by_cases hz : f.tags.filter isEnd = []
      · refine ⟨.tuple [coD (content f ps), ntD bl, .none], ?_, .inr ?_⟩
        · rw [hz] at ee ne
          simp only [sqT_eq, par2T_eq, forS_eq, rngT_eq, consT_eq, lstT_eq, nilT_eq, bind_ok, sqK_nx, List.length_nil]
          simp at ee ne ⊢
          simp [rg, e1, e2, ee, ne, coD]
        · have hend : hasEnd f = false := by rw [hasEnd_filter, hz]; rfl
          have hd0 : row.drop row.length = [] := List.drop_eq_nil_of_le (Nat.le_refl _)
          obtain ⟨F1, F2⟩ := I.file (.inl ⟨hend, hd0⟩)
          refine ⟨_, F1, F2, ?_⟩
          have := I.b
          rw [List.take_length] at this
          rw [this]
      · refine ⟨.tuple [.none, .none, .tuple [.int row.length, .str "short"]], ?_, .inl ⟨_, _, rfl⟩⟩
        simp at ee ne ⊢
        simp [rg, e1, e2, ee, ne, hz, len_sg]
    · exact ⟨d, by simp at e1 e2 ⊢; simp [rg, e1, e2], hb⟩
  · exact ⟨d, by simp at e1 ⊢; simp [rg, e1], .inl hb⟩
end K80

/-! file KP16 -/
set_option Elab.async false
set_option linter.all false
set_option autoImplicit false
set_option maxRecDepth 100000
set_option maxHeartbeats 4000000
namespace K80
open PySem PySem.Spec L2 Z
/-! ### a drawn file -/
def InB (b : Int) (l : List Int) : Prop := ∀ s ∈ l, 0 ≤ s ∧ s < b
theorem InB.app {b : Int} {l m : List Int} (h : InB b l) (h' : InB b m) : InB b (l ++ m) := fun s hs => (List.mem_append.mp hs).elim (h s) (h' s)
theorem InB.one {b s : Int} (h : 0 ≤ s) (h' : s < b) : InB b [s] := fun q hq => by rw [List.mem_singleton.mp hq]; exact ⟨h, h'⟩
theorem InB.nil {b : Int} : InB b [] := fun _ h => by cases h
theorem InB.two {b s t : Int} (h : 0 ≤ s ∧ s < b) (h' : 0 ≤ t ∧ t < b) : InB b [s, t] := fun q hq => by
  rcases List.mem_cons.mp hq with rfl | hq
  · exact h
  · rw [List.mem_singleton.mp hq]; exact h'
theorem InB.take {b : Int} {l : List Int} (h : InB b l) (n : Nat) : InB b (l.take n) := fun s hs => h s (List.mem_of_mem_take hs)
theorem InB.drop {b : Int} {l : List Int} (h : InB b l) (n : Nat) : InB b (l.drop n) := fun s hs => h s (List.mem_of_mem_drop hs)
theorem turn_draw {n : Nat} {d : D} (hB : Bag n d) (base : Int) (h0 : 2 ≤ base) (h1 : base ≤ 256) (m : Nat) (hm : m ≤ 1000) (hn : n + 2000 ≤ 1000000000000) (a1 a2 a4 a5 a6 a7 a8 a9 a10 a11 a12 a13 a14 : Option D) :
    ∃ (l : List Int) (d' : D), lcT [15] (fun ρ => .ok ((List.range m).map fun i : Nat => PyData.int (i : Int)) ρ) (setG 15) yesT (callT [some 0, none] S__law_grab (ownT 0 (consT (varT 3) (nilT)))) [some d, a1, a2, some (.int base), a4, a5, a6, a7, a8, a9, a10, a11, a12, a13, a14, none]
      = .ok (.list (l.map .int)) [some d', a1, a2, some (.int base), a4, a5, a6, a7, a8, a9, a10, a11, a12, a13, a14, none] ∧ Bag (n + m) d' ∧ InB base l ∧ l.length = m := by
  obtain ⟨l, ρ', er, bag, x, xs, rfl, rfl, ⟨m', hb, hm'⟩, ho, hl⟩ := lcLoop_inv (vs := [15]) (g := setG 15) (tt := yesT) (te := callT [some 0, none] S__law_grab (ownT 0 (consT (varT 3) (nilT))))
    (fun i : Nat => PyData.int (i : Int))
    (fun rest acc ρ => ∃ bag x xs, ρ = [some bag, a1, a2, some (.int base), a4, a5, a6, a7, a8, a9, a10, a11, a12, a13, a14, x] ∧ acc = xs.map .int ∧ (∃ m', Bag m' bag ∧ m' + rest.length ≤ n + m) ∧ InB base xs ∧ xs.length + rest.length = m)
    (by
      rintro s rest acc ρ ⟨bag, x, xs, rfl, rfl, ⟨m', hb, hm'⟩, ho, hl⟩
      rw [List.length_cons] at hm' hl
      obtain ⟨v, bag1, e1, hv0, hv1, hb1⟩ := grab_eq hb (by omega) base (by omega) (by omega)
      refine ⟨[some bag, a1, a2, some (.int base), a4, a5, a6, a7, a8, a9, a10, a11, a12, a13, a14, some (.int (s : Int))], by simp [wipeR], true, [some bag, a1, a2, some (.int base), a4, a5, a6, a7, a8, a9, a10, a11, a12, a13, a14, some (.int (s : Int))], by simp [yesT], fun _ => ?_, fun h => by cases h⟩
      exact ⟨.int v, [some bag1, a1, a2, some (.int base), a4, a5, a6, a7, a8, a9, a10, a11, a12, a13, a14, some (.int (s : Int))], by simp [e1], by simp only [List.length_map]; rw [sizeLine_eq]; omega, bag1, _, xs ++ [v], rfl, by simp, ⟨m' + 1, hb1, by omega⟩, ho.app (InB.one hv0 hv1), by simp; omega⟩)
    (List.range m) [] [some d, a1, a2, some (.int base), a4, a5, a6, a7, a8, a9, a10, a11, a12, a13, a14, none]
    ⟨d, none, [], rfl, rfl, ⟨n, hB, by simp⟩, InB.nil, by simp⟩
  refine ⟨xs, bag, ?_, hb.mono (by simp at hm'; omega), ho, by simpa using hl⟩
  have := lcT_run (vs := [15]) (Ti := fun ρ => .ok ((List.range m).map fun i : Nat => PyData.int (i : Int)) ρ) (ρ := [some d, a1, a2, some (.int base), a4, a5, a6, a7, a8, a9, a10, a11, a12, a13, a14, none]) rfl er
  simpa [putBack] using this
theorem lcT_iter {vs : List Nat} {Ti : Rho → Out Rho (List D)} {g : D → Rho → Option Rho} {tt : Rho → Out Rho Bool} {te : Rho → Out Rho D} {ρ ρ1 : Rho} {ds : List D} (hi : Ti ρ = .ok ds ρ1) : lcT vs Ti g tt te ρ = lcT vs (fun ρ => .ok ds ρ) g tt te ρ1 := by
  unfold lcT
  rw [hi]
theorem head_fill {n : Nat} {d : D} (hB : Bag n d) {f : Fmt} (h : f.Ok) (hn : n + 3000 ≤ 1000000000000) (many : D) :
    ∃ (l : List Int) (d' : D), lcT [14] (seqT (Z.binT idxD (varT 1) (cT (.int 1)))) (setG 14) (yesT) (ifT (isB (Z.binT isD (varT 14) (cT .none))) (callT [some 0, none] S__law_grab (ownT 0 (consT (Z.binT idxD (varT 1) (cT (.int 0))) (nilT)))) (varT 14)) [some d, some f.d, some many, none, none, none, none, none, none, none, none, none, none, none, none, none]
      = .ok (.list (l.map .int)) [some d', some f.d, some many, none, none, none, none, none, none, none, none, none, none, none, none, none] ∧ Bag (n + 1000) d' ∧ InB f.base l ∧ l.length = f.head.length := by
  have hb2 := h.b2
  have hb3 := h.b256
  have hl := h.hl
  obtain ⟨l, ρ', er, bag, x, xs, rfl, rfl, ⟨m', hb, hm'⟩, ho, hl'⟩ := lcLoop_inv (vs := [14]) (g := setG 14) (tt := yesT) (te := ifT (isB (Z.binT isD (varT 14) (cT .none))) (callT [some 0, none] S__law_grab (ownT 0 (consT (Z.binT idxD (varT 1) (cT (.int 0))) (nilT)))) (varT 14))
    mkD
    (fun rest acc ρ => ∃ bag x xs, ρ = [some bag, some f.d, some many, none, none, none, none, none, none, none, none, none, none, none, x, none] ∧ acc = xs.map .int ∧ (∃ m', Bag m' bag ∧ m' + rest.length ≤ n + 1000) ∧ InB f.base xs ∧ xs.length + rest.length = f.head.length ∧ ∀ i, some i ∈ rest → 0 ≤ i ∧ i < f.base)
    (by
      rintro s rest acc ρ ⟨bag, x, xs, rfl, rfl, ⟨m', hb, hm'⟩, ho, hl, hin⟩
      rw [List.length_cons] at hm' hl
      obtain ⟨v, bag1, e1, hv0, hv1, hb1⟩ := grab_eq hb (by omega) f.base (by omega) (by omega)
      refine ⟨[some bag, some f.d, some many, none, none, none, none, none, none, none, none, none, none, none, some (mkD s), none], by simp [wipeR], true, [some bag, some f.d, some many, none, none, none, none, none, none, none, none, none, none, none, some (mkD s), none], by simp [yesT], fun _ => ?_, fun h => by cases h⟩
      cases s with
      | none => exact ⟨.int v, [some bag1, some f.d, some many, none, none, none, none, none, none, none, none, none, none, none, some .none, none], by simp [e1, mkD], by simp only [List.length_map]; rw [sizeLine_eq]; omega, bag1, _, xs ++ [v], rfl, by simp, ⟨m' + 1, hb1, by omega⟩, ho.app (InB.one hv0 hv1), by simp; omega, fun i hi => hin i (List.mem_cons_of_mem _ hi)⟩
      | some i =>
        have := hin i (List.mem_cons_self ..)
        exact ⟨.int i, [some bag, some f.d, some many, none, none, none, none, none, none, none, none, none, none, none, some (.int i), none], by simp [mkD], by simp only [List.length_map]; rw [sizeLine_eq]; omega, bag, _, xs ++ [i], rfl, by simp, ⟨m', hb, by omega⟩, ho.app (InB.one this.1 this.2), by simp; omega, fun i hi => hin i (List.mem_cons_of_mem _ hi)⟩)
    f.head [] [some d, some f.d, some many, none, none, none, none, none, none, none, none, none, none, none, none, none]
    ⟨d, none, [], rfl, rfl, ⟨n, hB, by omega⟩, InB.nil, by simp, h.hd⟩
  refine ⟨xs, bag, ?_, hb.mono (by simp at hm'; omega), ho, by simpa using hl'⟩
  have := lcT_run (vs := [14]) (Ti := seqT (Z.binT idxD (varT 1) (cT (.int 1)))) (ρ := [some d, some f.d, some many, none, none, none, none, none, none, none, none, none, none, none, none, none]) (by simp) er
  simpa [putBack] using this
theorem ends_draw {f : Fmt} (h : f.Ok) (a b c e : Option D) : lcT [12] (seqT (Z.binT idxD (varT 1) (cT (.int 4)))) (setG 12) (isB (Z.binT inD (Z.binT idxD (varT 12) (cT (.int 1))) (tupT (consT (cT (.str ("end" : Str))) (consT (cT (.str ("stop" : Str))) (nilT)))))) (varT 12) [a, some f.d, b, c, e, none, none, none, none, none, none, none, none, none, none, none] = .ok (.list ((f.tags.filter isEnd).map tgD)) [a, some f.d, b, c, e, none, none, none, none, none, none, none, none, none, none, none] := by
  have tl := h.tl
  exact lcT_pure (vs := [12]) (Ti := seqT (Z.binT idxD (varT 1) (cT (.int 4)))) (g := setG 12) (tt := isB (Z.binT inD (Z.binT idxD (varT 12) (cT (.int 1))) (tupT (consT (cT (.str ("end" : Str))) (consT (cT (.str ("stop" : Str))) (nilT)))))) (te := varT 12)
    f.tags tgD isEnd tgD (fun t => [a, some f.d, b, c, e, none, none, none, none, none, none, none, some (tgD t), none, none, none])
    (by simp) (fun t _ => by
      have e4 : idxD (tgD t) (.int 1) = some (.str t.2.s) := by simp [tgD]
      simp [wipeR, e4, inEnd, isEnd]) (by simp; omega)
theorem uS_chunk (o : Option Use) : inD (.str (useS o)) (.tuple [.str "keep", .str "check", .str "skip"]) = some (.bool (match o with | some u => u.chunk | none => false)) := by
  unfold inD inB
  have e : okIn (.str (useS o)) [.str "keep", .str "check", .str "skip"] = true := by
    have : PyData.strOk (useS o) = true := by
      cases o with
      | none => decide +kernel
      | some u => exact use_ok u
    simp [okIn, PyData.canLay0, PyData.canLayAll0, PyData.depth, PyData.depthAll, this]
    exact ⟨by decide +kernel, by decide +kernel, by decide +kernel⟩
  simp only [itemsD_tuple, e]
  cases o with
  | none => simp [PyData.eqv, useS]; decide +kernel
  | some u => cases u <;> simp [PyData.eqv, useS] <;> decide +kernel
end K80

/-! file KP17 -/
set_option Elab.async false
set_option linter.all false
set_option autoImplicit false
set_option maxRecDepth 100000
set_option maxHeartbeats 4000000
namespace K80
open PySem PySem.Spec L2 Z
def liD (l : List Int) : D := .list (l.map .int)
theorem liD_add (a b : List Int) (h : a.length + b.length ≤ 1000000) : addD (liD a) (liD b) = some (liD (a ++ b)) := by
  simp [addD, liD]; omega
theorem liD_cat (a b : List Int) (h : a.length + b.length ≤ 1000000) : catLD (liD a) (liD b) = some (liD (a ++ b)) := by
  simp [catLD, liD]; omega
theorem liD_sum (l : List Int) : sumD [liD l] = some (.int l.sum) := by simp [sumD, liD]
theorem asg_run {i : Nat} {T : Rho → Out Rho D} {ρ ρ1 : Rho} {d : D} (e : T ρ = .ok d ρ1) : asgT i T ρ = .ok .nx (ρ1.set i (some d)) := by
  rw [asgT_eq, e]; rfl
theorem chunk_draw {n : Nat} {d : D} (hB : Bag n d) {f : Fmt} (h : f.Ok) (hn : n + 3000 ≤ 1000000000000) (many : D) (found : List Int) (hf : InB f.base found) (hfl : found.length ≤ 100000) (es k' g7 g8 g9 g10 g11 : Option D) :
    let tb : Rho → Out Rho Flw := sqT (asgT 7 (callT [some 0, none] S__law_grab (ownT 0 (consT (varT 3) (nilT))))) (sqT (asgT 8 (callT [none, none] S__law_use (consT (varT 1) (consT (varT 7) (nilT))))) (ifT (isB (Z.binT inD (varT 8) (tupT (consT (cT (.str ("keep" : Str))) (consT (cT (.str ("check" : Str))) (consT (cT (.str ("skip" : Str))) (nilT))))))) (sqT (asgT 9 (callT [some 0, none] S__law_grab (ownT 0 (consT (Z.binT addD (callB minD (consT (Z.binT idxD (varT 1) (cT (.int 3))) (consT (Z.binT idxD (lstT (consT (cT (.int 2)) (consT (cT (.int 6)) (consT (cT (.int 150)) (nilT))))) (callT [some 0, none] S__law_grab (ownT 0 (consT (cT (.int 3)) (nilT))))) (nilT)))) (cT (.int 1))) (nilT))))) (sqT (asgT 9 (ifT (isB (Z.binT eqD (Z.binT idxD (varT 1) (cT (.int 2))) (cT (.str ("one" : Str))))) (callB minD (consT (varT 9) (consT (Z.binT subD (varT 3) (cT (.int 1))) (nilT)))) (callB minD (consT (varT 9) (consT (Z.binT subD (Z.binT mulD (varT 3) (varT 3)) (cT (.int 1))) (nilT)))))) (sqT (asgT 10 (lcT [15] (rngT rng1D (consT (varT 9) (nilT))) (setG 15) (yesT) (callT [some 0, none] S__law_grab (ownT 0 (consT (varT 3) (nilT)))))) (sqT (asgT 11 (ifT (isB (Z.binT eqD (Z.binT idxD (varT 1) (cT (.int 2))) (cT (.str ("high" : Str))))) (lstT (consT (Z.binT fdivD (varT 9) (varT 3)) (consT (Z.binT modD (callB intC (consT (varT 9) (nilT))) (varT 3)) (nilT)))) (lstT (consT (Z.binT modD (callB intC (consT (varT 9) (nilT))) (varT 3)) (consT (Z.binT fdivD (varT 9) (varT 3)) (nilT)))))) (sqT (asgT 4 (Z.binT catLD (Z.binT addD (Z.binT addD (varT 4) (lstT (consT (varT 7) (nilT)))) (ifT (isB (Z.binT eqD (Z.binT idxD (varT 1) (cT (.int 2))) (cT (.str ("one" : Str))))) (lstT (consT (varT 9) (nilT))) (varT 11))) (varT 10))) (ifT (isB (Z.binT eqD (varT 8) (cT (.str ("check" : Str))))) (appT 4 (Z.binT modD (callB intC (consT (callB sumD (consT (varT 10) (nilT))) (nilT))) (varT 3))) (nxT))))))) (nxT)))
    ∃ (found' : List Int) (d' : D) (a7 a8 a9 a10 a11 : Option D), tb [some d, some f.d, some many, some (.int f.base), some (liD found), es, k', g7, g8, g9, g10, g11, none, none, none, none] = .ok .nx [some d', some f.d, some many, some (.int f.base), some (liD found'), es, k', a7, a8, a9, a10, a11, none, none, none, none] ∧ Bag (n + 200) d' ∧ InB f.base found' ∧ found'.length ≤ found.length + 200 := by
  intro tb
  have hb2 := h.b2
  have hb3 := h.b256
  have hm0 := h.m0
  obtain ⟨sg, d1, e1, s0, s1, b1⟩ := grab_eq hB (by omega) f.base (by omega) (by omega)
  by_cases hu : (match use f sg with | some u => u.chunk | none => false) = true
  · obtain ⟨u, huu⟩ : ∃ u, use f sg = some u := by
      cases hx : use f sg with
      | none => rw [hx] at hu; cases hu
      | some u => exact ⟨u, rfl⟩
    rw [huu] at hu
    simp only at hu
    obtain ⟨v3, d2, e2, c0, c1, b2⟩ := grab_eq b1 (by omega) 3 (by decide) (by decide)
    have hw : ∃ x : Int, atI [PyData.int 2, .int 6, .int 150] v3 = some (.int x) ∧ 0 ≤ x ∧ x ≤ 150 := by
      have : v3 = 0 ∨ v3 = 1 ∨ v3 = 2 := by omega
      rcases this with rfl | rfl | rfl
      · exact ⟨2, rfl, by decide, by decide⟩
      · exact ⟨6, rfl, by decide, by decide⟩
      · exact ⟨150, rfl, by decide, by decide⟩
    obtain ⟨x, ex, x0, x1⟩ := hw
    obtain ⟨mn, hmn⟩ : ∃ mn : Int, mn = (if x < f.most then x else f.most) := ⟨_, rfl⟩
    have mn0 : 0 ≤ mn ∧ mn ≤ 150 := by rw [hmn]; split <;> omega
    obtain ⟨w1, d3, e3, p0, p1, b3⟩ := grab_eq b2 (by omega) (mn + 1) (by omega) (by omega)
    have hbb : 4 ≤ f.base * f.base := by
      have := Int.mul_le_mul hb2 hb2 (by decide) (by omega)
      omega
    obtain ⟨cap, hcap⟩ : ∃ cap : Int, cap = (if f.width = .one then f.base - 1 else f.base * f.base - 1) := ⟨_, rfl⟩
    have cap0 : 0 ≤ cap := by rw [hcap]; split <;> omega
    obtain ⟨w, hw⟩ : ∃ w : Int, w = (if cap < w1 then cap else w1) := ⟨_, rfl⟩
    have w0 : 0 ≤ w ∧ w ≤ 150 ∧ w ≤ cap := by rw [hw]; split <;> omega
    have eone : (if f.width = .one then (if f.base - 1 < w1 then f.base - 1 else w1) else (if f.base * f.base - 1 < w1 then f.base * f.base - 1 else w1)) = w := by
      rw [hw, hcap]
      split <;> rfl
    obtain ⟨l, d4, e4, b4, l0, l1⟩ := turn_draw b3 f.base hb2 hb3 w.toNat (by omega) (by omega) (some f.d) (some many) (some (liD found)) es k' (some (.int sg)) (some (.str (useS (use f sg)))) (some (.int w)) g10 g11 none none none
    have rg := rng_nat w w0.1 (by omega)
    have lcr : ∀ ρ : Rho, getS 9 ρ = some (.int w) → rngT rng1D (consT (varT 9) (nilT)) ρ = .ok ((List.range w.toNat).map fun i : Nat => PyData.int (i : Int)) ρ := fun ρ hρ => by simp [hρ, rg]
    have e4' := lcT_iter (vs := [15]) (g := setG 15) (tt := yesT) (te := callT [some 0, none] S__law_grab (ownT 0 (consT (varT 3) (nilT)))) (lcr [some d3, some f.d, some many, some (.int f.base), some (liD found), es, k', some (.int sg), some (.str (useS (use f sg))), some (.int w), g10, g11, none, none, none, none] rfl)
    rw [e4] at e4'
    have hq0 : 0 ≤ w / f.base := Int.ediv_nonneg w0.1 (by omega)
    have hr0 := Int.emod_nonneg w (show f.base ≠ 0 by omega)
    have hr1 := Int.emod_lt_of_pos w (show 0 < f.base by omega)
    have hq1 : f.width ≠ .one → w / f.base < f.base := fun hne => by
      have hc : cap = f.base * f.base - 1 := by rw [hcap, if_neg hne]
      exact Int.ediv_lt_of_lt_mul (by omega) (by omega)
    obtain ⟨sz, hsz⟩ : ∃ sz : List Int, sz = (if f.width = .high then [w / f.base, w % f.base] else [w % f.base, w / f.base]) := ⟨_, rfl⟩
    obtain ⟨ln, hln⟩ : ∃ ln : List Int, ln = (if f.width = .one then [w] else sz) := ⟨_, rfl⟩
    have lnB : InB f.base ln := by
      rw [hln]
      by_cases ho : f.width = .one
      · rw [if_pos ho]
        have : cap = f.base - 1 := by rw [hcap, if_pos ho]
        exact InB.one w0.1 (by omega)
      · rw [if_neg ho, hsz]
        have := hq1 ho
        split
        · exact InB.two ⟨hq0, this⟩ ⟨hr0, hr1⟩
        · exact InB.two ⟨hr0, hr1⟩ ⟨hq0, this⟩
    have lnl : ln.length ≤ 2 := by
      rw [hln, hsz]
      split
      · simp
      · split <;> simp
    obtain ⟨ck, hck⟩ : ∃ ck : List Int, ck = (if u = .check then [l.sum % f.base] else []) := ⟨_, rfl⟩
    have ckB : InB f.base ck := by
      rw [hck]
      split
      · exact InB.one (Int.emod_nonneg _ (by omega)) (Int.emod_lt_of_pos _ (by omega))
      · exact InB.nil
    have q1 := liD_add found [sg] (by simp; omega)
    have q2 := liD_add (found ++ [sg]) ln (by simp; omega)
    have q3 := liD_cat (found ++ [sg] ++ ln) l (by simp; omega)
    have es1 : ∀ ρ : Rho, getS 1 ρ = some f.d → getS 9 ρ = some (.int w) → getS 3 ρ = some (.int f.base) → (ifT (isB (Z.binT eqD (Z.binT idxD (varT 1) (cT (.int 2))) (cT (.str ("high" : Str))))) (lstT (consT (Z.binT fdivD (varT 9) (varT 3)) (consT (Z.binT modD (callB intC (consT (varT 9) (nilT))) (varT 3)) (nilT)))) (lstT (consT (Z.binT modD (callB intC (consT (varT 9) (nilT))) (varT 3)) (consT (Z.binT fdivD (varT 9) (varT 3)) (nilT))))) ρ = .ok (liD sz) ρ := fun ρ h1 h2 h3 => by
      rw [hsz]
      by_cases hh : f.width = .high
      · simp [h1, h2, h3, wd_high, hh, h.fdiv, h.mod, liD]
      · simp [h1, h2, h3, wd_high, hh, h.fdiv, h.mod, liD]
    have es2 : ∀ ρ : Rho, getS 1 ρ = some f.d → getS 9 ρ = some (.int w) → getS 11 ρ = some (liD sz) → (ifT (isB (Z.binT eqD (Z.binT idxD (varT 1) (cT (.int 2))) (cT (.str ("one" : Str))))) (lstT (consT (varT 9) (nilT))) (varT 11)) ρ = .ok (liD ln) ρ := fun ρ h1 h2 h3 => by
      rw [hln]
      by_cases hh : f.width = .one
      · simp [h1, h2, h3, wd_one, hh, liD]
      · simp [h1, h2, h3, wd_one, hh]
    have es3 : ∀ ρ : Rho, getS 1 ρ = some f.d → getS 9 ρ = some (.int w1) → getS 3 ρ = some (.int f.base) → (ifT (isB (Z.binT eqD (Z.binT idxD (varT 1) (cT (.int 2))) (cT (.str ("one" : Str))))) (callB minD (consT (varT 9) (consT (Z.binT subD (varT 3) (cT (.int 1))) (nilT)))) (callB minD (consT (varT 9) (consT (Z.binT subD (Z.binT mulD (varT 3) (varT 3)) (cT (.int 1))) (nilT))))) ρ = .ok (.int w) ρ := fun ρ h1 h2 h3 => by
      rw [← eone]
      by_cases hh : f.width = .one
      · simp [h1, h2, h3, wd_one, hh]
      · simp [h1, h2, h3, wd_one, hh, h.mul]
    refine ⟨found ++ [sg] ++ ln ++ l ++ ck, d4, some (.int sg), some (.str (useS (use f sg))), some (.int w), some (liD l), some (liD sz), ?_, b4.mono (by omega), (((hf.app (InB.one s0 s1)).app lnB).app l0).app ckB, ?_⟩
    · have eu : eqD (.str (useS (use f sg))) (.str "check") = some (.bool (decide (u = .check))) := by rw [huu]; exact us_check u
      have ei : inD (.str (useS (use f sg))) (.tuple [.str "keep", .str "check", .str "skip"]) = some (.bool true) := by rw [uS_chunk, huu]; simp [hu]
      have eg : (callT [some 0, none] S__law_grab (ownT 0 (consT (Z.binT addD (callB minD (consT (Z.binT idxD (varT 1) (cT (.int 3))) (consT (Z.binT idxD (lstT (consT (cT (.int 2)) (consT (cT (.int 6)) (consT (cT (.int 150)) (nilT))))) (callT [some 0, none] S__law_grab (ownT 0 (consT (cT (.int 3)) (nilT))))) (nilT)))) (cT (.int 1))) (nilT))) : Rho → Out Rho D) [some d1, some f.d, some many, some (.int f.base), some (liD found), es, k', some (.int sg), some (.str (useS (use f sg))), g9, g10, g11, none, none, none, none] = .ok (.int w1) [some d3, some f.d, some many, some (.int f.base), some (liD found), es, k', some (.int sg), some (.str (useS (use f sg))), g9, g10, g11, none, none, none, none] := by
        simp [e2, ex, ← hmn, e3]
      show tb _ = _
      have t1 : (asgT 7 (callT [some 0, none] S__law_grab (ownT 0 (consT (varT 3) (nilT)))) : Rho → Out Rho Flw) [some d, some f.d, some many, some (.int f.base), some (liD found), es, k', g7, g8, g9, g10, g11, none, none, none, none] = .ok .nx [some d1, some f.d, some many, some (.int f.base), some (liD found), es, k', some (.int sg), g8, g9, g10, g11, none, none, none, none] := by simp [e1]
      have t2 : (asgT 8 (callT [none, none] S__law_use (consT (varT 1) (consT (varT 7) (nilT)))) : Rho → Out Rho Flw) [some d1, some f.d, some many, some (.int f.base), some (liD found), es, k', some (.int sg), g8, g9, g10, g11, none, none, none, none] = .ok .nx [some d1, some f.d, some many, some (.int f.base), some (liD found), es, k', some (.int sg), some (.str (useS (use f sg))), g9, g10, g11, none, none, none, none] := by simp [law_use_eq]
      have t3 : (isB (Z.binT inD (varT 8) (tupT (consT (cT (.str ("keep" : Str))) (consT (cT (.str ("check" : Str))) (consT (cT (.str ("skip" : Str))) (nilT)))))) : Rho → Out Rho Bool) [some d1, some f.d, some many, some (.int f.base), some (liD found), es, k', some (.int sg), some (.str (useS (use f sg))), g9, g10, g11, none, none, none, none] = .ok true [some d1, some f.d, some many, some (.int f.base), some (liD found), es, k', some (.int sg), some (.str (useS (use f sg))), g9, g10, g11, none, none, none, none] := by simp [ei]
      have f4 := es3 [some d3, some f.d, some many, some (.int f.base), some (liD found), es, k', some (.int sg), some (.str (useS (use f sg))), some (.int w1), g10, g11, none, none, none, none] rfl rfl rfl
      have f5 := es1 [some d4, some f.d, some many, some (.int f.base), some (liD found), es, k', some (.int sg), some (.str (useS (use f sg))), some (.int w), some (liD l), g11, none, none, none, none] rfl rfl rfl
      have f6 := es2 [some d4, some f.d, some many, some (.int f.base), some (liD found), es, k', some (.int sg), some (.str (useS (use f sg))), some (.int w), some (liD l), some (liD sz), none, none, none, none] rfl rfl rfl
      have f7 : (Z.binT catLD (Z.binT addD (Z.binT addD (varT 4) (lstT (consT (varT 7) (nilT)))) (ifT (isB (Z.binT eqD (Z.binT idxD (varT 1) (cT (.int 2))) (cT (.str ("one" : Str))))) (lstT (consT (varT 9) (nilT))) (varT 11))) (varT 10) : Rho → Out Rho D) [some d4, some f.d, some many, some (.int f.base), some (liD found), es, k', some (.int sg), some (.str (useS (use f sg))), some (.int w), some (liD l), some (liD sz), none, none, none, none] = .ok (liD (found ++ [sg] ++ ln ++ l)) [some d4, some f.d, some many, some (.int f.base), some (liD found), es, k', some (.int sg), some (.str (useS (use f sg))), some (.int w), some (liD l), some (liD sz), none, none, none, none] := by
        have q1' : addD (liD found) (.list [.int sg]) = some (liD (found ++ [sg])) := q1
        have this : (Z.binT addD (varT 4) (lstT (consT (varT 7) (nilT))) : Rho → Out Rho D) [some d4, some f.d, some many, some (.int f.base), some (liD found), es, k', some (.int sg), some (.str (useS (use f sg))), some (.int w), some (liD l), some (liD sz), none, none, none, none] = .ok (liD (found ++ [sg])) [some d4, some f.d, some many, some (.int f.base), some (liD found), es, k', some (.int sg), some (.str (useS (use f sg))), some (.int w), some (liD l), some (liD sz), none, none, none, none] := by
          simp [q1']
        rw [Z.binT_eq, Z.binT_eq, this]
        simp only [bind_ok]
        rw [f6]
        simp only [bind_ok, q2, of_some, varT_eq, getS_succ, getS_zero, getK_some, q3]
      have t4 := eg
      have u4 : (asgT 9 (callT [some 0, none] S__law_grab (ownT 0 (consT (Z.binT addD (callB minD (consT (Z.binT idxD (varT 1) (cT (.int 3))) (consT (Z.binT idxD (lstT (consT (cT (.int 2)) (consT (cT (.int 6)) (consT (cT (.int 150)) (nilT))))) (callT [some 0, none] S__law_grab (ownT 0 (consT (cT (.int 3)) (nilT))))) (nilT)))) (cT (.int 1))) (nilT)))) : Rho → Out Rho Flw) [some d1, some f.d, some many, some (.int f.base), some (liD found), es, k', some (.int sg), some (.str (useS (use f sg))), g9, g10, g11, none, none, none, none] = .ok .nx [some d3, some f.d, some many, some (.int f.base), some (liD found), es, k', some (.int sg), some (.str (useS (use f sg))), some (.int w1), g10, g11, none, none, none, none] := by
        rw [asgT_eq, eg]; rfl
      have u5 := asg_run (i := 9) f4
      have u6 := asg_run (i := 10) e4'
      rw [show PyData.list (l.map PyData.int) = liD l from rfl] at u6
      have u7 := asg_run (i := 11) f5
      have u8 := asg_run (i := 4) f7
      simp only [List.set_cons_succ, List.set_cons_zero] at u5 u6 u7 u8
      simp only [tb, sqT_eq, t1, sqK_nx, t2]
      rw [ifT_eq, t3]
      simp only [bind_ok, if_pos, sqT_eq, u4, u5, u6, u7, u8, sqK_nx]
      by_cases hk : u = .check
      · rw [hck, if_pos hk]
        simp [eu, hk, liD_sum, h.mod]
        simp [liD]
        rw [sizeLine_eq]; omega
      · rw [hck, if_neg hk]
        simp [eu, hk]
    · have : ck.length ≤ 1 := by rw [hck]; split <;> simp
      simp only [List.length_append, List.length_cons, List.length_nil]
      omega
  · have ei : inD (.str (useS (use f sg))) (.tuple [.str "keep", .str "check", .str "skip"]) = some (.bool false) := by
      rw [uS_chunk]
      cases hx : use f sg with
      | none => rfl
      | some u => rw [hx] at hu; simp only [Bool.not_eq_true] at hu; simp only [hu]
    exact ⟨found, d1, some (.int sg), some (.str (useS (use f sg))), g9, g10, g11, by simp [tb, e1, law_use_eq, ei], b1.mono (by omega), hf, by omega⟩
end K80

/-! file KP18 -/
set_option Elab.async false
set_option linter.all false
set_option autoImplicit false
set_option maxRecDepth 100000
set_option maxHeartbeats 4000000
namespace K80
open PySem PySem.Spec L2 Z
theorem cut_to (l : List Int) (k : Nat) : slcD (liD l) none (some (k : Int)) = some (liD (l.take k)) := by
  show some (PyData.list (cutD (l.map PyData.int) none (some (k : Int)))) = _
  unfold cutD
  rw [HT.sIx_nat, List.length_map]
  simp only [HT.sIx_none, List.drop_zero, Nat.sub_zero, ← List.map_take, liD]
  congr 3
  rw [← List.take_take, List.take_length] <;> skip
theorem cut_from (l : List Int) (k : Nat) : slcD (liD l) (some (k : Int)) none = some (liD (l.drop k)) := by
  show some (PyData.list (cutD (l.map PyData.int) (some (k : Int)) none)) = _
  unfold cutD
  rw [HT.sIx_nat, List.length_map]
  simp only [HT.sIx_none, ← List.map_take, ← List.map_drop, liD]
  congr 3
  by_cases h : k ≤ l.length
  · rw [Nat.min_eq_left h, List.take_of_length_le (by simp)]
  · rw [Nat.min_eq_right (by omega), List.drop_eq_nil_of_le (by omega), List.drop_eq_nil_of_le (by omega)]; simp
theorem law_written_eq {n : Nat} {d : D} (hB : Bag n d) {f : Fmt} (h : f.Ok) (hn : n + 10000 ≤ 1000000000000) (many : Int) (hm0 : 0 ≤ many) (hm1 : many ≤ 20) :
    ∃ (row : List Int) (d' : D), S__law_written [d, f.d, .int many] = .ok (sgD row) [d'] ∧ Bag (n + 8000) d' ∧ InB f.base row := by
  have hb2 := h.b2
  have hb3 := h.b256
  have hl := h.hl
  have tl := h.tl
  simp only [S__law_written, T__law_written, runF_eq]
  have hρ : rho0 16 [d, f.d, .int many] = [some d, some f.d, some (.int many), none, none, none, none, none, none, none, none, none, none, none, none, none] := rfl
  rw [hρ]
  obtain ⟨hd, d1, e1, b1, hI, hL⟩ := head_fill hB h (by omega) (.int many)
  have s1 : (par2T 3 4 (consT (Z.binT idxD (varT 1) (cT (.int 0))) (consT (lcT [14] (seqT (Z.binT idxD (varT 1) (cT (.int 1)))) (setG 14) (yesT) (ifT (isB (Z.binT isD (varT 14) (cT .none))) (callT [some 0, none] S__law_grab (ownT 0 (consT (Z.binT idxD (varT 1) (cT (.int 0))) (nilT)))) (varT 14))) (nilT))) : Rho → Out Rho Flw) [some d, some f.d, some (.int many), none, none, none, none, none, none, none, none, none, none, none, none, none]
      = .ok .nx [some d1, some f.d, some (.int many), some (.int f.base), some (liD hd), none, none, none, none, none, none, none, none, none, none, none] := by
    simp [e1, liD]
  obtain ⟨es, hes⟩ : ∃ es, es = f.tags.filter isEnd := ⟨_, rfl⟩
  have esl : es.length ≤ 1000 := by rw [hes]; exact Nat.le_trans (List.length_filter_le ..) tl
  have est : ∀ t ∈ es, 0 ≤ t.1 ∧ t.1 < f.base := fun t ht => by rw [hes] at ht; exact h.tg t (List.mem_filter.mp ht).1
  have s2 := ends_draw h (some d1) (some (.int many)) (some (.int f.base)) (some (liD hd))
  rw [← hes] at s2
  have s2' : (asgT 5 (lcT [12] (seqT (Z.binT idxD (varT 1) (cT (.int 4)))) (setG 12) (isB (Z.binT inD (Z.binT idxD (varT 12) (cT (.int 1))) (tupT (consT (cT (.str ("end" : Str))) (consT (cT (.str ("stop" : Str))) (nilT)))))) (varT 12)) : Rho → Out Rho Flw) [some d1, some f.d, some (.int many), some (.int f.base), some (liD hd), none, none, none, none, none, none, none, none, none, none, none]
      = .ok .nx [some d1, some f.d, some (.int many), some (.int f.base), some (liD hd), some (.list (es.map tgD)), none, none, none, none, none, none, none, none, none, none] := by
    rw [asgT_eq, s2]; rfl
  obtain ⟨cnt, d2, e2, c0, c1, b2⟩ := grab_eq b1 (by omega) (many + 1) (by omega) (by omega)
  have rg := rng_nat cnt c0 (by omega)
  obtain ⟨tb, htb⟩ : ∃ tb : Rho → Out Rho Flw, tb = sqT (asgT 7 (callT [some 0, none] S__law_grab (ownT 0 (consT (varT 3) (nilT))))) (sqT (asgT 8 (callT [none, none] S__law_use (consT (varT 1) (consT (varT 7) (nilT))))) (ifT (isB (Z.binT inD (varT 8) (tupT (consT (cT (.str ("keep" : Str))) (consT (cT (.str ("check" : Str))) (consT (cT (.str ("skip" : Str))) (nilT))))))) (sqT (asgT 9 (callT [some 0, none] S__law_grab (ownT 0 (consT (Z.binT addD (callB minD (consT (Z.binT idxD (varT 1) (cT (.int 3))) (consT (Z.binT idxD (lstT (consT (cT (.int 2)) (consT (cT (.int 6)) (consT (cT (.int 150)) (nilT))))) (callT [some 0, none] S__law_grab (ownT 0 (consT (cT (.int 3)) (nilT))))) (nilT)))) (cT (.int 1))) (nilT))))) (sqT (asgT 9 (ifT (isB (Z.binT eqD (Z.binT idxD (varT 1) (cT (.int 2))) (cT (.str ("one" : Str))))) (callB minD (consT (varT 9) (consT (Z.binT subD (varT 3) (cT (.int 1))) (nilT)))) (callB minD (consT (varT 9) (consT (Z.binT subD (Z.binT mulD (varT 3) (varT 3)) (cT (.int 1))) (nilT)))))) (sqT (asgT 10 (lcT [15] (rngT rng1D (consT (varT 9) (nilT))) (setG 15) (yesT) (callT [some 0, none] S__law_grab (ownT 0 (consT (varT 3) (nilT)))))) (sqT (asgT 11 (ifT (isB (Z.binT eqD (Z.binT idxD (varT 1) (cT (.int 2))) (cT (.str ("high" : Str))))) (lstT (consT (Z.binT fdivD (varT 9) (varT 3)) (consT (Z.binT modD (callB intC (consT (varT 9) (nilT))) (varT 3)) (nilT)))) (lstT (consT (Z.binT modD (callB intC (consT (varT 9) (nilT))) (varT 3)) (consT (Z.binT fdivD (varT 9) (varT 3)) (nilT)))))) (sqT (asgT 4 (Z.binT catLD (Z.binT addD (Z.binT addD (varT 4) (lstT (consT (varT 7) (nilT)))) (ifT (isB (Z.binT eqD (Z.binT idxD (varT 1) (cT (.int 2))) (cT (.str ("one" : Str))))) (lstT (consT (varT 9) (nilT))) (varT 11))) (varT 10))) (ifT (isB (Z.binT eqD (varT 8) (cT (.str ("check" : Str))))) (appT 4 (Z.binT modD (callB intC (consT (callB sumD (consT (varT 10) (nilT))) (nilT))) (varT 3))) (nxT))))))) (nxT))) := ⟨_, rfl⟩
  have lp := forT_inv (g := setG 6) (tb := tb) (fun i : Nat => PyData.int (i : Int))
    (fun (rest : List Nat) (ρ : Rho) => ∃ bag found a6 a7 a8 a9 a10 a11, ρ = [some bag, some f.d, some (.int many), some (.int f.base), some (liD found), some (.list (es.map tgD)), a6, a7, a8, a9, a10, a11, none, none, none, none] ∧ (∃ m, Bag m bag ∧ m + 200 * rest.length ≤ n + 6000) ∧ InB f.base found ∧ found.length + 200 * rest.length ≤ 6000)
    (fun _ => False) (fun _ _ => False) (by
      rintro i rest ρ ⟨bag, found, a6, a7, a8, a9, a10, a11, rfl, ⟨m, hb, hm⟩, hf, hfl⟩
      rw [List.length_cons] at hm hfl
      obtain ⟨found', d', x7, x8, x9, x10, x11, e, hb', hf', hfl'⟩ := chunk_draw hb h (by omega) (.int many) found hf (by omega) (some (.list (es.map tgD))) (some (.int (i : Int))) a7 a8 a9 a10 a11
      refine ⟨_, rfl, .inl ⟨_, .inl (by rw [htb]; exact e), d', found', _, _, _, _, _, _, rfl, ⟨m + 200, hb', by omega⟩, hf', by omega⟩⟩)
    (List.range cnt.toNat) [some d2, some f.d, some (.int many), some (.int f.base), some (liD hd), some (.list (es.map tgD)), none, none, none, none, none, none, none, none, none, none]
    ⟨d2, hd, none, none, none, none, none, none, rfl, ⟨n + 1001, b2, by simp; omega⟩, hI, by simp; omega⟩
  rcases lp with ⟨ρ', e3, hI3 | hF⟩ | ⟨_, _, _, hF⟩
  · obtain ⟨bag, found, a6, a7, a8, a9, a10, a11, rfl, ⟨m, hb, hm⟩, hf, hfl⟩ := hI3
    simp only [List.length_nil, Nat.mul_zero, Nat.add_zero] at hm hfl
    have s3 : (forS (rngT rng1D (consT (callT [some 0, none] S__law_grab (ownT 0 (consT (Z.binT addD (varT 2) (cT (.int 1))) (nilT)))) (nilT))) (setG 6) tb : Rho → Out Rho Flw) [some d1, some f.d, some (.int many), some (.int f.base), some (liD hd), some (.list (es.map tgD)), none, none, none, none, none, none, none, none, none, none] = .ok .nx [some bag, some f.d, some (.int many), some (.int f.base), some (liD found), some (.list (es.map tgD)), a6, a7, a8, a9, a10, a11, none, none, none, none] := by
      simp only [forS_eq]
      rw [← e3]
      simp [e2, rg]
    -- the end
    have ne := lists_ne (es.map tgD) (lay_tg es)
    have s4 : ∃ (bag' : D) (found' : List Int) (a12 : Option D), (ifT (isB (binO 5 neD (lstT (nilT)))) (sqT (asgT 12 (binO 5 idxD (callT [some 0, none] S__law_grab (ownT 0 (consT (callO 5 lenD) (nilT)))))) (sqT (appT 4 (Z.binT idxD (varT 12) (cT (.int 0)))) (ifT (isB (Z.binT eqD (Z.binT idxD (varT 12) (cT (.int 1))) (cT (.str ("end" : Str))))) (asgT 4 (Z.binT catLD (varT 4) (lcT [15] (rngT rng1D (consT (callT [some 0, none] S__law_grab (ownT 0 (consT (cT (.int 4)) (nilT)))) (nilT))) (setG 15) (yesT) (callT [some 0, none] S__law_grab (ownT 0 (consT (varT 3) (nilT))))))) (nxT)))) (nxT) : Rho → Out Rho Flw) [some bag, some f.d, some (.int many), some (.int f.base), some (liD found), some (.list (es.map tgD)), a6, a7, a8, a9, a10, a11, none, none, none, none]
        = .ok .nx [some bag', some f.d, some (.int many), some (.int f.base), some (liD found'), some (.list (es.map tgD)), a6, a7, a8, a9, a10, a11, a12, none, none, none] ∧ Bag (m + 100) bag' ∧ InB f.base found' ∧ found'.length ≤ 7000 := by
      by_cases hz : es = []
      · refine ⟨bag, found, none, ?_, hb.mono (by omega), hf, by omega⟩
        subst hz
        simp at ne ⊢
        simp [ne]
      · have hpos : 0 < es.length := List.length_pos_iff.mpr hz
        obtain ⟨v, bag1, g1, v0, v1, k1⟩ := grab_eq hb (by omega) (es.length : Int) (by omega) (by omega)
        have hv : v.toNat < es.length := by omega
        have ev : atI (es.map tgD) v = some (tgD es[v.toNat]) := by
          have := Z.atI_nat (es.map tgD) v.toNat
          rw [show ((v.toNat : Nat) : Int) = v by omega] at this
          rw [this, List.getElem?_map, List.getElem?_eq_getElem hv]; rfl
        obtain ⟨t, ht⟩ : ∃ t, t = es[v.toNat] := ⟨_, rfl⟩
        have htm : t ∈ es := by rw [ht]; exact List.getElem_mem hv
        rw [← ht] at ev
        have q0 : idxD (tgD t) (.int 0) = some (.int t.1) := rfl
        have q1 : idxD (tgD t) (.int 1) = some (.str t.2.s) := by simp [tgD]
        have hfa := hf.app (InB.one (est t htm).1 (est t htm).2)
        by_cases hen : t.2 = .end_
        · obtain ⟨k, bag2, g2, k0, k1', k2⟩ := grab_eq k1 (by omega) 4 (by decide) (by decide)
          have rg4 := rng_nat k k0 (by omega)
          obtain ⟨l, bag3, g3, k3, l0, l1⟩ := turn_draw k2 f.base hb2 hb3 k.toNat (by omega) (by omega) (some f.d) (some (.int many)) (some (liD (found ++ [t.1]))) (some (.list (es.map tgD))) a6 a7 a8 a9 a10 a11 (some (tgD t)) none none
          have lcr : (rngT rng1D (consT (callT [some 0, none] S__law_grab (ownT 0 (consT (cT (.int 4)) (nilT)))) (nilT)) : Rho → Out Rho (List D)) [some bag1, some f.d, some (.int many), some (.int f.base), some (liD (found ++ [t.1])), some (.list (es.map tgD)), a6, a7, a8, a9, a10, a11, some (tgD t), none, none, none] = .ok ((List.range k.toNat).map fun i : Nat => PyData.int (i : Int)) [some bag2, some f.d, some (.int many), some (.int f.base), some (liD (found ++ [t.1])), some (.list (es.map tgD)), a6, a7, a8, a9, a10, a11, some (tgD t), none, none, none] := by
            simp [g2, rg4]
          have g3' := lcT_iter (vs := [15]) (g := setG 15) (tt := yesT) (te := callT [some 0, none] S__law_grab (ownT 0 (consT (varT 3) (nilT)))) lcr
          rw [g3] at g3'
          rw [show PyData.list (l.map PyData.int) = liD l from rfl] at g3'
          have ct := liD_cat (found ++ [t.1]) l (by simp; omega)
          refine ⟨bag3, found ++ [t.1] ++ l, some (tgD t), ?_, k3.mono (by omega), hfa.app l0, by simp; omega⟩
          have p1 : (isB (binO 5 neD (lstT (nilT))) : Rho → Out Rho Bool) [some bag, some f.d, some (.int many), some (.int f.base), some (liD found), some (.list (es.map tgD)), a6, a7, a8, a9, a10, a11, none, none, none, none] = .ok true [some bag, some f.d, some (.int many), some (.int f.base), some (liD found), some (.list (es.map tgD)), a6, a7, a8, a9, a10, a11, none, none, none, none] := by
            simp [ne, hz]
          have p2 : (asgT 12 (binO 5 idxD (callT [some 0, none] S__law_grab (ownT 0 (consT (callO 5 lenD) (nilT))))) : Rho → Out Rho Flw) [some bag, some f.d, some (.int many), some (.int f.base), some (liD found), some (.list (es.map tgD)), a6, a7, a8, a9, a10, a11, none, none, none, none] = .ok .nx [some bag1, some f.d, some (.int many), some (.int f.base), some (liD found), some (.list (es.map tgD)), a6, a7, a8, a9, a10, a11, some (tgD t), none, none, none] := by
            simp [g1, ev]
          have p3 : (appT 4 (Z.binT idxD (varT 12) (cT (.int 0))) : Rho → Out Rho Flw) [some bag1, some f.d, some (.int many), some (.int f.base), some (liD found), some (.list (es.map tgD)), a6, a7, a8, a9, a10, a11, some (tgD t), none, none, none] = .ok .nx [some bag1, some f.d, some (.int many), some (.int f.base), some (liD (found ++ [t.1])), some (.list (es.map tgD)), a6, a7, a8, a9, a10, a11, some (tgD t), none, none, none] := by
            simp [q0, liD]
            rw [sizeLine_eq]; omega
          rw [ifT_eq, p1]
          simp only [bind_ok, if_pos, sqT_eq, p2, sqK_nx, p3]
          rw [ifT_eq]
          have p4 : (isB (Z.binT eqD (Z.binT idxD (varT 12) (cT (.int 1))) (cT (.str ("end" : Str)))) : Rho → Out Rho Bool) [some bag1, some f.d, some (.int many), some (.int f.base), some (liD (found ++ [t.1])), some (.list (es.map tgD)), a6, a7, a8, a9, a10, a11, some (tgD t), none, none, none] = .ok true [some bag1, some f.d, some (.int many), some (.int f.base), some (liD (found ++ [t.1])), some (.list (es.map tgD)), a6, a7, a8, a9, a10, a11, some (tgD t), none, none, none] := by
            simp [q1, us_end, hen]
          rw [p4]
          simp only [bind_ok, if_pos, asgT_eq, Z.binT_eq, varT_eq, getS_succ, getS_zero, getK_some, g3', ct, of_some, List.set_cons_succ, List.set_cons_zero]
        · refine ⟨bag1, found ++ [t.1], some (tgD t), ?_, k1.mono (by omega), hfa, by simp; omega⟩
          simp [ne, hz, g1, ev, q0, q1, us_end, hen, liD]
          rw [sizeLine_eq]; omega
    obtain ⟨bag4, found4, a12, s4, b4, f4, l4⟩ := s4
    have lne : neD (liD found4) (.list []) = some (.bool (!(found4.map PyData.int).isEmpty)) := lists_ne _ (lay_ints found4)
    obtain ⟨v5, bag5, g5, v50, v51, b5⟩ := grab_eq b4 (by omega) 4 (by decide) (by decide)
    have s5 : ∃ (bag' : D) (found' : List Int) (a13 : Option D), (ifT (andT (isB (Z.binT eqD (callT [some 0, none] S__law_grab (ownT 0 (consT (cT (.int 4)) (nilT)))) (cT (.int 0)))) (isB (binO 4 neD (lstT (nilT))))) (sqT (asgT 13 (callT [some 0, none] S__law_grab (ownT 0 (consT (callO 4 lenD) (nilT))))) (asgT 4 (Z.binT catLD (Z.binT addD (slcT (varT 4) (noP) (someP (varT 13))) (lstT (consT (callT [some 0, none] S__law_grab (ownT 0 (consT (varT 3) (nilT)))) (nilT)))) (slcT (varT 4) (someP (Z.binT addD (varT 13) (callT [some 0, none] S__law_grab (ownT 0 (consT (cT (.int 2)) (nilT)))))) (noP))))) (nxT) : Rho → Out Rho Flw) [some bag4, some f.d, some (.int many), some (.int f.base), some (liD found4), some (.list (es.map tgD)), a6, a7, a8, a9, a10, a11, a12, none, none, none]
        = .ok .nx [some bag', some f.d, some (.int many), some (.int f.base), some (liD found'), some (.list (es.map tgD)), a6, a7, a8, a9, a10, a11, a12, a13, none, none] ∧ Bag (m + 200) bag' ∧ InB f.base found' := by
      by_cases hz : v5 = 0
      · by_cases hz2 : found4 = []
        · subst hz2
          refine ⟨bag5, [], none, ?_, b5.mono (by omega), InB.nil⟩
          simp at lne ⊢
          simp [g5, hz, lne]
        · have hpos : 0 < found4.length := List.length_pos_iff.mpr hz2
          have llen : lenD [liD found4] = some (.int found4.length) := by simp [liD]
          obtain ⟨sp, bag6, g6, sp0, sp1, b6⟩ := grab_eq b5 (by omega) (found4.length : Int) (by omega) (by omega)
          obtain ⟨v7, bag7, g7, v70, v71, b7⟩ := grab_eq b6 (by omega) f.base (by omega) (by omega)
          obtain ⟨v8, bag8, g8, v80, v81, b8⟩ := grab_eq b7 (by omega) 2 (by decide) (by decide)
          obtain ⟨i, rfl⟩ : ∃ i : Nat, sp = (i : Int) := ⟨sp.toNat, by omega⟩
          obtain ⟨j, hj⟩ : ∃ j : Nat, (i : Int) + v8 = (j : Int) := ⟨((i : Int) + v8).toNat, by omega⟩
          have c1 := cut_to found4 i
          have c2 := cut_from found4 j
          have q1 : addD (liD (found4.take i)) (.list [.int v7]) = some (liD (found4.take i ++ [v7])) := liD_add (found4.take i) [v7] (by simp; omega)
          have q2 := liD_cat (found4.take i ++ [v7]) (found4.drop j) (by simp; omega)
          refine ⟨bag8, found4.take i ++ [v7] ++ found4.drop j, some (.int (i : Int)), ?_, b8.mono (by omega), ((f4.take i).app (InB.one v70 v71)).app (f4.drop j)⟩
          simp at lne
          simp [g5, hz, lne, hz2, llen, g6, c1, g7, q1, g8, hj, c2, q2]
      · refine ⟨bag5, found4, none, ?_, b5.mono (by omega), f4⟩
        simp [g5, hz]
    obtain ⟨bag9, found9, a13, s5, b9, f9⟩ := s5
    refine ⟨found9, bag9, ?_, b9.mono (by omega), f9⟩
    rw [htb] at s3
    simp only [sqT_eq, s1, sqK_nx, s2', s3, s4, s5]
    simp [liD, sgD]
  · exact hF.elim
  · exact hF.elim
end K80

/-! file KP19 -/
set_option Elab.async false
set_option linter.all false
set_option autoImplicit false
set_option maxRecDepth 100000
set_option maxHeartbeats 4000000
namespace K80
open PySem PySem.Spec L2 Z
theorem good_file_eq {n : Nat} {d : D} (hB : Bag n d) {f : Fmt} (h : f.Ok) (hn : n + 60000 ≤ 1000000000000) (many : Int) (hm0 : 0 ≤ many) (hm1 : many ≤ 20) (most : Int) (hmo : most ≤ 1000) :
    ∃ (r d' : D), S__law_good_file [d, f.d, .int many, .int most] = .ok r [d'] ∧ Bag (n + 40000) d' ∧ (r = .none ∨ ∃ (F : File), r = sgD (F.signs f) ∧ FileOk f F ∧ InB f.base (F.signs f) ∧ ((F.signs f).length : Int) ≤ most ∧ S__law_reading [f.d, sgD (F.signs f)] = .ok (.tuple [coD (content f F.ps), ntD (blindF f (first f) 0 (F.signs f)), .none]) []) := by
  simp only [S__law_good_file, T__law_good_file, runF_eq]
  have hρ : rho0 6 [d, f.d, .int many, .int most] = [some d, some f.d, some (.int many), some (.int most), none, none] := rfl
  rw [hρ]
  have rg : rng1D [.int 4] = some ((List.range 4).map fun i : Nat => PyData.int (i : Int)) := rng_nat 4 (by decide) (by decide)
  obtain ⟨tb, htb⟩ : ∃ tb : Rho → Out Rho Flw, tb = sqT (asgT 5 (callT [some 0, none, none] S__law_written (ownT 0 (consT (varT 1) (consT (varT 2) (nilT)))))) (ifT (andT (isB (Z.binT leD (callB lenD (consT (varT 5) (nilT))) (varT 3))) (isB (Z.binT isD (Z.binT idxD (callT [none, none] S__law_reading (consT (varT 1) (consT (varT 5) (nilT)))) (cT (.int 2))) (cT .none)))) (retT (varT 5)) (nxT)) := ⟨_, rfl⟩
  have lp := forT_inv (g := setG 4) (tb := tb) (fun i : Nat => PyData.int (i : Int))
    (fun (rest : List Nat) (ρ : Rho) => ∃ bag a4 a5, ρ = [some bag, some f.d, some (.int many), some (.int most), a4, a5] ∧ ∃ m, Bag m bag ∧ m + 8000 * rest.length ≤ n + 40000)
    (fun _ => False) (fun r ρ => ∃ bag a4 a5, ρ = [some bag, some f.d, some (.int many), some (.int most), a4, a5] ∧ Bag (n + 40000) bag ∧ ∃ (F : File), r = sgD (F.signs f) ∧ FileOk f F ∧ InB f.base (F.signs f) ∧ ((F.signs f).length : Int) ≤ most ∧ S__law_reading [f.d, sgD (F.signs f)] = .ok (.tuple [coD (content f F.ps), ntD (blindF f (first f) 0 (F.signs f)), .none]) []) (by
      rintro i rest ρ ⟨bag, a4, a5, rfl, m, hb, hm⟩
      rw [List.length_cons] at hm
      obtain ⟨row, bag1, e1, b1, i1⟩ := law_written_eq hb h (by omega) many hm0 hm1
      refine ⟨_, rfl, ?_⟩
      have t1 : (asgT 5 (callT [some 0, none, none] S__law_written (ownT 0 (consT (varT 1) (consT (varT 2) (nilT))))) : Rho → Out Rho Flw) [some bag, some f.d, some (.int many), some (.int most), some (.int (i : Int)), a5] = .ok .nx [some bag1, some f.d, some (.int many), some (.int most), some (.int (i : Int)), some (sgD row)] := by
        simp [e1]
      by_cases hl : (row.length : Int) ≤ most
      · obtain ⟨d, e2, ⟨a, w, rfl⟩ | ⟨F, F1, F2, rfl⟩⟩ := law_reading_eq h i1 (by omega)
        · refine .inl ⟨[some bag1, some f.d, some (.int many), some (.int most), some (.int (i : Int)), some (sgD row)], .inl ?_, bag1, _, _, rfl, m + 8000, b1, by omega⟩
          rw [htb]
          simp only [sqT_eq, List.set_cons_succ, List.set_cons_zero, t1, sqK_nx]
          simp [len_sg, hl, e2]
        · refine .inr (.inr ⟨sgD row, [some bag1, some f.d, some (.int many), some (.int most), some (.int (i : Int)), some (sgD row)], ?_, bag1, _, _, rfl, b1.mono (by omega), F, by rw [← F2], F1, by rw [← F2]; exact i1, by rw [← F2]; exact hl, by rw [← F2]; exact e2⟩)
          rw [htb]
          simp only [sqT_eq, List.set_cons_succ, List.set_cons_zero, t1, sqK_nx]
          simp [len_sg, hl, e2]
      · refine .inl ⟨[some bag1, some f.d, some (.int many), some (.int most), some (.int (i : Int)), some (sgD row)], .inl ?_, bag1, _, _, rfl, m + 8000, b1, by omega⟩
        rw [htb]
        simp only [sqT_eq, List.set_cons_succ, List.set_cons_zero, t1, sqK_nx]
        simp [len_sg, hl])
    (List.range 4) [some d, some f.d, some (.int many), some (.int most), none, none]
    ⟨d, none, none, rfl, n, hB, by simp⟩
  have fs : (forS (rngT rng1D (consT (cT (.int 4)) (nilT))) (setG 4) tb : Rho → Out Rho Flw) [some d, some f.d, some (.int many), some (.int most), none, none] = forT (setG 4) tb ((List.range 4).map fun i : Nat => PyData.int (i : Int)) [some d, some f.d, some (.int many), some (.int most), none, none] := by
    simp only [forS_eq, rngT_eq, consT_eq, cT_eq, nilT_eq, bind_ok, rg, of_some]
  rw [← htb]
  simp only [sqT_eq, fs]
  rcases lp with ⟨ρ', e, ⟨bag, a4, a5, rfl, m, hb, hm⟩ | hF⟩ | ⟨r, ρ', e, bag, a4, a5, rfl, hb, hr⟩
  · refine ⟨.none, bag, ?_, hb.mono (by simp at hm; omega), .inl rfl⟩
    rw [e]
    simp
  · exact hF.elim
  · refine ⟨r, bag, ?_, hb, .inr hr⟩
    rw [e]
    simp
/-! ### turned where it is blind -/
theorem turned_eq {n : Nat} {d : D} (hB : Bag n d) {f : Fmt} (h : f.Ok) (hn : n + 5000 ≤ 1000000000000) {row : List Int} {st : Std} {c : Cont} (r : Run f (first f) [] row st c) (hr : InB f.base row) (hl : row.length ≤ 1000) :
    ∃ (row' : List Int) (d' : D), S__law_turned_blind [d, f.d, sgD row, ntD (blindF f (first f) 0 row)] = .ok (sgD row') [d'] ∧ Bag (n + 3000) d' ∧ Run f (first f) [] row' st c ∧ InB f.base row' ∧ row'.length = row.length ∧ (∀ k, row[k]? ≠ row'[k]? → k ∈ blindF f (first f) 0 row) := by
  have hb2 := h.b2
  have hb3 := h.b256
  simp only [S__law_turned_blind, T__law_turned_blind, runF_eq]
  obtain ⟨bl, hbl⟩ : ∃ bl, bl = blindF f (first f) 0 row := ⟨_, rfl⟩
  rw [← hbl]
  have hρ : rho0 6 [d, f.d, sgD row, ntD bl] = [some d, some f.d, some (sgD row), some (ntD bl), none, none] := rfl
  rw [hρ]
  have bll : bl.length ≤ 1000 := by
    have := blindF_len f row (first f) 0
    rw [← hbl] at this
    omega
  obtain ⟨tb, htb⟩ : ∃ tb : Rho → Out Rho Flw, tb = ifT (isB (Z.binT eqD (callT [some 0, none] S__law_grab (ownT 0 (consT (cT (.int 2)) (nilT)))) (cT (.int 0)))) (stT 4 (varT 5) (callT [some 0, none] S__law_grab (ownT 0 (consT (Z.binT idxD (varT 1) (cT (.int 0))) (nilT))))) (nxT) := ⟨_, rfl⟩
  have lp := forT_inv (g := setG 5) (tb := tb) (fun i : Nat => PyData.int (i : Int))
    (fun (rest : List Nat) (ρ : Rho) => ∃ bag fd a5, ρ = [some bag, some f.d, some (sgD row), some (ntD bl), some (liD fd), a5] ∧ (∃ m, Bag m bag ∧ m + 2 * rest.length ≤ n + 3000) ∧ (∀ k ∈ rest, k ∈ bl) ∧ Run f (first f) [] fd st c ∧ InB f.base fd ∧ fd.length = row.length ∧ blindF f (first f) 0 fd = bl ∧ (∀ k, row[k]? ≠ fd[k]? → k ∈ bl))
    (fun _ => False) (fun _ _ => False) (by
      rintro k rest ρ ⟨bag, fd, a5, rfl, ⟨m, hb, hm⟩, hin, hR, hI, hL, hB', hD⟩
      rw [List.length_cons] at hm
      obtain ⟨v, bag1, e1, v0, v1, b1⟩ := grab_eq hb (by omega) 2 (by decide) (by decide)
      refine ⟨_, rfl, .inl ?_⟩
      have hk := hin k (List.mem_cons_self ..)
      by_cases hv : v = 0
      · obtain ⟨s', bag2, e2, s0, s1, b2⟩ := grab_eq b1 (by omega) f.base (by omega) (by omega)
        have hkl : k < fd.length := by
          rw [← hB'] at hk
          have := blind_ge _ _ _ _ hk
          omega
        obtain ⟨R2, B2⟩ := blind_set hR 0 k s' (by rw [hB']; exact hk)
        rw [Nat.sub_zero] at R2 B2
        refine ⟨[some bag2, some f.d, some (sgD row), some (ntD bl), some (liD (fd.set k s')), some (.int (k : Int))], .inl ?_, bag2, _, _, rfl, ⟨m + 2, b2, by omega⟩, fun q hq => hin q (List.mem_cons_of_mem _ hq), R2, ?_, by simp [hL], by rw [B2, hB'], ?_⟩
        · have ix : ixN (fd.map PyData.int).length (k : Int) = some k := by
            unfold ixN
            rw [if_pos (by omega), if_pos (by simp; omega)]
            simp
          rw [List.length_map] at ix
          rw [htb]
          simp [e1, hv, e2, liD, ix, List.map_set]
        · intro q hq
          rcases List.mem_or_eq_of_mem_set hq with hq | rfl
          · exact hI q hq
          · exact ⟨s0, s1⟩
        · intro q hq
          by_cases hqk : k = q
          · subst hqk; exact hk
          · rw [List.getElem?_set_ne hqk] at hq
            exact hD q hq
      · exact ⟨[some bag1, some f.d, some (sgD row), some (ntD bl), some (liD fd), some (.int (k : Int))], .inl (by rw [htb]; simp [e1, hv]), bag1, _, _, rfl, ⟨m + 1, b1, by omega⟩, fun q hq => hin q (List.mem_cons_of_mem _ hq), hR, hI, hL, hB', hD⟩)
    bl [some d, some f.d, some (sgD row), some (ntD bl), some (liD row), none]
    ⟨d, row, none, rfl, ⟨n, hB, by omega⟩, fun k hk => hk, r, hr, rfl, hbl.symm, fun k hk => absurd rfl hk⟩
  have fs : (forS (seqT (varT 3)) (setG 5) tb : Rho → Out Rho Flw) [some d, some f.d, some (sgD row), some (ntD bl), some (liD row), none] = forT (setG 5) tb (bl.map fun i : Nat => PyData.int (i : Int)) [some d, some f.d, some (sgD row), some (ntD bl), some (liD row), none] := by
    simp [ntD]
  have t1 : (asgT 4 (fun ρ => ((varT 2) ρ).bind fun d ρ1 => .of (lstC d) ρ1) : Rho → Out Rho Flw) [some d, some f.d, some (sgD row), some (ntD bl), none, none] = .ok .nx [some d, some f.d, some (sgD row), some (ntD bl), some (liD row), none] := by
    have : lstC (sgD row) = some (liD row) := rfl
    simp [this]
  rcases lp with ⟨ρ', e, ⟨bag, fd, a5, rfl, ⟨m, hb, hm⟩, _, hR, hI, hL, _, hD⟩ | hF⟩ | ⟨_, _, _, hF⟩
  · refine ⟨fd, bag, ?_, hb.mono (by simp at hm; omega), hR, hI, hL, hD⟩
    rw [← htb]
    simp only [sqT_eq, t1, sqK_nx, fs, e]
    simp [liD, sgD]
  · exact hF.elim
  · exact hF.elim
end K80

/-! file KP20 -/
set_option Elab.async false
set_option linter.all false
set_option autoImplicit false
set_option maxRecDepth 100000
set_option maxHeartbeats 4000000
namespace K80
open PySem PySem.Spec L2 Z
/-! ### order of files -/
def ltAll (xs ys : List D) : Bool := PyProof.Rows.lexLt PyProof.Rows.itemOrd (PySem.W.keyToksAll xs) (PySem.W.keyToksAll ys)
theorem dataLt_tup (xs ys : List D) : PySem.W.dataLt (.tuple xs) (.tuple ys) = ltAll xs ys := by
  unfold PySem.W.dataLt ltAll
  rw [PySem.W.keyToks, PySem.W.keyToks]
theorem ltAll_nil : ltAll [] [] = false := PyProof.Rows.lex_irrefl _
theorem ltAll_int (i j : Int) (xs ys : List D) : ltAll (.int i :: xs) (.int j :: ys) = if i = j then ltAll xs ys else decide (i < j) := by
  unfold ltAll
  by_cases h : i = j
  · rw [if_pos h, PySem.W.dataLt_all_yes (x := .int i) (y := .int j) (by simp [PySem.W.alike]) (by simp [PyData.eqv, h])]
  · rw [if_neg h, PySem.W.dataLt_all_no (x := .int i) (y := .int j) (by simp [PySem.W.alike]) (by simp [PyData.eqv, h]), PySem.W.dataLt_int]
theorem alike_ints : ∀ (a b : List Int), PySem.W.alikeAll (a.map .int) (b.map .int) = true
  | [], _ => by simp [PySem.W.alikeAll]
  | _ :: _, [] => by simp [PySem.W.alikeAll]
  | x :: a, y :: b => by simp [PySem.W.alikeAll, PySem.W.alike, alike_ints a b]
theorem eqv_ints : ∀ (a b : List Int), PyData.eqvAll (a.map .int) (b.map .int) = decide (a = b)
  | [], [] => by simp [PyData.eqvAll]
  | [], _ :: _ => by simp [PyData.eqvAll]
  | _ :: _, [] => by simp [PyData.eqvAll]
  | x :: a, y :: b => by
    simp only [List.map_cons, PyData.eqvAll, PyData.eqv, eqv_ints a b]
    by_cases h : x = y <;> by_cases h' : a = b <;> simp [h, h']
theorem eqv_sg (a b : List Int) : PyData.eqv (sgD a) (sgD b) = decide (a = b) := by
  simp only [sgD, PyData.eqv, eqv_ints]
theorem ltAll_ge : ∀ (a b : List Int), a.length = b.length → (∀ (i x y : Int) (k : Nat), a[k]? = some x → b[k]? = some y → y ≤ x) → ltAll (a.map .int) (b.map .int) = false
  | [], [], _, _ => ltAll_nil
  | [], _ :: _, h, _ => by simp at h
  | _ :: _, [], h, _ => by simp at h
  | x :: a, y :: b, h, hp => by
    rw [List.map_cons, List.map_cons, ltAll_int]
    have hxy := hp 0 x y 0 rfl rfl
    have ih := ltAll_ge a b (by simpa using h) (fun i p q k h1 h2 => hp i p q (k + 1) (by simpa using h1) (by simpa using h2))
    split
    · exact ih
    · exact decide_eq_false (by omega)
theorem depth_ints : ∀ (a : List Int), PyData.depthAll (a.map .int) = 0
  | [] => by simp [PyData.depthAll]
  | x :: a => by simp [PyData.depthAll, PyData.depth, depth_ints a]
theorem len_tup_gt (a b : List Int) : gtD (.tuple [.int a.length, sgD a]) (.tuple [.int b.length, sgD b]) = some (.bool (ltAll [.int b.length, sgD b] [.int a.length, sgD a])) := by
  have hk : okOrd (.tuple [.int a.length, sgD a]) (.tuple [.int b.length, sgD b]) = true := by
    unfold okOrd
    simp [PySem.W.alike, PySem.W.alikeAll, sgD, alike_ints, PyData.depth, PyData.depthAll, depth_ints]
  show (if okOrd (.tuple [.int a.length, sgD a]) (.tuple [.int b.length, sgD b]) = true then some (PyData.bool (PySem.W.dataLt (.tuple [.int b.length, sgD b]) (.tuple [.int a.length, sgD a]))) else none) = _
  rw [if_pos hk, dataLt_tup]
/-- at most: less long, or as long and at no place more -/
theorem least_le (a b : List Int) (h : a.length ≤ b.length) (hp : a.length = b.length → ∀ (k : Nat) (x y : Int), a[k]? = some x → b[k]? = some y → x ≤ y) : gtD (.tuple [.int a.length, sgD a]) (.tuple [.int b.length, sgD b]) = some (.bool false) := by
  rw [len_tup_gt]
  congr 2
  rw [ltAll_int]
  by_cases e : (b.length : Int) = (a.length : Int)
  · rw [if_pos e]
    have e' : a.length = b.length := by omega
    by_cases hab : b = a
    · subst hab
      unfold ltAll
      rw [PySem.W.dataLt_all_yes (x := sgD b) (y := sgD b) (by simp [PySem.W.alike, sgD, alike_ints]) (by rw [eqv_sg]; simp)]
      exact ltAll_nil
    · unfold ltAll
      rw [PySem.W.dataLt_all_no (x := sgD b) (y := sgD a) (by simp [PySem.W.alike, sgD, alike_ints]) (by rw [eqv_sg]; simp [hab]), sgD, sgD, dataLt_tup]
      exact ltAll_ge b a e'.symm (fun _ x y k h1 h2 => hp e' k y x h2 h1)
  · rw [if_neg e]
    exact decide_eq_false (by omega)
/-! ### the least file -/
def writF (f : Fmt) (c : Cont) : File := ⟨f.head.map (fun m => m.getD 0), c, endS f⟩
theorem writF_signs (f : Fmt) (c : Cont) : (writF f c).signs f = writ f c := rfl
theorem told_use {o : Option Use} (h : useTold o = true) : ∃ u, o = some u ∧ u.told = true ∧ u.chunk = true := by
  cases o with
  | none => cases h
  | some u => exact ⟨u, rfl, h, by cases u <;> simp [useTold, Use.told, Use.chunk] at h ⊢⟩
theorem longest_most (f : Fmt) : longest f ≤ f.most := by unfold longest; omega
theorem endS_ok {f : Fmt} (h : f.Ok) : EndOk f (endS f) ∧ (endS f).length ≤ 1 ∧ InB f.base (endS f) := by
  unfold endS
  cases hz : f.tags.filter isEnd with
  | nil => exact ⟨.inl ⟨by rw [hasEnd_filter, hz]; rfl, rfl⟩, by simp, InB.nil⟩
  | cons t r =>
    have ht : t ∈ f.tags.filter isEnd := by rw [hz]; exact List.mem_cons_self ..
    obtain ⟨h1, h2⟩ := List.mem_filter.mp ht
    have hu := use_mem h h1
    have hb := h.tg t h1
    refine ⟨?_, by simp, InB.one hb.1 hb.2⟩
    unfold isEnd at h2
    rcases of_decide_eq_true h2 with e | e
    · exact .inr (.inl ⟨t.1, [], rfl, by rw [hu, e]⟩)
    · exact .inr (.inr ⟨t.1, rfl, by rw [hu, e]⟩)
theorem writF_ok {f : Fmt} (h : f.Ok) {c : Cont} (hc : ConOk f c) : FileOk f (writF f c) where
  hl := by simp [writF]
  hm := fun i m q => by
    show (f.head.map (fun m => m.getD 0))[i]? = some m
    rw [List.getElem?_map, q]; rfl
  ps := fun p hp => by
    obtain ⟨_, h2, h3, _⟩ := hc.t p hp
    obtain ⟨u, hu, _, hch⟩ := told_use h2
    exact ⟨u, hu, hch, Int.le_trans h3 (longest_most f)⟩
  e := (endS_ok h).1
theorem content_con {f : Fmt} {c : Cont} (hc : ConOk f c) : content f c = c := List.filter_eq_self.mpr fun p hp => (hc.t p hp).2.1
theorem lenS_in {f : Fmt} (h : f.Ok) (n : Int) (h0 : 0 ≤ n) (hn : n ≤ longest f) : InB f.base (lenS f n) := by
  have hb2 := h.b2
  have hr0 := Int.emod_nonneg n (show f.base ≠ 0 by omega)
  have hr1 := Int.emod_lt_of_pos n (show 0 < f.base by omega)
  have hq0 : 0 ≤ n / f.base := Int.ediv_nonneg h0 (by omega)
  have hq1 : f.width ≠ .one → n / f.base < f.base := fun hw => by
    have : n ≤ f.base * f.base - 1 := by
      unfold longest at hn
      rw [if_neg hw] at hn
      omega
    exact Int.ediv_lt_of_lt_mul (by omega) (by omega)
  cases hw : f.width with
  | one =>
    rw [lenS, hw]
    have : n ≤ f.base - 1 := by
      unfold longest at hn
      rw [if_pos hw] at hn
      omega
    exact InB.one h0 (by omega)
  | high =>
    rw [lenS, hw]
    exact InB.two ⟨hq0, hq1 (by rw [hw]; decide)⟩ ⟨hr0, hr1⟩
  | low =>
    rw [lenS, hw]
    exact InB.two ⟨hr0, hr1⟩ ⟨hq0, hq1 (by rw [hw]; decide)⟩
theorem lenS_le {f : Fmt} (h : f.Ok) (n : Int) (h0 : 0 ≤ n) (hm : n ≤ f.most) (hi : InB f.base (lenS f n)) : n ≤ longest f := by
  have hb2 := h.b2
  unfold longest
  cases hw : f.width with
  | one =>
    rw [lenS, hw] at hi
    have := hi n (List.mem_singleton_self n)
    simp
    omega
  | high =>
    rw [lenS, hw] at hi
    have := (hi (n / f.base) (List.mem_cons_self ..)).2
    have : n < f.base * f.base := by
      have := Int.lt_mul_of_ediv_lt (by omega) this
      exact this
    simp
    omega
  | low =>
    rw [lenS, hw] at hi
    have := (hi (n / f.base) (List.mem_cons_of_mem _ (List.mem_cons_self ..))).2
    have : n < f.base * f.base := Int.lt_mul_of_ediv_lt (by omega) this
    simp
    omega
theorem chunkS_in {f : Fmt} (h : f.Ok) {p : Int × List Int} (h1 : 0 ≤ p.1 ∧ p.1 < f.base) (h3 : (p.2.length : Int) ≤ longest f) (h5 : InB f.base p.2) : InB f.base (chunkS f p) := by
  have hb2 := h.b2
  have e : chunkS f p = [p.1] ++ (lenS f (p.2.length : Int) ++ (p.2 ++ (if use f p.1 = some .check then [p.2.sum % f.base] else []))) := rfl
  rw [e]
  refine (InB.one h1.1 h1.2).app ((lenS_in h _ (by omega) h3).app (h5.app ?_))
  split
  · exact InB.one (Int.emod_nonneg _ (by omega)) (Int.emod_lt_of_pos _ (by omega))
  · exact InB.nil
structure Small (c : Cont) : Prop where
  n : c.length ≤ 300
  b : ∀ p ∈ c, p.2.length ≤ 300
theorem flat_small (f : Fmt) : ∀ (c : Cont), (∀ p ∈ c, p.2.length ≤ 300) → (c.flatMap (chunkS f)).length ≤ c.length * 304
  | [], _ => by simp
  | p :: c, h => by
    have h1 := chunkS_len f p
    have h2 := flat_small f c (fun q hq => h q (List.mem_cons_of_mem _ hq))
    have h3 := h p (List.mem_cons_self ..)
    simp only [List.flatMap_cons, List.length_append, List.length_cons]
    omega
theorem writ_sg {f : Fmt} (h : f.Ok) {c : Cont} (hc : ConOk f c) (hs : Small c) : SgOk f (writ f c) := by
  have hb2 := h.b2
  have he := endS_ok h
  constructor
  · have h1 := flat_small f c hs.b
    have h2 := hs.n
    have h3 := h.hl
    have h4 := he.2.1
    simp only [writ, List.length_append, List.length_map]
    omega
  · have : InB f.base (writ f c) := by
      refine InB.app ?_ (InB.app ?_ he.2.2)
      · intro s hs'
        obtain ⟨m, hm, rfl⟩ := List.mem_map.mp hs'
        cases m with
        | none => simp; omega
        | some i => exact h.hd i hm
      · intro s hs'
        obtain ⟨p, hp, hsp⟩ := List.mem_flatMap.mp hs'
        obtain ⟨h1, _, h3, _, h5⟩ := hc.t p hp
        exact chunkS_in h h1 h3 h5 s hsp
    exact this
/-! ### what is told of a file is a content -/
theorem flat_ge (f : Fmt) : ∀ (ps : List (Int × List Int)), ps.length ≤ (ps.flatMap (chunkS f)).length
  | [] => by simp
  | p :: ps => by
    have := flat_ge f ps
    simp only [List.flatMap_cons, List.length_append, List.length_cons, chunkS]
    omega
theorem chunk_mem {f : Fmt} {ps : List (Int × List Int)} {p : Int × List Int} (hp : p ∈ ps) : (chunkS f p).length ≤ (ps.flatMap (chunkS f)).length := by
  induction ps with
  | nil => cases hp
  | cons q ps ih =>
    simp only [List.flatMap_cons, List.length_append]
    rcases List.mem_cons.mp hp with rfl | hp
    · omega
    · have := ih hp; omega
theorem file_con {f : Fmt} (h : f.Ok) {F : File} (hF : FileOk f F) (hi : InB f.base (F.signs f)) (hl : (F.signs f).length ≤ 300) : ConOk f (content f F.ps) ∧ Small (content f F.ps) := by
  have hfl : (F.ps.flatMap (chunkS f)).length ≤ 300 := by
    simp only [File.signs, List.length_append] at hl
    omega
  have hn : (content f F.ps).length ≤ 300 := by
    have h1 : (content f F.ps).length ≤ F.ps.length := List.length_filter_le ..
    have h2 := flat_ge f F.ps
    omega
  have hsub : ∀ p ∈ F.ps, ∀ s ∈ chunkS f p, 0 ≤ s ∧ s < f.base := fun p hp s hs => by
    refine hi s ?_
    simp only [File.signs, List.mem_append, List.mem_flatMap]
    exact .inr (.inl ⟨p, hp, hs⟩)
  have hb : ∀ p ∈ F.ps, p.2.length ≤ 300 := fun p hp => by
    have := chunk_mem (f := f) hp
    simp only [chunkS, List.length_cons, List.length_append] at this
    omega
  refine ⟨⟨by omega, fun p hp => ?_⟩, ⟨hn, fun p hp => hb p (List.mem_filter.mp hp).1⟩⟩
  obtain ⟨hp1, hp2⟩ := List.mem_filter.mp hp
  have hs := hsub p hp1
  obtain ⟨u, _, _, hm⟩ := hF.ps p hp1
  refine ⟨hs p.1 (by simp [chunkS]), hp2, ?_, by have := hb p hp1; omega, fun s hs' => hs s (by simp [chunkS, hs'])⟩
  exact lenS_le h _ (by omega) hm fun s hs' => hs s (by simp [chunkS, hs'])
theorem flat_content (f : Fmt) : ∀ (ps : List (Int × List Int)), ((content f ps).flatMap (chunkS f)).length ≤ (ps.flatMap (chunkS f)).length ∧ (((content f ps).flatMap (chunkS f)).length = (ps.flatMap (chunkS f)).length → content f ps = ps)
  | [] => by simp [content]
  | p :: ps => by
    obtain ⟨h1, h2⟩ := flat_content f ps
    have hc : 1 ≤ (chunkS f p).length := by simp [chunkS]
    simp only [content, List.filter_cons, List.flatMap_cons, List.length_append] at h1 h2 ⊢
    split
    · simp only [List.flatMap_cons, List.length_append]
      exact ⟨by omega, fun e => by rw [h2 (by omega)]⟩
    · exact ⟨by omega, fun e => by omega⟩
theorem end_le {f : Fmt} (h : f.Ok) {e : List Int} (he : EndOk f e) : (endS f).length ≤ e.length ∧ ((endS f).length = e.length → ∀ (k : Nat) (x y : Int), (endS f)[k]? = some x → e[k]? = some y → x ≤ y) := by
  have key : ∀ (t : Int) (u : Use), use f t = some u → (u = .end_ ∨ u = .stop) → ∃ t0 r, f.tags.filter isEnd = t0 :: r ∧ t0.1 ≤ t := by
    intro t u hu hus
    unfold use at hu
    cases hf : f.tags.find? (fun x => decide (x.1 = t)) with
    | none =>
      rw [hf] at hu
      simp only at hu
      split at hu
      · cases hu; rcases hus with e | e <;> cases e
      · cases hu
    | some q =>
      rw [hf] at hu
      simp only [Option.some.injEq] at hu
      have hq := List.find?_some hf
      have hqm := List.mem_of_find?_eq_some hf
      have hq1 : q.1 = t := of_decide_eq_true hq
      have hqf : q ∈ f.tags.filter isEnd := List.mem_filter.mpr ⟨hqm, by unfold isEnd; rw [hu]; exact decide_eq_true hus⟩
      cases hz : f.tags.filter isEnd with
      | nil => rw [hz] at hqf; cases hqf
      | cons t0 r =>
        refine ⟨t0, r, rfl, ?_⟩
        have hp := h.so.filter isEnd
        rw [hz] at hqf hp
        rcases List.mem_cons.mp hqf with rfl | hr
        · omega
        · have := (List.pairwise_cons.mp hp).1 q hr
          omega
  rcases he with ⟨hn, rfl⟩ | ⟨t, r, rfl, hu⟩ | ⟨t, rfl, hu⟩
  · rw [hasEnd_filter] at hn
    have hz : f.tags.filter isEnd = [] := by
      cases hz : f.tags.filter isEnd with
      | nil => rfl
      | cons a b => rw [hz] at hn; cases hn
    simp [endS, hz]
  · obtain ⟨t0, r0, hz, hle⟩ := key t _ hu (.inl rfl)
    simp only [endS, hz]
    refine ⟨by simp, fun _ k x y h1 h2 => ?_⟩
    cases k with
    | zero => simp at h1 h2; omega
    | succ k => simp at h1
  · obtain ⟨t0, r0, hz, hle⟩ := key t _ hu (.inr rfl)
    simp only [endS, hz]
    refine ⟨by simp, fun _ k x y h1 h2 => ?_⟩
    cases k with
    | zero => simp at h1 h2; omega
    | succ k => simp at h1
theorem writ_least {f : Fmt} (h : f.Ok) {F : File} (hF : FileOk f F) (hi : InB f.base (F.signs f)) : gtD (.tuple [.int (writ f (content f F.ps)).length, sgD (writ f (content f F.ps))]) (.tuple [.int (F.signs f).length, sgD (F.signs f)]) = some (.bool false) := by
  obtain ⟨a1, a2⟩ := flat_content f F.ps
  obtain ⟨b1, b2⟩ := end_le h hF.e
  have hl := hF.hl
  refine least_le _ _ ?_ ?_
  · simp only [writ, File.signs, List.length_append, List.length_map]
    omega
  · intro e k x y h1 h2
    simp only [writ, File.signs, List.length_append, List.length_map] at e
    have ec := a2 (by omega)
    have ee := b2 (by omega)
    simp only [writ, File.signs, ec] at h1 h2
    by_cases hk : k < f.head.length
    · rw [List.getElem?_append_left (by simpa using hk)] at h1
      rw [List.getElem?_append_left (by omega)] at h2
      rw [List.getElem?_map, List.getElem?_eq_getElem hk] at h1
      simp only [Option.map_some, Option.some.injEq] at h1
      cases hm : f.head[k] with
      | none =>
        rw [hm] at h1
        have hy := hi y (by simp only [File.signs, List.mem_append]; exact .inl (List.mem_of_getElem? h2))
        simp at h1
        omega
      | some i =>
        rw [hm] at h1
        have := hF.hm k i (by rw [List.getElem?_eq_getElem hk, hm])
        rw [this] at h2
        simp at h1 h2
        omega
    · rw [List.getElem?_append_right (by simpa using hk)] at h1
      rw [List.getElem?_append_right (by omega)] at h2
      rw [List.length_map] at h1
      rw [hl] at h2
      by_cases hk2 : k - f.head.length < (F.ps.flatMap (chunkS f)).length
      · rw [List.getElem?_append_left hk2] at h1 h2
        rw [h1] at h2
        cases h2
        omega
      · rw [List.getElem?_append_right (by omega)] at h1 h2
        exact ee _ x y h1 h2
end K80

/-! file KP21 -/
set_option Elab.async false
set_option linter.all false
set_option autoImplicit false
set_option maxRecDepth 100000
set_option maxHeartbeats 4000000
namespace K80
open PySem PySem.Spec L2 Z
theorem read_run {f : Fmt} (h : f.Ok) {row : List Int} {st : Std} {c : Cont} (r : Run f (first f) [] row st c) (he : ending f st = true) (hs : SgOk f row) : S_read [f.d, sgD row] = .ok (coD c) [] := by
  simp [S_read, T_read, S_check_read, T_check_read, runF_eq, rho0, check_format_eq h, check_file_eq hs, refusal_of_eq h r he, told_in_eq h r hs.1]
theorem in_nt (k : Nat) (l : List Nat) : inD (.int (k : Int)) (ntD l) = some (.bool (decide (k ∈ l))) := by
  unfold inD inB ntD
  have e : okIn (.int (k : Int)) (l.map fun (n : Nat) => PyData.int (n : Int)) = true := by
    have h1 : ∀ l : List Nat, PyData.canLayAll0 (l.map fun (n : Nat) => PyData.int (n : Int)) = true := by
      intro l
      induction l with
      | nil => rfl
      | cons a l ih => simp [PyData.canLayAll0, PyData.canLay0, ih]
    simp [okIn, h1, PyData.canLay0, PyData.depth]
  simp only [itemsD_list, e, if_pos, Option.map_some]
  congr 2
  clear e
  induction l with
  | nil => simp
  | cons a l ih =>
    rw [List.map_cons, List.any_cons, ih]
    by_cases h : k = a
    · simp [h, PyData.eqv]
    · have : ¬ (a : Int) = (k : Int) := by omega
      simp [h, this, PyData.eqv]
theorem list_eq_nil : eqD (.list []) (.list []) = some (.bool true) := eq_nil
theorem file_right_eq {n : Nat} {d : D} (hB : Bag n d) {f : Fmt} (h : f.Ok) (hn : n + 6000 ≤ 1000000000000) {F : File} (hF : FileOk f F) (hi : InB f.base (F.signs f)) (hl : (F.signs f).length ≤ 300)
    (hrd : S__law_reading [f.d, sgD (F.signs f)] = .ok (.tuple [coD (content f F.ps), ntD (blindF f (first f) 0 (F.signs f)), .none]) []) :
    ∃ (d' : D), S__law_file_right [d, f.d, sgD (F.signs f)] = .ok (.bool true) [d'] ∧ Bag (n + 3000) d' := by
  obtain ⟨hc, hsm⟩ := file_con h hF hi hl
  obtain ⟨st, r, he⟩ := file_run h hF
  have hs : SgOk f (F.signs f) := ⟨by omega, hi⟩
  obtain ⟨row', d1, et, b1, r', i', l', D'⟩ := turned_eq hB h (by omega) r hi (by omega)
  have hs' : SgOk f row' := ⟨by omega, i'⟩
  have wF := writF_ok h hc
  have ws := writ_sg h hc hsm
  have e1 := read_eq h hF hs
  have e2 := refusal_eq h hF hs
  have e3 := write_eq h hc
  have e4 := is_content_eq h hc
  have e5 := writ_least h hF hi
  have e6 : S_read [f.d, sgD (writ f (content f F.ps))] = .ok (coD (content f F.ps)) [] := by
    have := read_eq h wF ws
    rw [writF_signs] at this
    rw [this]
    show Out.ok (coD (content f (content f F.ps))) [] = _
    rw [content_con hc]
  have e7 := read_run h r' he hs'
  have e8 := looked_at_eq h hF hs
  have q1 := eq_co_none (content f F.ps) (by have := hsm.n; omega) (fun p hp => by have := hsm.b p hp; omega)
  have q2 := eq_co_sg (content f F.ps) (writ f (content f F.ps)) (by have := hsm.n; omega) (fun p hp => by have := hsm.b p hp; omega) ws.1
  have q3 := eq_co_done (content f F.ps) (by have := hsm.n; omega) (fun p hp => by have := hsm.b p hp; omega)
  have q4 := fun hne => live_told_eq h hF hs hne
  have q5 := len_sg (F.signs f)
  have q6 := len_sg (writ f (content f F.ps))
  obtain ⟨row, hrow⟩ : ∃ row, row = F.signs f := ⟨_, rfl⟩
  obtain ⟨lst, hlst⟩ : ∃ lst, lst = writ f (content f F.ps) := ⟨_, rfl⟩
  obtain ⟨co, hco⟩ : ∃ co, co = coD (content f F.ps) := ⟨_, rfl⟩
  obtain ⟨bl, hbl⟩ : ∃ bl, bl = blindF f (first f) 0 (F.signs f) := ⟨_, rfl⟩
  obtain ⟨lk, hlk⟩ : ∃ lk, lk = lookedF f (first f) 0 (F.signs f) := ⟨_, rfl⟩
  have hdis : ∀ k, k ∈ bl → k ∉ lk := fun k hk => by rw [hlk]; rw [hbl] at hk; exact blind_not_looked _ _ _ _ hk
  rw [← hrow] at hrd e1 e2 e5 e8 et q4 q5 l' D' hl
  rw [← hlst] at e3 e5 e6 q2 q6
  rw [← hco] at hrd e1 e3 e4 e6 e7 q1 q2 q3 q4
  rw [← hrow] at hbl hlk
  rw [← hbl] at hrd et D'
  rw [← hlk] at e8
  rw [← hrow]
  have e8' : S_looked_at [f.d, sgD row] = .ok (ntD lk) [] := e8
  refine ⟨d1, ?_, b1⟩
  simp only [S__law_file_right, T__law_file_right, runF_eq]
  have hρ : rho0 9 [d, f.d, sgD row] = [some d, some f.d, some (sgD row), none, none, none, none, none, none] := rfl
  rw [hρ]
  obtain ⟨rL, hrL⟩ : ∃ rL : Int, rL = (row.length : Int) := ⟨_, rfl⟩
  obtain ⟨wL, hwL⟩ : ∃ wL : Int, wL = (lst.length : Int) := ⟨_, rfl⟩
  have lc : ∀ a3 a4 a5 a6 : Option D, lcT [8] (rngT rng1D (consT (callB lenD (consT (varT 2) (nilT))) (nilT))) (setG 8) (andT (isB (Z.binT neD (Z.binT idxD (varT 2) (varT 8)) (Z.binT idxD (varT 7) (varT 8)))) (isB (Z.binT inD (varT 8) (callT [none, none] S_looked_at (consT (varT 1) (consT (varT 2) (nilT))))))) (varT 8) [some d1, some f.d, some (sgD row), a3, a4, a5, a6, some (sgD row'), none] = .ok (.list []) [some d1, some f.d, some (sgD row), a3, a4, a5, a6, some (sgD row'), none] := by
    intro a3 a4 a5 a6
    have rg : rng1D [.int (row.length : Int)] = some ((List.range row.length).map fun i : Nat => PyData.int (i : Int)) := by
      have := rng_nat (row.length : Int) (by omega) (by omega)
      rwa [Int.toNat_natCast] at this
    have := lcT_pure (vs := [8]) (Ti := rngT rng1D (consT (callB lenD (consT (varT 2) (nilT))) (nilT))) (g := setG 8) (tt := andT (isB (Z.binT neD (Z.binT idxD (varT 2) (varT 8)) (Z.binT idxD (varT 7) (varT 8)))) (isB (Z.binT inD (varT 8) (callT [none, none] S_looked_at (consT (varT 1) (consT (varT 2) (nilT))))))) (te := varT 8)
      (ρ := [some d1, some f.d, some (sgD row), a3, a4, a5, a6, some (sgD row'), none]) (ρ1 := [some d1, some f.d, some (sgD row), a3, a4, a5, a6, some (sgD row'), none]) (List.range row.length) (fun i : Nat => PyData.int (i : Int)) (fun _ => false) (fun i => .int i) (fun i => [some d1, some f.d, some (sgD row), a3, a4, a5, a6, some (sgD row'), some (.int (i : Int))])
      (rngT_len rfl q5 rg) (fun i hi => by
        have hi' := List.mem_range.mp hi
        have x1 := sg_at hi'
        have x2 := sg_at (row := row') (p := i) (by omega)
        by_cases hq : row[i] = row'[i]'(by omega)
        · simp [wipeR, x1, x2, hq]
        · have hk : i ∈ bl := D' i (by rw [List.getElem?_eq_getElem hi', List.getElem?_eq_getElem (by omega)]; simpa using hq)
          have hk2 : decide (i ∈ lk) = false := decide_eq_false (hdis i hk)
          have x3 := in_nt i lk
          rw [hk2] at x3
          simp [wipeR, x1, x2, hq, e8', x3]) (by simp; omega)
    rw [this]
    simp
  rw [← hrL] at q5 e5
  rw [← hwL] at q6 e5
  have t1 : (tgtT (tupG 3 (consG (setG 3) (consG (setG 4) (consG (setG 5) (nilG))))) (callT [none, none] S__law_reading (consT (varT 1) (consT (varT 2) (nilT)))) : Rho → Out Rho Flw) [some d, some f.d, some (sgD row), none, none, none, none, none, none] = .ok .nx [some d, some f.d, some (sgD row), some co, some (ntD bl), some .none, none, none, none] := by
    simp [hrd]
  have t2 : ∀ X : Rho → Out Rho Flw, (ifT (notT (isB (callT [none, none] (S__law_equal 12) (consT (lstT (consT (callT [none, none] S_read (consT (varT 1) (consT (varT 2) (nilT)))) (consT (callT [none, none] S_refusal (consT (varT 1) (consT (varT 2) (nilT)))) (nilT)))) (consT (lstT (consT (varT 3) (consT (cT .none) (nilT)))) (nilT)))))) X (nxT) : Rho → Out Rho Flw) [some d, some f.d, some (sgD row), some co, some (ntD bl), some .none, none, none, none] = .ok .nx [some d, some f.d, some (sgD row), some co, some (ntD bl), some .none, none, none, none] := by
    intro X; simp [e1, e2, q1]
  have t3 : (asgT 6 (callT [none, none] S_write (consT (varT 1) (consT (varT 3) (nilT)))) : Rho → Out Rho Flw) [some d, some f.d, some (sgD row), some co, some (ntD bl), some .none, none, none, none] = .ok .nx [some d, some f.d, some (sgD row), some co, some (ntD bl), some .none, some (sgD lst), none, none] := by
    simp [e3]
  have isT : isNotD (.bool true) (.bool true) = some (.bool false) := rfl
  have t4 : ∀ X : Rho → Out Rho Flw, (ifT (orT (isB (Z.binT isNotD (callT [none, none] S_is_content (consT (varT 1) (consT (varT 3) (nilT)))) (cT (.bool true)))) (isB (Z.binT gtD (tupT (consT (callB lenD (consT (varT 6) (nilT))) (consT (varT 6) (nilT)))) (tupT (consT (callB lenD (consT (varT 2) (nilT))) (consT (varT 2) (nilT))))))) X (nxT) : Rho → Out Rho Flw) [some d, some f.d, some (sgD row), some co, some (ntD bl), some .none, some (sgD lst), none, none] = .ok .nx [some d, some f.d, some (sgD row), some co, some (ntD bl), some .none, some (sgD lst), none, none] := by
    intro X; simp [e4, isT, q5, q6, e5]
  have t5 : ∀ X : Rho → Out Rho Flw, (ifT (notT (isB (callT [none, none] (S__law_equal 12) (consT (lstT (consT (callT [none, none] S_read (consT (varT 1) (consT (varT 6) (nilT)))) (consT (callT [none, none] S_write (consT (varT 1) (consT (callT [none, none] S_read (consT (varT 1) (consT (varT 6) (nilT)))) (nilT)))) (nilT)))) (consT (lstT (consT (varT 3) (consT (varT 6) (nilT)))) (nilT)))))) X (nxT) : Rho → Out Rho Flw) [some d, some f.d, some (sgD row), some co, some (ntD bl), some .none, some (sgD lst), none, none] = .ok .nx [some d, some f.d, some (sgD row), some co, some (ntD bl), some .none, some (sgD lst), none, none] := by
    intro X; simp [e6, e3, q2]
  have t6 : ∀ X : Rho → Out Rho Flw, (ifT (andT (isB (chainT ltD ltD (cT (.int 0)) (callB lenD (consT (varT 2) (nilT))) (cT (.int 61)))) (notT (isB (callT [none, none] (S__law_equal 12) (consT (callT [none, none] S__law_live_told (consT (varT 1) (consT (varT 2) (nilT)))) (consT (tupT (consT (varT 3) (consT (cT (.str ("done" : Str))) (nilT)))) (nilT))))))) X (nxT) : Rho → Out Rho Flw) [some d, some f.d, some (sgD row), some co, some (ntD bl), some .none, some (sgD lst), none, none] = .ok .nx [some d, some f.d, some (sgD row), some co, some (ntD bl), some .none, some (sgD lst), none, none] := by
    intro X
    by_cases hz : 0 < rL
    · have hne : row ≠ [] := fun e => by rw [e] at hrL; simp at hrL; omega
      by_cases hz2 : rL < 61
      · simp [q5, hz, hz2, q4 hne, q3]
      · simp [q5, hz, hz2]
    · simp [q5, hz]
  have t7 : (asgT 7 (callT [some 0, none, none, none] S__law_turned_blind (ownT 0 (consT (varT 1) (consT (varT 2) (consT (varT 4) (nilT)))))) : Rho → Out Rho Flw) [some d, some f.d, some (sgD row), some co, some (ntD bl), some .none, some (sgD lst), none, none] = .ok .nx [some d1, some f.d, some (sgD row), some co, some (ntD bl), some .none, some (sgD lst), some (sgD row'), none] := by
    simp [et]
  have t8 : ∀ X : Rho → Out Rho Flw, (ifT (notT (isB (callT [none, none] (S__law_equal 12) (consT (lstT (consT (callT [none, none] S_read (consT (varT 1) (consT (varT 7) (nilT)))) (consT (callT [none, none] S_write (consT (varT 1) (consT (varT 3) (nilT)))) (nilT)))) (consT (lstT (consT (varT 3) (consT (varT 6) (nilT)))) (nilT)))))) X (nxT) : Rho → Out Rho Flw) [some d1, some f.d, some (sgD row), some co, some (ntD bl), some .none, some (sgD lst), some (sgD row'), none] = .ok .nx [some d1, some f.d, some (sgD row), some co, some (ntD bl), some .none, some (sgD lst), some (sgD row'), none] := by
    intro X; simp [e7, e3, q2]
  have lc0 := lc (some co) (some (ntD bl)) (some .none) (some (sgD lst))
  simp only [sqT_eq, t1, sqK_nx, t2, t3, t4, t5, t6, t7, t8]
  rw [retT_eq, Z.binT_eq, lc0]
  simp [list_eq_nil]
end K80

/-! file KP22 -/
set_option Elab.async false
set_option linter.all false
set_option autoImplicit false
set_option maxRecDepth 100000
set_option maxHeartbeats 4000000
namespace K80
open PySem PySem.Spec L2 Z
def tbI : Rho → Out Rho Flw := sqT (asgT 4 (callT [some 2] S__law_wide_form (ownT 2 (nilT)))) (sqT (asgT 5 (callT [some 2, none, none, none] S__law_content (ownT 2 (consT (varT 4) (consT (cT (.int 6)) (consT (Z.binT idxD (lstT (consT (cT (.int 3)) (consT (cT (.int 20)) (nilT)))) (callT [some 2, none] S__law_grab (ownT 2 (consT (cT (.int 2)) (nilT))))) (nilT))))))) (sqT (asgT 6 (callT [none, none] S_write (consT (varT 4) (consT (varT 5) (nilT))))) (sqT (ifT (notT (isB (callT [none, none] (S__law_equal 12) (consT (lstT (consT (callT [none, none] S_read (consT (varT 4) (consT (varT 6) (nilT)))) (consT (callT [none, none] S_refusal (consT (varT 4) (consT (varT 6) (nilT)))) (nilT)))) (consT (lstT (consT (varT 5) (consT (cT .none) (nilT)))) (nilT)))))) (retT (cT (.bool false))) (nxT)) (sqT (ifT (andT (isB (chainT ltD ltD (cT (.int 0)) (callB lenD (consT (varT 6) (nilT))) (cT (.int 61)))) (notT (isB (callT [none, none] (S__law_equal 12) (consT (callT [none, none] S__law_live_told (consT (varT 4) (consT (varT 6) (nilT)))) (consT (tupT (consT (varT 5) (consT (cT (.str ("done" : Str))) (nilT)))) (nilT))))))) (retT (cT (.bool false))) (nxT)) (sqT (asgT 6 (callT [some 2, none, none, none] S__law_good_file (ownT 2 (consT (varT 4) (consT (Z.binT idxD (lstT (consT (cT (.int 3)) (consT (cT (.int 9)) (nilT)))) (callT [some 2, none] S__law_grab (ownT 2 (consT (cT (.int 2)) (nilT))))) (consT (cT (.int 200)) (nilT))))))) (ifT (andT (isB (Z.binT isNotD (varT 6) (cT .none))) (notT (isB (callT [some 2, none, none] S__law_file_right (ownT 2 (consT (varT 4) (consT (varT 6) (nilT)))))))) (retT (cT (.bool false))) (nxT)))))))
theorem two_at (x y : Int) (v : Int) (h0 : 0 ≤ v) (h1 : v < 2) : ∃ z : Int, atI [PyData.int x, .int y] v = some (.int z) ∧ (z = x ∨ z = y) := by
  have : v = 0 ∨ v = 1 := by omega
  rcases this with rfl | rfl
  · exact ⟨x, rfl, .inl rfl⟩
  · exact ⟨y, rfl, .inr rfl⟩
theorem turn_eq {n : Nat} {d : D} (hB : Bag n d) (hn : n + 100000 ≤ 1000000000000) (sc at' tn : D) (a4 a5 a6 : Option D) :
    ∃ (d' : D) (b4 b5 b6 : Option D), tbI [some sc, some at', some d, some tn, a4, a5, a6] = .ok .nx [some sc, some at', some d', some tn, b4, b5, b6] ∧ Bag (n + 60000) d' := by
  obtain ⟨f, d1, e1, h, hm, hh, b1⟩ := wide_form_eq hB (by omega)
  obtain ⟨v2, d2, e2, c0, c1, b2⟩ := grab_eq b1 (by omega) 2 (by decide) (by decide)
  obtain ⟨z, ez, hz⟩ := two_at 3 20 v2 c0 c1
  obtain ⟨c, d3, e3, hc, hcl, hcb, b3⟩ := content_eq h b2 (by omega) 6 z (by decide) (by decide) (by omega) (by omega)
  have hsm : Small c := ⟨by omega, fun p hp => by have := hcb p hp; omega⟩
  have wF := writF_ok h hc
  have ws := writ_sg h hc hsm
  have e4 := write_eq h hc
  have e5 : S_read [f.d, sgD (writ f c)] = .ok (coD c) [] := by
    have := read_eq h wF ws
    rw [writF_signs] at this
    rw [this]
    show Out.ok (coD (content f c)) [] = _
    rw [content_con hc]
  have e6 : S_refusal [f.d, sgD (writ f c)] = .ok .none [] := by
    have := refusal_eq h wF ws
    rwa [writF_signs] at this
  have q1 := eq_co_none c (by have := hsm.n; omega) (fun p hp => by have := hsm.b p hp; omega)
  have q3 := eq_co_done c (by have := hsm.n; omega) (fun p hp => by have := hsm.b p hp; omega)
  have q4 : writ f c ≠ [] → S__law_live_told [f.d, sgD (writ f c)] = .ok (.tuple [coD c, .str "done"]) [] := fun hne => by
    have := live_told_eq h wF ws hne
    rw [writF_signs] at this
    rw [this]
    show Out.ok (PyData.tuple [coD (content f c), _]) [] = _
    rw [content_con hc]
  obtain ⟨v7, d7, e7, g0, g1, b7⟩ := grab_eq b3 (by omega) 2 (by decide) (by decide)
  obtain ⟨y, ey, hy⟩ := two_at 3 9 v7 g0 g1
  obtain ⟨r, d8, e8, b8, hr⟩ := good_file_eq b7 h (by omega) y (by omega) (by omega) 200 (by decide)
  obtain ⟨row, hrow⟩ : ∃ row, row = writ f c := ⟨_, rfl⟩
  obtain ⟨co, hco⟩ : ∃ co, co = coD c := ⟨_, rfl⟩
  rw [← hrow, ← hco] at e4 e5 q4
  rw [← hco] at e3 q1 q3
  rw [← hrow] at e6
  obtain ⟨rL, hrL⟩ : ∃ rL : Int, rL = (row.length : Int) := ⟨_, rfl⟩
  have q5 := len_sg row
  rw [← hrL] at q5
  have t1 : (asgT 4 (callT [some 2] S__law_wide_form (ownT 2 (nilT))) : Rho → Out Rho Flw) [some sc, some at', some d, some tn, a4, a5, a6] = .ok .nx [some sc, some at', some d1, some tn, some f.d, a5, a6] := by simp [e1]
  have t2 : (asgT 5 (callT [some 2, none, none, none] S__law_content (ownT 2 (consT (varT 4) (consT (cT (.int 6)) (consT (Z.binT idxD (lstT (consT (cT (.int 3)) (consT (cT (.int 20)) (nilT)))) (callT [some 2, none] S__law_grab (ownT 2 (consT (cT (.int 2)) (nilT))))) (nilT)))))) : Rho → Out Rho Flw) [some sc, some at', some d1, some tn, some f.d, a5, a6] = .ok .nx [some sc, some at', some d3, some tn, some f.d, some co, a6] := by simp [e2, ez, e3]
  have t3 : (asgT 6 (callT [none, none] S_write (consT (varT 4) (consT (varT 5) (nilT)))) : Rho → Out Rho Flw) [some sc, some at', some d3, some tn, some f.d, some co, a6] = .ok .nx [some sc, some at', some d3, some tn, some f.d, some co, some (sgD row)] := by simp [e4]
  have t4 : ∀ X : Rho → Out Rho Flw, (ifT (notT (isB (callT [none, none] (S__law_equal 12) (consT (lstT (consT (callT [none, none] S_read (consT (varT 4) (consT (varT 6) (nilT)))) (consT (callT [none, none] S_refusal (consT (varT 4) (consT (varT 6) (nilT)))) (nilT)))) (consT (lstT (consT (varT 5) (consT (cT .none) (nilT)))) (nilT)))))) X (nxT) : Rho → Out Rho Flw) [some sc, some at', some d3, some tn, some f.d, some co, some (sgD row)] = .ok .nx [some sc, some at', some d3, some tn, some f.d, some co, some (sgD row)] := by
    intro X; simp [e5, e6, q1]
  have t5 : ∀ X : Rho → Out Rho Flw, (ifT (andT (isB (chainT ltD ltD (cT (.int 0)) (callB lenD (consT (varT 6) (nilT))) (cT (.int 61)))) (notT (isB (callT [none, none] (S__law_equal 12) (consT (callT [none, none] S__law_live_told (consT (varT 4) (consT (varT 6) (nilT)))) (consT (tupT (consT (varT 5) (consT (cT (.str ("done" : Str))) (nilT)))) (nilT))))))) X (nxT) : Rho → Out Rho Flw) [some sc, some at', some d3, some tn, some f.d, some co, some (sgD row)] = .ok .nx [some sc, some at', some d3, some tn, some f.d, some co, some (sgD row)] := by
    intro X
    by_cases hz : 0 < rL
    · have hne : row ≠ [] := fun e => by rw [e] at hrL; simp at hrL; omega
      by_cases hz2 : rL < 61
      · simp [q5, hz, hz2, q4 hne, q3]
      · simp [q5, hz, hz2]
    · simp [q5, hz]
  have t6 : (asgT 6 (callT [some 2, none, none, none] S__law_good_file (ownT 2 (consT (varT 4) (consT (Z.binT idxD (lstT (consT (cT (.int 3)) (consT (cT (.int 9)) (nilT)))) (callT [some 2, none] S__law_grab (ownT 2 (consT (cT (.int 2)) (nilT))))) (consT (cT (.int 200)) (nilT)))))) : Rho → Out Rho Flw) [some sc, some at', some d3, some tn, some f.d, some co, some (sgD row)] = .ok .nx [some sc, some at', some d8, some tn, some f.d, some co, some r] := by simp [e7, ey, e8]
  rcases hr with rfl | ⟨F, rfl, hF, hi, hl, hrd⟩
  · refine ⟨d8, some f.d, some co, some .none, ?_, b8.mono (by omega)⟩
    simp only [tbI, sqT_eq, t1, sqK_nx, t2, t3, t4, t5, t6]
    simp
  · obtain ⟨d9, e9, b9⟩ := file_right_eq b8 h (by omega) hF hi (by omega) hrd
    refine ⟨d9, some f.d, some co, some (sgD (F.signs f)), ?_, b9.mono (by omega)⟩
    simp only [tbI, sqT_eq, t1, sqK_nx, t2, t3, t4, t5, t6]
    simp [sgN, e9]
theorem aux1 {m r : Nat} (h : m + 60000 * (r + 1) ≤ 240000) : m + 100000 ≤ 1000000000000 ∧ m + 60000 + 60000 * r ≤ 240000 := by omega
theorem plain (ns : List Int) (hns : ns.length ≤ 63) : ∃ os, S_law [.list (ns.map .int)] = .ok (.bool true) os := by
  refine ⟨[], ?_⟩
  have hT : T_law = sqT (forS (rngT rng1D (consT (callB maxD (consT (cT (.int 1)) (consT (callB minD (consT (cT (.int 5)) (consT (callB lenD (consT (varT 0) (nilT))) (nilT)))) (nilT)))) (nilT))) (setG 1) (sqT (asgT 2 (callT [none, none] S__law_bag (consT (varT 0) (consT (varT 1) (nilT))))) (sqT (forS (rngT rng1D (consT (cT (.int 4)) (nilT))) (setG 3) tbI) (nxT)))) (retT (cT (.bool true))) := rfl
  simp only [S_law, runF_eq]
  rw [hT]
  have hρ : rho0 7 [.list (ns.map .int)] = [some (.list (ns.map .int)), none, none, none, none, none, none] := rfl
  rw [hρ]
  obtain ⟨tbo, htbo⟩ : ∃ tbo : Rho → Out Rho Flw, tbo = sqT (asgT 2 (callT [none, none] S__law_bag (consT (varT 0) (consT (varT 1) (nilT))))) (sqT (forS (rngT rng1D (consT (cT (.int 4)) (nilT))) (setG 3) tbI) (nxT)) := ⟨_, rfl⟩
  have rg4 : rng1D [.int 4] = some ((List.range 4).map fun i : Nat => PyData.int (i : Int)) := rng_nat 4 (by decide) (by decide)
  obtain ⟨N, hN, hN1⟩ : ∃ N : Nat, rngT rng1D (consT (callB maxD (consT (cT (.int 1)) (consT (callB minD (consT (cT (.int 5)) (consT (callB lenD (consT (varT 0) (nilT))) (nilT)))) (nilT)))) (nilT)) [some (.list (ns.map .int)), none, none, none, none, none, none] = .ok ((List.range N).map fun i : Nat => PyData.int (i : Int)) [some (.list (ns.map .int)), none, none, none, none, none, none] ∧ N ≤ 5 := by
    obtain ⟨m, hm⟩ : ∃ m : Int, lenD [.list (ns.map .int)] = some (.int m) := ⟨_, rfl⟩
    obtain ⟨k, hk⟩ : ∃ k : Int, k = (if m < 5 then m else 5) := ⟨_, rfl⟩
    obtain ⟨q, hq⟩ : ∃ q : Int, q = (if k > 1 then k else 1) := ⟨_, rfl⟩
    have hq0 : 0 ≤ q ∧ q ≤ 5 := by rw [hq, hk]; split <;> split <;> omega
    refine ⟨q.toNat, ?_, by omega⟩
    have rg := rng_nat q hq0.1 (by omega)
    simp [-lenD_list, hm, ← hk]
    rw [← hq, rg]
    rfl
  have lp := forT_inv (g := setG 1) (tb := tbo) (fun i : Nat => PyData.int (i : Int))
    (fun (rest : List Nat) (ρ : Rho) => ∃ a1 a2 a3 a4 a5 a6, ρ = [some (.list (ns.map .int)), a1, a2, a3, a4, a5, a6] ∧ ∀ i ∈ rest, i < 5)
    (fun _ => False) (fun _ _ => False) (by
      rintro i rest ρ ⟨a1, a2, a3, a4, a5, a6, rfl, hin⟩
      refine ⟨_, rfl, .inl ?_⟩
      have hi := hin i (List.mem_cons_self ..)
      obtain ⟨d, e1, b1⟩ := bag_eq ns (i : Int) (by omega) (by omega)
      have lp2 := forT_inv (g := setG 3) (tb := tbI) (fun i : Nat => PyData.int (i : Int))
        (fun (rest : List Nat) (ρ : Rho) => ∃ bag a3 a4 a5 a6, ρ = [some (.list (ns.map .int)), some (.int (i : Int)), some bag, a3, a4, a5, a6] ∧ ∃ m, Bag m bag ∧ m + 60000 * rest.length ≤ 240000)
        (fun _ => False) (fun _ _ => False) (by
          rintro j rest ρ ⟨bag, a3, a4, a5, a6, rfl, m, hb, hm⟩
          rw [List.length_cons] at hm
          have hx := (aux1 hm).1
          obtain ⟨d', b4, b5, b6, e, hb'⟩ := turn_eq (n := m) (d := bag) hb hx (.list (ns.map PyData.int)) (.int (i : Int)) (.int (j : Int)) a4 a5 a6
          exact ⟨_, rfl, .inl ⟨_, .inl e, d', _, _, _, _, rfl, m + 60000, hb', (aux1 hm).2⟩⟩)
        (List.range 4) [some (.list (ns.map .int)), some (.int (i : Int)), some d, a3, a4, a5, a6]
        ⟨d, _, _, _, _, rfl, 0, b1, by rw [List.length_range]; decide⟩
      rcases lp2 with ⟨ρ', e, ⟨bag, x3, x4, x5, x6, rfl, _⟩ | hF⟩ | ⟨_, _, _, hF⟩
      · refine ⟨[some (.list (ns.map .int)), some (.int (i : Int)), some bag, x3, x4, x5, x6], .inl ?_, _, _, _, _, _, _, rfl, fun q hq => hin q (List.mem_cons_of_mem _ hq)⟩
        rw [htbo, sqT_eq]
        have t1 : (asgT 2 (callT [none, none] S__law_bag (consT (varT 0) (consT (varT 1) (nilT)))) : Rho → Out Rho Flw) [some (.list (ns.map .int)), some (.int (i : Int)), a2, a3, a4, a5, a6] = .ok .nx [some (.list (ns.map .int)), some (.int (i : Int)), some d, a3, a4, a5, a6] := by simp [e1]
        rw [List.set_cons_succ, List.set_cons_zero, t1, sqK_nx]
        simp only [sqT_eq, forS_eq, rngT_eq, consT_eq, cT_eq, nilT_eq, bind_ok, rg4, of_some, e, sqK_nx, nxT_eq]
      · exact hF.elim
      · exact hF.elim)
    (List.range N) [some (.list (ns.map .int)), none, none, none, none, none, none]
    ⟨_, _, _, _, _, _, rfl, fun i hi => by have := List.mem_range.mp hi; omega⟩
  have s1 : (forS (rngT rng1D (consT (callB maxD (consT (cT (.int 1)) (consT (callB minD (consT (cT (.int 5)) (consT (callB lenD (consT (varT 0) (nilT))) (nilT)))) (nilT)))) (nilT))) (setG 1) tbo : Rho → Out Rho Flw) [some (.list (ns.map .int)), none, none, none, none, none, none] = forT (setG 1) tbo ((List.range N).map fun i : Nat => PyData.int (i : Int)) [some (.list (ns.map .int)), none, none, none, none, none, none] := by
    rw [forS_eq, hN]; rfl
  rw [← htbo]
  rcases lp with ⟨ρ', e, ⟨a1, a2, a3, a4, a5, a6, rfl, _⟩ | hF⟩ | ⟨_, _, _, hF⟩
  · rw [sqT_eq, s1, e]
    simp
  · exact hF.elim
  · exact hF.elim
end K80

/-! file K80End -/
set_option Elab.async false
set_option linter.all false
set_option autoImplicit false
set_option maxRecDepth 100000
set_option maxHeartbeats 0
namespace K80
open PySem PySem.Spec PyProof.Rows L2 Z
abbrev R : PySem.W.OpenRow := PySem.W.OpenLaw.row PySem.Challenge.rw_bothreaders_k80_whole_contents_and_files
abbrev hk : PySem.W.Hook := hookZ 5 fnL exB
def ob (s : PySem.W.SharedT) : He.AlD := obsZG 5 fnL exB (HandSHeadRun.getT s)
theorem ob_eq (s : PySem.W.SharedT) : ob s = hk.obs s.abs := obsZG_eq (HandSHeadRun.getT_eq s)
theorem run (w : World) : HandSHeadRun.RunEq R (PySem.W.view R.prog [92]) hk ob 8000 loose w :=
  PySem.W.byRow2 "special-get-raises" (P := fun w => HandSHeadRun.RunEq R (PySem.W.view R.prog [92]) hk ob 8000 loose w) (fun w os => by kernel_rfl) (fun w os => by kernel_rfl) w
end K80
open PySem PySem.W PySem.Calls PyProof.Rows
theorem PySem.Challenge.cw_bothreaders_k80_whole_contents_and_files_holds : PySem.Challenge.rw_bothreaders_k80_whole_contents_and_files.Holds := by
  w_on; o_law
  refine HandSHeadRun.head_any (r := K80.R) (q := view K80.R.prog [92]) (H := K80.hk) (ob := K80.ob) (M := 8000) (loose := K80.loose) (d := HandSHeadRun.topDef K80.R.prog 92) (kwd := []) K80.ob_eq
    (by kernel_rfl) (fun s => by kernel_rfl) K80.run (by kernel_rfl) (by kernel_rfl) (by kernel_rfl) (by rfl) (by first | assumption | decide +kernel) (by decide +kernel) ⟨rfl, rfl, rfl, rfl, rfl, by decide +kernel⟩ ?hw ?hc
  case hw => w_witness2
  case hc =>
    refine Z.walkZ (l := PySem.Challenge.rw_bothreaders_k80_whole_contents_and_files) (n := 63) (k := 14) (x := "script") (S := K80.S_law) rfl (by decide) (by kernel_rfl) ⟨rfl, by decide, by decide⟩ (fun w mg fa h Y G hmg0 => ?_) (fun ns h _ => K80.plain ns h)
    obtain ⟨K, KX, c⟩ := Y
    have hmg : mg ("law" : PySem.Str) = some (.ref fa) := by
      have e : (HandSHeadRun.topDef K80.R.prog 92).name = ("law" : PySem.Str) := by kernel_rfl
      rw [← e]
      exact hmg0
    have e := hmg.symm.trans (K80.law_at KX G c)
    cases e
    exact ⟨K, KX, K80.all_ok KX G c⟩

