import PyProof.Rows.All
import Wide.All
import OpenK.AllK
import Wide.FinOn
import HandS.ForMost
import HandS.ForExc
import HandS.Star
import HandS.IsInst
import HandS.Deep
import HandS.TupAny
import HandS.Wide
import HandS.Flow
import HandS.Zip
import KE.KDictKeyed
import KE.DataCmp
import HandS.Style
import KE.GoesMore
import PyProof.EnumMake
import PyProof.Draws
import HandS.NoneIn
import KE.KTupSum
import KE.KUnpackStar
import HandS.Property
import HandS.HeadNt
import HandS.HeadEnd
import HandS.Head0
import HandS.Head1
import HandS.Head2
import HandS.Conv
import KE.KDictDisplayH
import HandS.SortInts
import HandS.EndBits
import PySem.Challenge.RW_bothreaders_k66_least_contents_relayed
/-! file ZBase -/
set_option Elab.async false
set_option linter.all false
set_option autoImplicit false
set_option maxRecDepth 100000
set_option maxHeartbeats 4000000
/-! trees over the hand layer: the base -/
namespace Z
open PySem PySem.Spec PyProof.Rows L2

abbrev D := PyData
/-- the locals as trees -/
abbrev Rho := List (Option D)

/-- the program and the world: a dict's hashes hang on them -/
class PgW where
  P : Program
  w : World
/-! ### trees as keys -/
mutual
def keyD : D → Option NestedKey
  | .none => some .none
  | .bool b => some (.num (if b = true then 1 else 0))
  | .int i => some (.num i)
  | .str x => some (.text x)
  | .tuple ds => (keysD ds).map .tup
  | .list _ => none
  | .dict _ => none
def keysD : List D → Option (List NestedKey)
  | [] => some []
  | d :: ds => (keyD d).bind fun k => (keysD ds).map (k :: ·)
end
/-- a dict's object, by its entries -/
def dctO (P : Program) (w : World) (a : Addr) (xs : List (NestedKey × Addr × Value)) : HO := .ext fun h =>
  xs.length ≤ sizeLine ∧ (a == sysModules) = false ∧ ∃ o es ep, h.get? a = some o ∧ o.ExactDict ∧ o.data = .dict es ep ∧ es.toList = xs.map (entryOfKey (nestedKind P w)) ∧ (xs.map (·.1)).Nodup
mutual
inductive Dp [PgW] (K : PySem.W.Frag) (H : Hp) : V → D → Prop
  | non : Dp K H .non .none
  | bl (b : Bool) : Dp K H (.bl b) (.bool b)
  | int (i : Int) : Dp K H (.int i) (.int i)
  | str (x : Str) : Dp K H (.str x) (.str x)
  | lst {a : Addr} {xs : List V} {ds : List D} : SqL K H a xs → DpAll K H xs ds → Dp K H (.ref a) (.list ds)
  | tup {a : Addr} {xs : List V} {ds : List D} : SqT K H a xs → DpAll K H xs ds → Dp K H (.ref a) (.tuple ds)
  | dct {a : Addr} {xs : List (NestedKey × Addr × Value)} {kvs : List (D × D)} : H a = some (dctO PgW.P PgW.w a xs) → DpKv K H xs kvs → Dp K H (.ref a) (.dict kvs)
inductive DpAll [PgW] (K : PySem.W.Frag) (H : Hp) : List V → List D → Prop
  | nil : DpAll K H [] []
  | cons {v : V} {vs : List V} {d : D} {ds : List D} : Dp K H v d → DpAll K H vs ds → DpAll K H (v :: vs) (d :: ds)
inductive DpKv [PgW] (K : PySem.W.Frag) (H : Hp) : List (NestedKey × Addr × Value) → List (D × D) → Prop
  | nil : DpKv K H [] []
  | cons {k : NestedKey} {b : Addr} {u : Value} {v : V} {xs : List (NestedKey × Addr × Value)} {kd vd : D} {kvs : List (D × D)} : keyD kd = some k → k.depth ≤ 8 → Dp K H (.ref b) kd → RelV v u → Dp K H v vd → DpKv K H xs kvs → DpKv K H ((k, b, u) :: xs) ((kd, vd) :: kvs)
end
variable [PgW]
/-! ### trees in a heap -/
section
variable {K : PySem.W.Frag} {G G' : Hp}
omit [PgW] in
theorem rd_mono (h : ∀ a o, G a = some o → G' a = some o) {a : Addr} {u : HO} (r : Rd G a u) : Rd G' a u := by
  rcases r with r | ⟨o, r⟩
  · exact .inl (h _ _ r)
  · exact .inr ⟨o, h _ _ r⟩
omit [PgW] in
theorem sqL_mono (h : ∀ a o, G a = some o → G' a = some o) {a : Addr} {xs : List V} (r : SqL K G a xs) : SqL K G' a xs := by
  rcases r with r | r
  · exact .inl (rd_mono h r)
  · exact .inr r
omit [PgW] in
theorem sqT_mono (h : ∀ a o, G a = some o → G' a = some o) {a : Addr} {xs : List V} (r : SqT K G a xs) : SqT K G' a xs := by
  rcases r with r | r
  · exact .inl (rd_mono h r)
  · exact .inr r
mutual
theorem dp_mono (h : ∀ a o, G a = some o → G' a = some o) : ∀ {v : V} {d : D}, Dp K G v d → Dp K G' v d
  | _, _, .non => .non
  | _, _, .bl b => .bl b
  | _, _, .int i => .int i
  | _, _, .str x => .str x
  | _, _, .lst q r => .lst (sqL_mono h q) (dpAll_mono h r)
  | _, _, .tup q r => .tup (sqT_mono h q) (dpAll_mono h r)
  | _, _, .dct q r => .dct (h _ _ q) (dpKv_mono h r)
theorem dpAll_mono (h : ∀ a o, G a = some o → G' a = some o) : ∀ {vs : List V} {ds : List D}, DpAll K G vs ds → DpAll K G' vs ds
  | _, _, .nil => .nil
  | _, _, .cons r s => .cons (dp_mono h r) (dpAll_mono h s)
theorem dpKv_mono (h : ∀ a o, G a = some o → G' a = some o) : ∀ {xs : List (NestedKey × Addr × Value)} {kvs : List (D × D)}, DpKv K G xs kvs → DpKv K G' xs kvs
  | _, _, .nil => .nil
  | _, _, .cons e l k r v s => .cons e l (dp_mono h k) r (dp_mono h v) (dpKv_mono h s)
end
theorem DpAll.len : ∀ {vs : List V} {ds : List D}, DpAll K G vs ds → vs.length = ds.length
  | _, _, .nil => rfl
  | _, _, .cons _ s => congrArg (· + 1) (DpAll.len s)
theorem DpAll.get : ∀ {vs : List V} {ds : List D} {i : Nat} {v : V}, DpAll K G vs ds → vs[i]? = some v → ∃ d, ds[i]? = some d ∧ Dp K G v d
  | _, _, i, v, .nil, h => by simp at h
  | _, _, 0, v, .cons r _, h => by
    simp at h
    subst h
    exact ⟨_, rfl, r⟩
  | _, _, i + 1, v, .cons _ s, h => by
    obtain ⟨d, e, r⟩ := DpAll.get (i := i) (v := v) s (by simpa using h)
    exact ⟨d, by simpa using e, r⟩
theorem DpAll.get' : ∀ {vs : List V} {ds : List D} {i : Nat} {d : D}, DpAll K G vs ds → ds[i]? = some d → ∃ v, vs[i]? = some v ∧ Dp K G v d
  | _, _, i, d, .nil, h => by simp at h
  | _, _, 0, d, .cons r _, h => by
    simp at h
    subst h
    exact ⟨_, rfl, r⟩
  | _, _, i + 1, d, .cons _ s, h => by
    obtain ⟨v, e, r⟩ := DpAll.get' (i := i) (d := d) s (by simpa using h)
    exact ⟨v, by simpa using e, r⟩
theorem DpAll.append : ∀ {vs ws : List V} {ds es : List D}, DpAll K G vs ds → DpAll K G ws es → DpAll K G (vs ++ ws) (ds ++ es)
  | _, _, _, _, .nil, h => h
  | _, _, _, _, .cons r s, h => .cons r (DpAll.append s h)
theorem DpAll.take : ∀ {vs : List V} {ds : List D} (n : Nat), DpAll K G vs ds → DpAll K G (vs.take n) (ds.take n)
  | _, _, 0, _ => by simp; exact .nil
  | _, _, n + 1, .nil => .nil
  | _, _, n + 1, .cons r s => .cons r (DpAll.take n s)
theorem DpAll.drop : ∀ {vs : List V} {ds : List D} (n : Nat), DpAll K G vs ds → DpAll K G (vs.drop n) (ds.drop n)
  | _, _, 0, h => h
  | _, _, n + 1, .nil => .nil
  | _, _, n + 1, .cons r s => DpAll.drop n s
theorem DpAll.set : ∀ {vs : List V} {ds : List D} (n : Nat) {v : V} {d : D}, DpAll K G vs ds → Dp K G v d → DpAll K G (vs.set n v) (ds.set n d)
  | _, _, n, _, _, .nil, _ => .nil
  | _, _, 0, _, _, .cons _ s, q => .cons q s
  | _, _, n + 1, _, _, .cons r s, q => .cons r (DpAll.set n s q)
theorem DpAll.dropLast : ∀ {vs : List V} {ds : List D}, DpAll K G vs ds → DpAll K G vs.dropLast ds.dropLast := fun {vs ds} h => by
  rw [List.dropLast_eq_take, List.dropLast_eq_take, h.len]
  exact h.take _
theorem DpAll.ints : ∀ {vs : List V} {ns : List Int}, DpAll K G vs (ns.map .int) → vs = ns.map V.int
  | _, [], .nil => rfl
  | _, n :: ns, h => by
    cases h with
    | cons r s =>
      cases r
      rw [DpAll.ints s] <;> rfl
theorem dpAll_ints : ∀ ns : List Int, DpAll K G (ns.map V.int) (ns.map .int)
  | [] => .nil
  | n :: ns => .cons (.int n) (dpAll_ints ns)
theorem DpAll.bls : ∀ {vs : List V} {bs : List Bool}, DpAll K G vs (bs.map .bool) → vs = bs.map V.bl
  | _, [], .nil => rfl
  | _, n :: ns, h => by
    cases h with
    | cons r s =>
      cases r
      rw [DpAll.bls s] <;> rfl
theorem DpAll.strs : ∀ {vs : List V} {bs : List Str}, DpAll K G vs (bs.map .str) → vs = bs.map V.str
  | _, [], .nil => rfl
  | _, n :: ns, h => by
    cases h with
    | cons r s =>
      cases r
      rw [DpAll.strs s] <;> rfl
end

/-! ### owned objects -/
/-- the kind of an owned object -/
inductive OKd where
  | lst
  | ins (C : Addr)
  | dct
abbrev Own := List (Option OKd)
def ok (O : Own) (i : Nat) : Option OKd := (O[i]?).join

def FsR (K : PySem.W.Frag) (G : Hp) (fs : List (Str × V)) (kvs : List (D × D)) : Prop := Paired (fun (p : Str × V) (q : D × D) => q.1 = .str p.1 ∧ Dp K G p.2 q.2) fs kvs
def OwnAt (K : PySem.W.Frag) (H G : Hp) : OKd → Addr → D → Prop
  | .lst, a, d => ∃ xs ds, d = .list ds ∧ H a = some (.lst xs) ∧ DpAll K G xs ds
  | .ins C, a, d => ∃ dx fs kvs, d = .dict kvs ∧ H a = some (.ins C dx fs) ∧ FsR K G fs kvs
  | .dct, a, d => ∃ xs kvs, d = .dict kvs ∧ H a = some (dctO PgW.P PgW.w a xs) ∧ DpKv K G xs kvs
theorem FsR.mono {K : PySem.W.Frag} {G G' : Hp} (h : ∀ a o, G a = some o → G' a = some o) {fs : List (Str × V)} {kvs : List (D × D)} (r : FsR K G fs kvs) : FsR K G' fs kvs :=
  Paired.mapP r fun _ _ q => ⟨q.1, dp_mono h q.2⟩
theorem OwnAt.mono {K : PySem.W.Frag} {H H' G G' : Hp} (h : ∀ a o, G a = some o → G' a = some o) {k : OKd} {a : Addr} {d : D} (hH : H' a = H a) (r : OwnAt K H G k a d) : OwnAt K H' G' k a d := by
  cases k with
  | lst =>
    obtain ⟨xs, ds, e, q, s⟩ := r
    exact ⟨xs, ds, e, hH.trans q, dpAll_mono h s⟩
  | ins C =>
    obtain ⟨dx, fs, kvs, e, q, s⟩ := r
    exact ⟨dx, fs, kvs, e, hH.trans q, s.mono h⟩
  | dct =>
    obtain ⟨xs, kvs, e, q, s⟩ := r
    exact ⟨xs, kvs, e, hH.trans q, dpKv_mono h s⟩
theorem OwnAt.there {K : PySem.W.Frag} {H G : Hp} {k : OKd} {a : Addr} {d : D} (r : OwnAt K H G k a d) : ∃ o, H a = some o := by
  cases k with
  | lst => obtain ⟨xs, ds, e, q, s⟩ := r; exact ⟨_, q⟩
  | ins C => obtain ⟨dx, fs, kvs, e, q, s⟩ := r; exact ⟨_, q⟩
  | dct => obtain ⟨xs, kvs, e, q, s⟩ := r; exact ⟨_, q⟩

/-- F: what must stay; fx: the parameters that own; O: who owns; G: what the trees lean on -/
structure Rel (K : PySem.W.Frag) (F : Hp) (fx : List (Nat × Addr)) (O : Own) (σ : L2.St) (H : Hp) (ρ : Rho) (G : Hp) : Prop where
  fr : ∀ a o, F a = some o → H a = some o
  gr : ∀ a o, G a = some o → H a = some o
  sh : ∀ i d, ρ[i]? = some (some d) → ok O i = none → ∃ v, σ[i]? = some (some v) ∧ Dp K G v d
  ow : ∀ i d k, ρ[i]? = some (some d) → ok O i = some k → ∃ a, σ[i]? = some (some (.ref a)) ∧ OwnAt K H G k a d ∧ F a = none ∧ G a = none
  dj : ∀ i j d e k l a, ρ[i]? = some (some d) → ρ[j]? = some (some e) → ok O i = some k → ok O j = some l → σ[i]? = some (some (.ref a)) → σ[j]? = some (some (.ref a)) → i = j
  fx : ∀ p ∈ fx, (∃ k, ok O p.1 = some k) ∧ (∃ d, ρ[p.1]? = some (some d)) ∧ σ[p.1]? = some (some (.ref p.2))
  len : ρ.length = σ.length

def Ext (F G G' : Hp) : Prop := (∀ a o, G a = some o → G' a = some o) ∧ ∀ a, F a ≠ none → G a = none → G' a = none
omit [PgW] in
theorem Ext.refl (F G : Hp) : Ext F G G := ⟨fun _ _ h => h, fun _ _ h => h⟩
omit [PgW] in
theorem Ext.trans {F G G' G'' : Hp} (a : Ext F G G') (b : Ext F G' G'') : Ext F G G'' := ⟨fun x o h => b.1 x o (a.1 x o h), fun x h n => b.2 x h (a.2 x h n)⟩

section
variable {K : PySem.W.Frag} {F H H' G G' : Hp} {fx : List (Nat × Addr)} {O : Own} {σ : L2.St} {ρ : Rho}
/-- all stays, some is new -/
theorem Rel.next (r : Rel K F fx O σ H ρ G) (hf : ∀ a o, F a = some o → H' a = some o) (hg : ∀ a o, G a = some o → G' a = some o) (hgr : ∀ a o, G' a = some o → H' a = some o)
    (ho : ∀ i d k a, ρ[i]? = some (some d) → ok O i = some k → σ[i]? = some (some (.ref a)) → H' a = H a ∧ G' a = none) : Rel K F fx O σ H' ρ G' where
  fr := hf
  gr := hgr
  sh := fun i d e n => by
    obtain ⟨v, q, p⟩ := r.sh i d e n
    exact ⟨v, q, dp_mono hg p⟩
  ow := fun i d k e n => by
    obtain ⟨a, q, p, f, g⟩ := r.ow i d k e n
    obtain ⟨h1, h2⟩ := ho i d k a e n q
    exact ⟨a, q, p.mono hg h1, f, h2⟩
  dj := r.dj
  fx := r.fx
  len := r.len
theorem Rel.own_ne (r : Rel K F fx O σ H ρ G) {p : Addr} (hp : H p = none) {i : Nat} {d : D} {k : OKd} {a : Addr} (e : ρ[i]? = some (some d)) (n : ok O i = some k) (q : σ[i]? = some (some (.ref a))) : a ≠ p := by
  obtain ⟨b, q', w, _, _⟩ := r.ow i d k e n
  rw [q] at q'
  injection q' with q1
  injection q1 with q2
  injection q2 with q3
  subst q3
  obtain ⟨o, ho⟩ := w.there
  intro z
  rw [z, hp] at ho
  cases ho
/-- a new object, leaned on from now on -/
theorem Rel.alloc (r : Rel K F fx O σ H ρ G) {p : Addr} {o : HO} (hp : H p = none) : Rel K F fx O σ (upd H p o) ρ (upd G p o) ∧ Ext F G (upd G p o) := by
  have hF : F p = none := by
    cases e : F p with
    | none => rfl
    | some u => rw [r.fr p u e] at hp; cases hp
  have hG : G p = none := by
    cases e : G p with
    | none => rfl
    | some u => rw [r.gr p u e] at hp; cases hp
  refine ⟨r.next (fun a u e => ?_) (fun a u e => ?_) (fun a u e => ?_) (fun i d k a e n q => ?_), fun a u e => ?_, fun a h n => ?_⟩
  · rw [upd_ne (ne_of_none e hF)]; exact r.fr a u e
  · rw [upd_ne (ne_of_none e hG)]; exact e
  · by_cases h : a = p
    · subst h; rw [upd_same] at e ⊢; exact e
    · rw [upd_ne h] at e ⊢; exact r.gr a u e
  · have ne := r.own_ne hp e n q
    obtain ⟨b, q', w, f, g⟩ := r.ow i d k e n
    rw [q] at q'
    injection q' with q1
    injection q1 with q2
    injection q2 with q3
    subst q3
    exact ⟨upd_ne ne, by rw [upd_ne ne]; exact g⟩
  · rw [upd_ne (ne_of_none e hG)]; exact e
  · have ne : a ≠ p := by
      intro z
      subst z
      exact h hF
    rw [upd_ne ne]; exact n
/-- a new object, owned by nobody yet (put aside) -/
theorem Rel.side (r : Rel K F fx O σ H ρ G) {p : Addr} {o : HO} (hp : H p = none) : Rel K F fx O σ (upd H p o) ρ G := by
  have hF : F p = none := by
    cases e : F p with
    | none => rfl
    | some u => rw [r.fr p u e] at hp; cases hp
  have hG : G p = none := by
    cases e : G p with
    | none => rfl
    | some u => rw [r.gr p u e] at hp; cases hp
  refine r.next (fun a u e => ?_) (fun a u e => e) (fun a u e => ?_) (fun i d k a e n q => ?_)
  · rw [upd_ne (ne_of_none e hF)]; exact r.fr a u e
  · rw [upd_ne (ne_of_none e hG)]; exact r.gr a u e
  · have ne := r.own_ne hp e n q
    obtain ⟨b, q', w, f, g⟩ := r.ow i d k e n
    rw [q] at q'
    injection q' with q1
    injection q1 with q2
    injection q2 with q3
    subst q3
    exact ⟨upd_ne ne, g⟩
/-- a slot gets a tree -/
theorem Rel.set (r : Rel K F fx O σ H ρ G) {i : Nat} {v : V} {d : D} (hi : ok O i = none) (h : Dp K G v d) : Rel K F fx O (σ.set i (some v)) H (ρ.set i (some d)) G where
  fr := r.fr
  gr := r.gr
  sh := fun j e q n => by
    by_cases z : i = j
    · subst z
      have hl : i < ρ.length := by
        have := (List.getElem?_eq_some_iff.mp q).1
        simpa using this
      rw [List.getElem?_set_self hl] at q
      cases q
      exact ⟨v, by rw [List.getElem?_set_self (by rw [← r.len]; exact hl)], h⟩
    · rw [List.getElem?_set_ne z] at q ⊢
      exact r.sh j e q n
  ow := fun j e k q n => by
    have z : i ≠ j := fun z => by rw [z, n] at hi; cases hi
    rw [List.getElem?_set_ne z] at q ⊢
    exact r.ow j e k q n
  dj := fun j j' e e' k k' a q q' n n' s s' => by
    have z : i ≠ j := fun z => by rw [z, n] at hi; cases hi
    have z' : i ≠ j' := fun z => by rw [z, n'] at hi; cases hi
    rw [List.getElem?_set_ne z] at q s
    rw [List.getElem?_set_ne z'] at q' s'
    exact r.dj j j' e e' k k' a q q' n n' s s'
  fx := fun p hp => by
    obtain ⟨⟨k, e⟩, ⟨d', q'⟩, q⟩ := r.fx p hp
    have z : i ≠ p.1 := fun z => by rw [z, e] at hi; cases hi
    exact ⟨⟨k, e⟩, ⟨d', by rw [List.getElem?_set_ne z]; exact q'⟩, by rw [List.getElem?_set_ne z]; exact q⟩
  len := by rw [List.length_set, List.length_set]; exact r.len
omit [PgW] in
theorem ok_set {O : Own} {i j : Nat} {k : Option OKd} (hi : i < O.length) : ok (O.set i k) j = if i = j then k else ok O j := by
  unfold ok
  by_cases z : i = j
  · subst z; rw [List.getElem?_set_self hi, if_pos rfl] <;> rfl
  · rw [List.getElem?_set_ne z, if_neg z]
/-- a slot (no parameter that owns) becomes the owner of an object that nobody owns -/
theorem Rel.setOwn (r : Rel K F fx O σ H ρ G) {i : Nat} {a : Addr} {k : OKd} {d : D} (hO : i < O.length) (hfx : ∀ p ∈ fx, p.1 ≠ i) (w : OwnAt K H G k a d) (hF : F a = none) (hG : G a = none)
    (hn : ∀ j e l, j ≠ i → ρ[j]? = some (some e) → ok O j = some l → σ[j]? ≠ some (some (.ref a))) : Rel K F fx (O.set i (some k)) (σ.set i (some (.ref a))) H (ρ.set i (some d)) G where
  fr := r.fr
  gr := r.gr
  sh := fun j e q n => by
    rw [ok_set hO] at n
    by_cases z : i = j
    · rw [if_pos z] at n; cases n
    · rw [if_neg z] at n
      rw [List.getElem?_set_ne z] at q ⊢
      exact r.sh j e q n
  ow := fun j e l q n => by
    rw [ok_set hO] at n
    by_cases z : i = j
    · subst z
      rw [if_pos rfl] at n
      cases n
      have hl : i < ρ.length := by
        have := (List.getElem?_eq_some_iff.mp q).1
        simpa using this
      rw [List.getElem?_set_self hl] at q
      cases q
      exact ⟨a, by rw [List.getElem?_set_self (by rw [← r.len]; exact hl)], w, hF, hG⟩
    · rw [if_neg z] at n
      rw [List.getElem?_set_ne z] at q ⊢
      exact r.ow j e l q n
  dj := fun j j' e e' l l' b q q' n n' s s' => by
    rw [ok_set hO] at n n'
    by_cases z : i = j
    · subst z
      by_cases z' : i = j'
      · exact z'
      · rw [if_neg z'] at n'
        rw [List.getElem?_set_ne z'] at q' s'
        have hl : i < σ.length := by
          have := (List.getElem?_eq_some_iff.mp s).1
          simpa using this
        rw [List.getElem?_set_self hl] at s
        cases s
        exact absurd s' (hn j' e' l' (fun x => z' x.symm) q' n')
    · rw [if_neg z] at n
      rw [List.getElem?_set_ne z] at q s
      by_cases z' : i = j'
      · subst z'
        have hl : i < σ.length := by
          have := (List.getElem?_eq_some_iff.mp s').1
          simpa using this
        rw [List.getElem?_set_self hl] at s'
        cases s'
        exact absurd s (hn j e l (fun x => z x.symm) q n)
      · rw [if_neg z'] at n'
        rw [List.getElem?_set_ne z'] at q' s'
        exact r.dj j j' e e' l l' b q q' n n' s s'
  fx := fun p hp => by
    obtain ⟨⟨l, e⟩, ⟨d', q'⟩, q⟩ := r.fx p hp
    have z : i ≠ p.1 := fun z => hfx p hp z.symm
    exact ⟨⟨l, by rw [ok_set hO, if_neg z]; exact e⟩, ⟨d', by rw [List.getElem?_set_ne z]; exact q'⟩, by rw [List.getElem?_set_ne z]; exact q⟩
  len := by rw [List.length_set, List.length_set]; exact r.len
/-- a list, a dict may be given away -/
def OKd.keep : OKd → Bool
  | .lst => true
  | .dct => true
  | .ins _ => false
theorem OwnAt.tree {K : PySem.W.Frag} {H G : Hp} {k : OKd} {a : Addr} {d : D} (r : OwnAt K H G k a d) (hk : k.keep = true) : ∃ o, H a = some o ∧ ∀ G', (∀ b u, G b = some u → G' b = some u) → G' a = some o → Dp K G' (.ref a) d := by
  cases k with
  | lst =>
    obtain ⟨xs, ds, rfl, q, s⟩ := r
    exact ⟨_, q, fun G' up e => .lst (SqL.of e) (dpAll_mono up s)⟩
  | dct =>
    obtain ⟨xs, kvs, rfl, q, s⟩ := r
    exact ⟨_, q, fun G' up e => .dct e (dpKv_mono up s)⟩
  | ins C => cases hk
/-- a slot's object (a list, a dict) is given away: from now on it is leaned on -/
theorem Rel.freeze (r : Rel K F fx O σ H ρ G) {i : Nat} (hO : i < O.length) (hfx : ∀ p ∈ fx, p.1 ≠ i) (hk : ∀ k, ok O i = some k → k.keep = true) : ∃ G', Rel K F fx (O.set i none) σ H ρ G' ∧ Ext F G G' := by
  by_cases hs : ∃ d k, ρ[i]? = some (some d) ∧ ok O i = some k
  · obtain ⟨d, k, e, n⟩ := hs
    obtain ⟨a, q, own, f, g⟩ := r.ow i d k e n
    obtain ⟨ob, hH, tree⟩ := own.tree (hk k n)
    have up : ∀ b o, G b = some o → upd G a ob b = some o := fun b o h => by rw [upd_ne (ne_of_none h g)]; exact h
    refine ⟨upd G a ob, ⟨r.fr, fun b o h => ?_, fun j e' q' n' => ?_, fun j e' k' q' n' => ?_, fun j j' e1 e2 k1 k2 b q1 q2 n1 n2 s1 s2 => ?_, fun p hp => ?_, r.len⟩, up, fun b h n => ?_⟩
    · by_cases z : b = a
      · subst z; rw [upd_same] at h; cases h; exact hH
      · rw [upd_ne z] at h; exact r.gr b o h
    · rw [ok_set hO] at n'
      by_cases z : i = j
      · subst z
        rw [e] at q'; cases q'
        exact ⟨.ref a, q, tree _ up upd_same⟩
      · rw [if_neg z] at n'
        obtain ⟨v, h1, h2⟩ := r.sh j e' q' n'
        exact ⟨v, h1, dp_mono up h2⟩
    · rw [ok_set hO] at n'
      by_cases z : i = j
      · rw [if_pos z] at n'; cases n'
      · rw [if_neg z] at n'
        obtain ⟨b, h1, h2, h3, h4⟩ := r.ow j e' k' q' n'
        have ne : b ≠ a := fun x => by subst x; exact z (r.dj i j _ _ _ _ b e q' n n' q h1)
        exact ⟨b, h1, h2.mono up rfl, h3, by rw [upd_ne ne]; exact h4⟩
    · rw [ok_set hO] at n1 n2
      by_cases z : i = j
      · rw [if_pos z] at n1; cases n1
      · by_cases z' : i = j'
        · rw [if_pos z'] at n2; cases n2
        · rw [if_neg z] at n1
          rw [if_neg z'] at n2
          exact r.dj j j' e1 e2 k1 k2 b q1 q2 n1 n2 s1 s2
    · obtain ⟨⟨l, e2⟩, q2⟩ := r.fx p hp
      have z : i ≠ p.1 := fun z => hfx p hp z.symm
      exact ⟨⟨l, by rw [ok_set hO, if_neg z]; exact e2⟩, q2⟩
    · have ne : b ≠ a := fun x => by subst x; exact h f
      rw [upd_ne ne]; exact n
  · refine ⟨G, ⟨r.fr, r.gr, fun j e' q' n' => ?_, fun j e' k' q' n' => ?_, fun j j' e1 e2 k1 k2 b q1 q2 n1 n2 s1 s2 => ?_, fun p hp => ?_, r.len⟩, Ext.refl _ _⟩
    · rw [ok_set hO] at n'
      by_cases z : i = j
      · subst z
        cases c : ok O i with
        | none => exact r.sh i e' q' c
        | some k => exact absurd ⟨e', k, q', c⟩ hs
      · rw [if_neg z] at n'
        exact r.sh j e' q' n'
    · rw [ok_set hO] at n'
      by_cases z : i = j
      · rw [if_pos z] at n'; cases n'
      · rw [if_neg z] at n'
        exact r.ow j e' k' q' n'
    · rw [ok_set hO] at n1 n2
      by_cases z : i = j
      · rw [if_pos z] at n1; cases n1
      · by_cases z' : i = j'
        · rw [if_pos z'] at n2; cases n2
        · rw [if_neg z] at n1
          rw [if_neg z'] at n2
          exact r.dj j j' e1 e2 k1 k2 b q1 q2 n1 n2 s1 s2
    · obtain ⟨⟨l, e2⟩, q2⟩ := r.fx p hp
      have z : i ≠ p.1 := fun z => hfx p hp z.symm
      exact ⟨⟨l, by rw [ok_set hO, if_neg z]; exact e2⟩, q2⟩
/-- an owned object is changed -/
theorem Rel.mutate (r : Rel K F fx O σ H ρ G) {i : Nat} {d d' : D} {k : OKd} {a : Addr} {o : HO} (e : ρ[i]? = some (some d)) (n : ok O i = some k) (q : σ[i]? = some (some (.ref a))) (w : OwnAt K (upd H a o) G k a d') :
    Rel K F fx O σ (upd H a o) (ρ.set i (some d')) G := by
  obtain ⟨b, q', w0, f, g⟩ := r.ow i d k e n
  rw [q] at q'
  injection q' with q1
  injection q1 with q2
  injection q2 with q3
  subst q3
  have hl : i < ρ.length := (List.getElem?_eq_some_iff.mp e).1
  have back : ∀ j e', (ρ.set i (some d'))[j]? = some (some e') → ∃ e'', ρ[j]? = some (some e'') := fun j e' h => by
    by_cases z : i = j
    · subst z; exact ⟨d, e⟩
    · rw [List.getElem?_set_ne z] at h; exact ⟨e', h⟩
  refine ⟨fun b u h => ?_, fun b u h => ?_, fun j e' h n' => ?_, fun j e' k' h n' => ?_, fun j j' e1 e2 k1 k2 b h1 h2 n1 n2 s1 s2 => ?_, fun p hp => ?_, ?_⟩
  · rw [upd_ne (ne_of_none h f)]; exact r.fr b u h
  · rw [upd_ne (ne_of_none h g)]; exact r.gr b u h
  · have z : i ≠ j := fun z => by rw [← z, n] at n'; cases n'
    rw [List.getElem?_set_ne z] at h
    exact r.sh j e' h n'
  · by_cases z : i = j
    · subst z
      rw [List.getElem?_set_self hl] at h
      cases h
      rw [n] at n'
      cases n'
      exact ⟨a, q, w, f, g⟩
    · rw [List.getElem?_set_ne z] at h
      obtain ⟨b, h1, h2, h3, h4⟩ := r.ow j e' k' h n'
      have ne : b ≠ a := fun x => by subst x; exact z (r.dj i j _ _ _ _ b e h n n' q h1)
      exact ⟨b, h1, h2.mono (fun _ _ x => x) (upd_ne ne), h3, h4⟩
  · obtain ⟨f1, g1⟩ := back j e1 h1
    obtain ⟨f2, g2⟩ := back j' e2 h2
    exact r.dj j j' f1 f2 k1 k2 b g1 g2 n1 n2 s1 s2
  · obtain ⟨h1, ⟨d'', h2⟩, h3⟩ := r.fx p hp
    refine ⟨h1, ?_, h3⟩
    by_cases z : i = p.1
    · exact ⟨d', by rw [← z, List.getElem?_set_self hl]⟩
    · exact ⟨d'', by rw [List.getElem?_set_ne z]; exact h2⟩
  · rw [List.length_set]; exact r.len
/-- a smaller frame -/
theorem Rel.frame (r : Rel K F fx O σ H ρ G) {F' : Hp} (h : ∀ a o, F' a = some o → F a = some o) : Rel K F' fx O σ H ρ G :=
  ⟨fun a o e => r.fr a o (h a o e), r.gr, r.sh, (fun i d k e n => by
    obtain ⟨a, q, w, f, g⟩ := r.ow i d k e n
    refine ⟨a, q, w, ?_, g⟩
    cases c : F' a with
    | none => rfl
    | some u =>
      rw [h a u c] at f
      cases f), r.dj, r.fx, r.len⟩
end
end Z

/-! file ZExpr -/
set_option Elab.async false
set_option linter.all false
set_option autoImplicit false
set_option maxRecDepth 100000
set_option maxHeartbeats 4000000
/-! what an expression's tree is -/
namespace Z
open PySem PySem.Spec PyProof.Rows L2
variable [PgW]
section
variable {X : Cx} {pins : List (Addr × Obj)} {σ : L2.St} {H : Hp} {s : Shared}
mutual
theorem Dp.reads (I : Inv X pins σ H s) : ∀ {v : V} {d : D}, Dp X.K H v d → ∀ u, RelV v u → ∃ as, Reads s.heap u d as
  | _, _, .non, _, r => by
    cases r
    exact ⟨_, Reads.none⟩
  | _, _, .bl b, _, r => by
    cases r
    exact ⟨_, Reads.bool b⟩
  | _, _, .int i, _, r => by
    obtain ⟨t, rfl⟩ := r
    exact ⟨_, Reads.int i t⟩
  | _, _, .str x, _, r => by
    obtain ⟨t, rfl⟩ := r
    exact ⟨_, Reads.str x t⟩
  | _, _, .lst hs ha, _, r => by
    cases r
    obtain ⟨its, rv, ⟨o, n, ho, hc, _, hd⟩, _⟩ := I.list hs
    obtain ⟨as, hr⟩ := Dp.readsAll I ha its rv
    exact ⟨_, Reads.list ho hc hd hr⟩
  | _, _, .tup hs ha, _, r => by
    cases r
    obtain ⟨its, rv, ⟨o, ho, hc, n, hd⟩, _⟩ := I.tuple hs
    obtain ⟨as, hr⟩ := Dp.readsAll I ha its rv
    exact ⟨_, Reads.tuple ho hc hd hr⟩
  | _, _, .dct q hk, _, r => by
    cases r
    obtain ⟨⟨_, _, o, es, ep, ho, hc, hd, he, _⟩, _⟩ := I.hok _ _ q
    obtain ⟨as, bs, h1, h2⟩ := Dp.readsKv I hk
    refine ⟨_, Reads.dict ho hc.1 hd (as := as) (bs := bs) ?_ ?_⟩
    · rw [he, List.map_map]; exact h1
    · rw [he, List.map_map]; exact h2
theorem Dp.readsAll (I : Inv X pins σ H s) : ∀ {vs : List V} {ds : List D}, DpAll X.K H vs ds → ∀ us, Vals vs us → ∃ as, ReadsAll s.heap us ds as
  | _, _, .nil, _, r => by
    cases r
    exact ⟨_, ReadsAll.nil⟩
  | _, _, .cons h1 h2, _, r => by
    cases r with
    | cons r1 r2 =>
      obtain ⟨as, q1⟩ := Dp.reads I h1 _ r1
      obtain ⟨bs, q2⟩ := Dp.readsAll I h2 _ r2
      exact ⟨_, ReadsAll.cons q1 q2⟩
theorem Dp.readsKv (I : Inv X pins σ H s) : ∀ {xs : List (NestedKey × Addr × Value)} {kvs : List (D × D)}, DpKv X.K H xs kvs → ∃ as bs, ReadsAll s.heap (xs.map fun x => Value.ref x.2.1) (kvs.map (·.1)) as ∧ ReadsAll s.heap (xs.map (·.2.2)) (kvs.map (·.2)) bs
  | _, _, .nil => ⟨_, _, ReadsAll.nil, ReadsAll.nil⟩
  | _, _, .cons e l k r v t => by
    obtain ⟨as, q1⟩ := Dp.reads I k _ rfl
    obtain ⟨bs, q2⟩ := Dp.reads I v _ r
    obtain ⟨cs, ds, q3, q4⟩ := Dp.readsKv I t
    exact ⟨_, _, ReadsAll.cons q1 q3, ReadsAll.cons q2 q4⟩
end
end

/-- an end: a value, an exception (its class's name, its attributes), or nothing that is promised -/
inductive Out (r α : Type) where
  | ok (a : α) (s : r)
  | exc (c : Str) (fs : List (Str × D)) (s : r)
  | bad
def Out.bind {r α β : Type} (o : Out r α) (k : α → r → Out r β) : Out r β := match o with
  | .ok a s => k a s
  | .exc c fs s => .exc c fs s
  | .bad => .bad
omit [PgW] in
@[simp] theorem bind_ok {r α β : Type} (a : α) (s : r) (k : α → r → Out r β) : (Out.ok a s).bind k = k a s := rfl
omit [PgW] in
@[simp] theorem bind_exc {r α β : Type} (c : Str) (fs : List (Str × D)) (s : r) (k : α → r → Out r β) : (Out.exc c fs s).bind k = .exc c fs s := rfl
omit [PgW] in
@[simp] theorem bind_bad {r α β : Type} (k : α → r → Out r β) : (Out.bad : Out r α).bind k = .bad := rfl
def Out.of {r α : Type} (o : Option α) (s : r) : Out r α := match o with
  | some a => .ok a s
  | none => .bad
omit [PgW] in
@[simp] theorem of_some {r α : Type} (a : α) (s : r) : Out.of (some a) s = .ok a s := rfl
omit [PgW] in
@[simp] theorem of_none {r α : Type} (s : r) : Out.of (none : Option α) s = .bad := rfl

/-- what a body is about: who owns (parameters), what an exception is to reach -/
structure Pm where
  fx : List (Nat × Addr)
  W : WX
/-- an exception as it flies -/
def ExcR (K : PySem.W.Frag) (mg : Str → Option Value) (G : Hp) (c : Str) (fs : List (Str × D)) (cls : Value) (de : Option Addr) : Prop :=
  ∃ C, mg c = some (.ref C) ∧ cls = .ref C ∧ (fs ≠ [] → ∃ dd vs, de = some dd ∧ G dd = some (.xd vs) ∧ Paired (fun (p : Str × V) (q : Str × D) => p.1 = q.1 ∧ Dp K G p.2 q.2) vs fs)

/-- how a value is told by a tree: frame, slots, trees of the slots, heap, ground -/
abbrev RR (β α : Type) := Hp → L2.St → Rho → Hp → Hp → β → α → Prop
/-- what is wanted behind an end: R relates the value to the tree -/
def Fin {α β : Type} (K : PySem.W.Frag) (mg : Str → Option Value) (P : Pm) (O : Own) (σ : L2.St) (F : Hp) (R : RR β α) (G : Hp) (o : Out Rho α) (Q : β → Hp → Prop) : Prop := match o with
  | .ok a ρ' => ∀ v H' G', Rel K F P.fx O σ H' ρ' G' → Ext F G G' → R F σ ρ' H' G' v a → Q v H'
  | .exc c fs ρ' => ∀ cls de H' G', Rel K F P.fx O σ H' ρ' G' → Ext F G G' → ExcR K mg G' c fs cls de → P.W cls de σ H'
  | .bad => False
def tX {α β : Type} (X : Cx) (P : Pm) (O : Own) (R : RR β α) (T : Rho → Out Rho α) : L2.St → Hp → (β → Hp → Prop) → Prop := fun σ H Q =>
  ∃ ρ G F, Rel X.K F P.fx O σ H ρ G ∧ Fin X.K X.mg P O σ F R G (T ρ) Q
abbrev rE (K : PySem.W.Frag) : RR V D := fun _ _ _ _ G v d => Dp K G v d
abbrev rA (K : PySem.W.Frag) : RR (List V) (List D) := fun _ _ _ _ G vs ds => DpAll K G vs ds
abbrev rT : RR Bool Bool := fun _ _ _ _ _ a b => a = b
/-- an expression, a test, a list of arguments -/
def EX (X : Cx) (P : Pm) (O : Own) (e : Expr) (T : Rho → Out Rho D) : Prop := PE X e (tX X P O (rE X.K) T)
def TX (X : Cx) (P : Pm) (O : Own) (e : Expr) (T : Rho → Out Rho Bool) : Prop := PT X e (tX X P O rT T)
def AX (X : Cx) (P : Pm) (O : Own) (es : List Expr) (T : Rho → Out Rho (List D)) : Prop := PA X es (tX X P O (rA X.K) T)

section
variable {α β γ δ : Type} {K : PySem.W.Frag} {mg : Str → Option Value} {P : Pm} {O : Own} {σ : L2.St} {F : Hp} {R : RR β α} {S : RR δ γ} {G G' : Hp} {o : Out Rho α}
theorem Fin.ext {Q : β → Hp → Prop} (e : Ext F G G') (h : Fin K mg P O σ F R G o Q) : Fin K mg P O σ F R G' o Q := by
  cases o with
  | ok a ρ' => exact fun v H' G2 r e2 d => h v H' G2 r (e.trans e2) d
  | exc c fs ρ' => exact fun cls de H' G2 r e2 d => h cls de H' G2 r (e.trans e2) d
  | bad => exact h
theorem Fin.imp {Q Q' : β → Hp → Prop} (h : Fin K mg P O σ F R G o Q) (hq : ∀ v H', Q v H' → Q' v H') : Fin K mg P O σ F R G o Q' := by
  cases o with
  | ok a ρ' => exact fun v H' G2 r e2 d => hq _ _ (h v H' G2 r e2 d)
  | exc c fs ρ' => exact h
  | bad => exact h
/-- step by step -/
theorem Fin.bind {Q : δ → Hp → Prop} {k : α → Rho → Out Rho γ} (h : Fin K mg P O σ F S G (o.bind k) Q) :
    Fin K mg P O σ F R G o (fun v H' => ∃ a ρ' G', Rel K F P.fx O σ H' ρ' G' ∧ Ext F G G' ∧ R F σ ρ' H' G' v a ∧ o = .ok a ρ' ∧ Fin K mg P O σ F S G' (k a ρ') Q) := by
  cases o with
  | ok a ρ' => exact fun v H' G2 r e2 d => ⟨a, ρ', G2, r, e2, d, rfl, Fin.ext e2 h⟩
  | exc c fs ρ' => exact h
  | bad => exact h
end

section
variable {X : Cx} {P : Pm} {O : Own}
omit [PgW] in
theorem pe_mono {e : Expr} {t t' : TE} (h : PE X e t) (m : ∀ σ H Q, t' σ H Q → t σ H Q) : PE X e t' := ⟨fun pins s σ H Q I q => h.run pins s σ H Q I (m σ H Q q)⟩
omit [PgW] in
theorem pt_mono {e : Expr} {t t' : TT} (h : PT X e t) (m : ∀ σ H Q, t' σ H Q → t σ H Q) : PT X e t' := ⟨fun pins s σ H Q I q => h.run pins s σ H Q I (m σ H Q q)⟩
omit [PgW] in
theorem pa_mono {e : List Expr} {t t' : TA} (h : PA X e t) (m : ∀ σ H Q, t' σ H Q → t σ H Q) : PA X e t' := ⟨fun pos pins s σ H Q I q => h.run pos pins s σ H Q I (m σ H Q q)⟩

/-- the step of a reading: first the part, then the rest -/
theorem tX_bind {α β γ δ : Type} {R : RR β α} {S : RR δ γ} {T : Rho → Out Rho α} {k : α → Rho → Out Rho γ} {σ : L2.St} {H : Hp} {Q : δ → Hp → Prop} {Q' : β → Hp → Prop}
    (h : tX X P O S (fun ρ => (T ρ).bind k) σ H Q)
    (c : ∀ v H' a ρ' G' F, Rel X.K F P.fx O σ H' ρ' G' → R F σ ρ' H' G' v a → Fin X.K X.mg P O σ F S G' (k a ρ') Q → Q' v H') : tX X P O R T σ H Q' := by
  obtain ⟨ρ, G, F, r, h⟩ := h
  refine ⟨ρ, G, F, r, ?_⟩
  refine Fin.imp (Fin.bind (R := R) h) fun v H' ⟨a, ρ', G', r', e, d, _, f⟩ => c v H' a ρ' G' F r' d f
/-- .. told with what came -/
theorem tX_of {α β : Type} {R : RR β α} {T : Rho → Out Rho α} {σ : L2.St} {H : Hp} {Q : β → Hp → Prop} {ρ : Rho} {G F : Hp} (r : Rel X.K F P.fx O σ H ρ G) (f : Fin X.K X.mg P O σ F R G (T ρ) Q) : tX X P O R T σ H Q := ⟨ρ, G, F, r, f⟩
theorem tX_bind' {α β γ δ : Type} {R : RR β α} {S : RR δ γ} {T : Rho → Out Rho α} {k : α → Rho → Out Rho γ} {σ : L2.St} {H : Hp} {Q : δ → Hp → Prop} {Q' : β → Hp → Prop} {ρ : Rho} {G F : Hp}
    (r : Rel X.K F P.fx O σ H ρ G) (h : Fin X.K X.mg P O σ F S G ((T ρ).bind k) Q)
    (c : ∀ v H' a ρ' G', Rel X.K F P.fx O σ H' ρ' G' → Ext F G G' → R F σ ρ' H' G' v a → Fin X.K X.mg P O σ F S G' (k a ρ') Q → Q' v H') : tX X P O R T σ H Q' := by
  refine ⟨ρ, G, F, r, ?_⟩
  refine Fin.imp (Fin.bind (R := R) h) fun v H' ⟨a, ρ', G', r', e, d, _, f⟩ => c v H' a ρ' G' r' e d f

/-! ### names and constants -/
def varT (i : Nat) : Rho → Out Rho D := fun ρ => match ρ[i]? with
  | some (some d) => .ok d ρ
  | _ => .bad
def cT (d : D) : Rho → Out Rho D := fun ρ => .ok d ρ
def badT {α : Type} : Rho → Out Rho α := fun _ => .bad
theorem ex_bad {e : Expr} : EX X P O e badT := ⟨fun _ _ _ _ _ _ ⟨_, _, _, _, f⟩ => f.elim⟩
theorem tx_bad {e : Expr} : TX X P O e badT := ⟨fun _ _ _ _ _ _ ⟨_, _, _, _, f⟩ => f.elim⟩
theorem ex_var (i : Nat) {x : Str} {pos : Pos} (hO : ok O i = none := by rfl) (hN : X.N[i]? = some x := by rfl) (hv : Vis X.env.scope x := by first | exact Or.inl rfl | exact Or.inr (Or.inl rfl) | exact Or.inr (Or.inr rfl))
    (hd : (x == ("__debug__" : Str)) = false := by decide) (hcd : (x == ("__classdict__" : Str)) = false := by decide) : EX X P O (.Name x pos) (varT i) := by
  refine pe_mono (pe_var hN hv hd hcd) fun σ H Q ⟨ρ, G, F, r, f⟩ => ?_
  unfold varT at f
  cases e : ρ[i]? with
  | none => rw [e] at f; exact f.elim
  | some u =>
    cases u with
    | none => rw [e] at f; exact f.elim
    | some d =>
      rw [e] at f
      obtain ⟨v, q, p⟩ := r.sh i d e hO
      exact ⟨v, q, f v H G r (Ext.refl _ _) p⟩
theorem ex_c {e : Expr} {v : V} {d : D} (h : PE X e (tC v)) (hd : ∀ G, Dp X.K G v d) : EX X P O e (cT d) :=
  pe_mono h fun σ H Q ⟨ρ, G, F, r, f⟩ => f v H G r (Ext.refl _ _) (hd G)
theorem ex_int {i : Int} {j : Nat} {pos : Pos} : EX X P O (.Constant (.int i) j pos) (cT (.int i)) := ex_c pe_int fun _ => .int i
theorem ex_bl {b : Bool} {j : Nat} {pos : Pos} : EX X P O (.Constant (.bool b) j pos) (cT (.bool b)) := ex_c pe_bl fun _ => .bl b
theorem ex_non {j : Nat} {pos : Pos} : EX X P O (.Constant .none j pos) (cT .none) := ex_c pe_non fun _ => .non
theorem ex_str {x : Str} {j : Nat} {pos : Pos} : EX X P O (.Constant (.str x) j pos) (cT (.str x)) := ex_c pe_str fun _ => .str x
/-- a module's constant -/
def Kon (K : PySem.W.Frag) (mg : Str → Option Value) (x : Str) (d : D) : Prop := ∃ u v, mg x = some u ∧ RelV v u ∧ ∀ G, Dp K G v d
theorem ex_kon {x : Str} {d : D} {pos : Pos} (k : Kon X.K X.mg x d) (hg : Gl X x := by rfl) (hd : (x == ("__debug__" : Str)) = false := by decide) : EX X P O (.Name x pos) (cT d) := by
  obtain ⟨u, v, h1, h2, h3⟩ := k
  exact ex_c (pe_glob hg h1 h2 hd) h3

/-! ### operators -/
/-- a rule of the layer upon trees -/
def Sem2 (X : Cx) (r : R2) (g : D → D → Option D) : Prop := ∀ {P : Pm} {O : Own} {σ : L2.St} {H : Hp} {ρ : Rho} {G F : Hp} {x y : V} {d e f : D} {Q : VK}, Rel X.K F P.fx O σ H ρ G → Dp X.K G x d → Dp X.K G y e → g d e = some f →
  (∀ v H' G', Rel X.K F P.fx O σ H' ρ G' → Ext F G G' → Dp X.K G' v f → Q v H') → r x y H Q
def binT (g : D → D → Option D) (Ta Tb : Rho → Out Rho D) : Rho → Out Rho D := fun ρ => (Ta ρ).bind fun d ρ1 => (Tb ρ1).bind fun e ρ2 => .of (g d e) ρ2
theorem tx_bin {r : R2} {g : D → D → Option D} (hs : Sem2 X r g) {Ta Tb : Rho → Out Rho D} {σ : L2.St} {H : Hp} {Q : VK} (h : tX X P O (rE X.K) (binT g Ta Tb) σ H Q) : tOp r (tX X P O (rE X.K) Ta) (tX X P O (rE X.K) Tb) σ H Q := by
  obtain ⟨ρ, G, F, rr, h⟩ := h
  refine tX_bind' (R := rE X.K) rr h fun x H1 d ρ1 G1 r1 e1 p1 h1 => ?_
  refine tX_bind' (R := rE X.K) r1 h1 fun y H2 e ρ2 G2 r2 e2 p2 h2 => ?_
  cases z : g d e with
  | none => rw [z] at h2; exact h2.elim
  | some f =>
    rw [z] at h2
    exact hs r2 (dp_mono e2.1 p1) p2 z h2
theorem ex_op {op : Operator} {r : R2} {g : D → D → Option D} (ho : OpR X (binaryOp op) r) (hs : Sem2 X r g) {a b : Expr} {Ta Tb : Rho → Out Rho D} {pos : Pos} (ha : EX X P O a Ta) (hb : EX X P O b Tb) : EX X P O (.BinOp a op b pos) (binT g Ta Tb) :=
  pe_mono (pe_op ho ha hb) fun _ _ _ h => tx_bin hs h
theorem ex_cmp {op : CmpOp} {r : R2} {g : D → D → Option D} (ho : OpR X (compareOp op) r) (hs : Sem2 X r g) {a b : Expr} {Ta Tb : Rho → Out Rho D} {pos : Pos} (ha : EX X P O a Ta) (hb : EX X P O b Tb) (hm : behindInMarks op b = false) : EX X P O (.Compare a [op] [b] pos) (binT g Ta Tb) :=
  pe_mono (pe_cmpR ho ha hb hm) fun _ _ _ h => tx_bin hs h
def isB (T : Rho → Out Rho D) : Rho → Out Rho Bool := fun ρ => (T ρ).bind fun d ρ1 => match d with
  | .bool b => .ok b ρ1
  | _ => .bad
theorem tT_of {T : Rho → Out Rho D} {σ : L2.St} {H : Hp} {Q : Bool → Hp → Prop} (h : tX X P O rT (isB T) σ H Q) : tX X P O (rE X.K) T σ H (fun x H' => ∃ k, x = .bl k ∧ Q k H') := by
  obtain ⟨ρ, G, F, rr, h⟩ := h
  refine tX_bind' (R := rE X.K) rr h fun x H1 d ρ1 G1 r1 e1 p1 h1 => ?_
  cases d with
  | bool b =>
    cases p1
    exact ⟨b, rfl, h1 b H1 G1 r1 (Ext.refl _ _) rfl⟩
  | _ => exact h1.elim
theorem tx_cmp {op : CmpOp} {r : R2} {g : D → D → Option D} (ho : OpR X (compareOp op) r) (hs : Sem2 X r g) {a b : Expr} {Ta Tb : Rho → Out Rho D} {pos : Pos} (ha : EX X P O a Ta) (hb : EX X P O b Tb) (hm : behindInMarks op b = false) : TX X P O (.Compare a [op] [b] pos) (isB (binT g Ta Tb)) :=
  pt_mono (pt_cmpR ho ha hb hm) fun _ _ _ h => tx_bin hs (tT_of h)
/-- an expression whose value is a bool, as a test -/
theorem tx_val {e : Expr} {T : Rho → Out Rho D} (h : EX X P O e T) (he : ∀ whole, isTrue e X.env whole = (do let v ← whole; standAt e.pos; holding [v] (truthy v)) := by intro _; rfl) : TX X P O e (isB T) :=
  pt_mono (pt_val h he) fun _ _ _ h => tT_of h
def andT (Ta Tb : Rho → Out Rho Bool) : Rho → Out Rho Bool := fun ρ => (Ta ρ).bind fun c ρ1 => if c = true then Tb ρ1 else .ok false ρ1
def orT (Ta Tb : Rho → Out Rho Bool) : Rho → Out Rho Bool := fun ρ => (Ta ρ).bind fun c ρ1 => if c = true then .ok true ρ1 else Tb ρ1
def notT (Ta : Rho → Out Rho Bool) : Rho → Out Rho Bool := fun ρ => (Ta ρ).bind fun c ρ1 => .ok (!c) ρ1
def WXt (X : Cx) (P : Pm) (O : Own) (e : Expr) (T : Rho → Out Rho Bool) : Prop := PW X e (tX X P O rT T)
theorem tx_pw {e : Expr} {T : Rho → Out Rho Bool} (h : WXt X P O e T) : TX X P O e T := PW.pt h
omit [PgW] in
theorem pw_mono {e : Expr} {t t' : TT} (h : PW X e t) (m : ∀ σ H Q, t' σ H Q → t σ H Q) : PW X e t' := ⟨fun wh pins s σ H Q I q => h.run wh pins s σ H Q I (m σ H Q q)⟩
theorem wx_and1 {a : Expr} {T : Rho → Out Rho Bool} {pos : Pos} (h : TX X P O a T) : WXt X P O (.BoolOp .And [a] pos) T := pw_and1 h
theorem wx_or1 {a : Expr} {T : Rho → Out Rho Bool} {pos : Pos} (h : TX X P O a T) : WXt X P O (.BoolOp .Or [a] pos) T := pw_or1 h
theorem wx_and {a b : Expr} {rest : List Expr} {Ta Tb : Rho → Out Rho Bool} {pos : Pos} (ha : TX X P O a Ta) (hb : WXt X P O (.BoolOp .And (b :: rest) pos) Tb) : WXt X P O (.BoolOp .And (a :: b :: rest) pos) (andT Ta Tb) := by
  refine pw_mono (pw_and ha hb) fun σ H Q ⟨ρ, G, F, rr, h⟩ => ?_
  refine tX_bind' (R := rT) rr h fun c H1 d ρ1 G1 r1 e1 p1 h1 => ?_
  cases p1
  cases c with
  | true => exact ⟨ρ1, G1, F, r1, h1⟩
  | false => exact h1 false H1 G1 r1 (Ext.refl _ _) rfl
theorem wx_or {a b : Expr} {rest : List Expr} {Ta Tb : Rho → Out Rho Bool} {pos : Pos} (ha : TX X P O a Ta) (hb : WXt X P O (.BoolOp .Or (b :: rest) pos) Tb) : WXt X P O (.BoolOp .Or (a :: b :: rest) pos) (orT Ta Tb) := by
  refine pw_mono (pw_or ha hb) fun σ H Q ⟨ρ, G, F, rr, h⟩ => ?_
  refine tX_bind' (R := rT) rr h fun c H1 d ρ1 G1 r1 e1 p1 h1 => ?_
  cases p1
  cases c with
  | false => exact ⟨ρ1, G1, F, r1, h1⟩
  | true => exact h1 true H1 G1 r1 (Ext.refl _ _) rfl
theorem tx_not {a : Expr} {Ta : Rho → Out Rho Bool} {pos : Pos} (ha : TX X P O a Ta) : TX X P O (.UnaryOp .Not a pos) (notT Ta) := by
  refine pt_mono (pt_not ha) fun σ H Q ⟨ρ, G, F, rr, h⟩ => ?_
  refine tX_bind' (R := rT) rr h fun c H1 d ρ1 G1 r1 e1 p1 h1 => ?_
  cases p1
  exact h1 (!c) H1 G1 r1 (Ext.refl _ _) rfl
/-! as values: bools -/
def toD (T : Rho → Out Rho Bool) : Rho → Out Rho D := fun ρ => (T ρ).bind fun c ρ1 => .ok (.bool c) ρ1
def andV (Ta Tb : Rho → Out Rho D) : Rho → Out Rho D := fun ρ => (isB Ta ρ).bind fun c ρ1 => if c = true then Tb ρ1 else .ok (.bool false) ρ1
def orV (Ta Tb : Rho → Out Rho D) : Rho → Out Rho D := fun ρ => (isB Ta ρ).bind fun c ρ1 => if c = true then .ok (.bool true) ρ1 else Tb ρ1
def notV (Ta : Rho → Out Rho D) : Rho → Out Rho D := fun ρ => (isB Ta ρ).bind fun c ρ1 => .ok (.bool (!c)) ρ1
/-- the first part is a bool -/
theorem tX_isB {γ δ : Type} {S : RR δ γ} {T : Rho → Out Rho D} {k : Bool → Rho → Out Rho γ} {σ : L2.St} {H : Hp} {Q : δ → Hp → Prop} {Q' : VK} {ρ : Rho} {G F : Hp}
    (r : Rel X.K F P.fx O σ H ρ G) (h : Fin X.K X.mg P O σ F S G ((isB T ρ).bind k) Q)
    (c : ∀ b H' ρ' G', Rel X.K F P.fx O σ H' ρ' G' → Ext F G G' → Fin X.K X.mg P O σ F S G' (k b ρ') Q → Q' (.bl b) H') : tX X P O (rE X.K) T σ H Q' := by
  have e : (isB T ρ).bind k = (T ρ).bind fun d ρ1 => (match d with | .bool b => k b ρ1 | _ => .bad) := by
    unfold isB
    cases T ρ with
    | ok d ρ1 => cases d <;> rfl
    | exc => rfl
    | bad => rfl
  rw [e] at h
  refine tX_bind' (R := rE X.K) r h fun x H1 d ρ1 G1 r1 e1 p1 h1 => ?_
  cases d with
  | bool b =>
    cases p1
    exact c b H1 ρ1 G1 r1 e1 h1
  | _ => exact h1.elim
theorem ex_one {op : BoolOp} {a : Expr} {T : Rho → Out Rho D} {pos : Pos} (h : EX X P O a T) : EX X P O (.BoolOp op [a] pos) T := pe_one h
theorem ex_and {a b : Expr} {rest : List Expr} {Ta Tb : Rho → Out Rho D} {pos : Pos} (ha : EX X P O a Ta) (hb : EX X P O (.BoolOp .And (b :: rest) pos) Tb) : EX X P O (.BoolOp .And (a :: b :: rest) pos) (andV Ta Tb) := by
  refine pe_mono (pe_and ha hb) fun σ H Q ⟨ρ, G, F, rr, h⟩ => ?_
  refine tX_isB rr h fun c H1 ρ1 G1 r1 e1 h1 => ⟨c, rfl, ?_⟩
  cases c with
  | true => exact ⟨ρ1, G1, F, r1, h1⟩
  | false => exact h1 (.bl false) H1 G1 r1 (Ext.refl _ _) (.bl false)
theorem ex_or {a b : Expr} {rest : List Expr} {Ta Tb : Rho → Out Rho D} {pos : Pos} (ha : EX X P O a Ta) (hb : EX X P O (.BoolOp .Or (b :: rest) pos) Tb) : EX X P O (.BoolOp .Or (a :: b :: rest) pos) (orV Ta Tb) := by
  refine pe_mono (pe_or ha hb) fun σ H Q ⟨ρ, G, F, rr, h⟩ => ?_
  refine tX_isB rr h fun c H1 ρ1 G1 r1 e1 h1 => ⟨c, rfl, ?_⟩
  cases c with
  | false => exact ⟨ρ1, G1, F, r1, h1⟩
  | true => exact h1 (.bl true) H1 G1 r1 (Ext.refl _ _) (.bl true)
theorem ex_not {a : Expr} {Ta : Rho → Out Rho D} {pos : Pos} (ha : EX X P O a Ta) : EX X P O (.UnaryOp .Not a pos) (notV Ta) := by
  refine pe_mono (pe_not ha) fun σ H Q ⟨ρ, G, F, rr, h⟩ => ?_
  exact tX_isB rr h fun c H1 ρ1 G1 r1 e1 h1 => ⟨c, rfl, h1 (.bl (!c)) H1 G1 r1 (Ext.refl _ _) (.bl (!c))⟩
def ifT {α : Type} (Tc : Rho → Out Rho Bool) (Ta Tb : Rho → Out Rho α) : Rho → Out Rho α := fun ρ => (Tc ρ).bind fun c ρ1 => if c = true then Ta ρ1 else Tb ρ1
theorem ex_if {c a b : Expr} {Tc : Rho → Out Rho Bool} {Ta Tb : Rho → Out Rho D} {pos : Pos} (hc : TX X P O c Tc) (ha : EX X P O a Ta) (hb : EX X P O b Tb) : EX X P O (.IfExp c a b pos) (ifT Tc Ta Tb) := by
  refine pe_mono (pe_ifExp hc ha hb) fun σ H Q ⟨ρ, G, F, rr, h⟩ => ?_
  refine tX_bind' (R := rT) rr h fun c H1 d ρ1 G1 r1 e1 p1 h1 => ?_
  cases p1
  cases c with
  | true => exact ⟨ρ1, G1, F, r1, h1⟩
  | false => exact ⟨ρ1, G1, F, r1, h1⟩

/-! ### arguments and displays -/
def nilT : Rho → Out Rho (List D) := fun ρ => .ok [] ρ
def consT (Ta : Rho → Out Rho D) (Tb : Rho → Out Rho (List D)) : Rho → Out Rho (List D) := fun ρ => (Ta ρ).bind fun d ρ1 => (Tb ρ1).bind fun ds ρ2 => .ok (d :: ds) ρ2
/-- the items of a list or tuple -/
def itemsD : D → Option (List D)
  | .list ds => some ds
  | .tuple ds => some ds
  | _ => none
def starT (Ta : Rho → Out Rho D) (Tb : Rho → Out Rho (List D)) : Rho → Out Rho (List D) := fun ρ => (Ta ρ).bind fun d ρ1 => match itemsD d with
  | some es => (Tb ρ1).bind fun ds ρ2 => .ok (es ++ ds) ρ2
  | none => .bad
theorem ax_nil : AX X P O [] nilT := pa_mono pa_nil fun σ H Q ⟨ρ, G, F, r, h⟩ => h [] H G r (Ext.refl _ _) .nil
theorem ax_cons {e : Expr} {es : List Expr} {Ta : Rho → Out Rho D} {Tb : Rho → Out Rho (List D)} (ha : EX X P O e Ta) (hb : AX X P O es Tb) (hs : starEach (e :: es) X.env = (false, eval e X.env) :: starEach es X.env := by rfl) : AX X P O (e :: es) (consT Ta Tb) := by
  refine pa_mono (pa_cons ha hb hs) fun σ H Q ⟨ρ, G, F, rr, h⟩ => ?_
  refine tX_bind' (R := rE X.K) rr h fun x H1 d ρ1 G1 r1 e1 p1 h1 => ?_
  refine tX_bind' (R := rA X.K) r1 h1 fun xs H2 ds ρ2 G2 r2 e2 p2 h2 => ?_
  exact h2 (x :: xs) H2 G2 r2 (Ext.refl _ _) (.cons (dp_mono e2.1 p1) p2)
theorem dp_items {K : PySem.W.Frag} {G H : Hp} {v : V} {d : D} {ds : List D} (gr : ∀ a o, G a = some o → H a = some o) (h : Dp K G v d) (e : itemsD d = some ds) : ∃ p xs, v = .ref p ∧ (SqT K H p xs ∨ SqL K H p xs) ∧ DpAll K G xs ds := by
  cases h with
  | lst q r => cases e; exact ⟨_, _, rfl, .inr (sqL_mono gr q), r⟩
  | tup q r => cases e; exact ⟨_, _, rfl, .inl (sqT_mono gr q), r⟩
  | _ => cases e
theorem ax_star {e : Expr} {es : List Expr} {p : Pos} {Ta : Rho → Out Rho D} {Tb : Rho → Out Rho (List D)} (ha : EX X P O e Ta) (hb : AX X P O es Tb) (hs : starEach (.Starred e p :: es) X.env = (true, eval e X.env) :: starEach es X.env := by rfl) : AX X P O (.Starred e p :: es) (starT Ta Tb) := by
  refine pa_mono (StX.pa_star ha hb hs) fun σ H Q ⟨ρ, G, F, rr, h⟩ => ?_
  refine tX_bind' (R := rE X.K) rr h fun x H1 d ρ1 G1 r1 e1 p1 h1 => ?_
  cases z : itemsD d with
  | none => rw [z] at h1; exact h1.elim
  | some es' =>
    rw [z] at h1
    obtain ⟨q, xs, rfl, hx, hr⟩ := dp_items r1.gr p1 z
    refine ⟨q, xs, rfl, hx, ?_⟩
    refine tX_bind' (R := rA X.K) r1 h1 fun ys H2 ds ρ2 G2 r2 e2 p2 h2 => ?_
    exact h2 (xs ++ ys) H2 G2 r2 (Ext.refl _ _) ((dpAll_mono e2.1 hr).append p2)
end
end Z

/-! file ZExpr2 -/
set_option Elab.async false
set_option linter.all false
set_option autoImplicit false
set_option maxRecDepth 100000
set_option maxHeartbeats 4000000
/-! displays, operators, subscripts, built-ins upon trees -/
namespace Z
open PySem PySem.Spec PyProof.Rows L2
variable [PgW]

/-! ### fresh objects -/
/-- a new object that nobody owns, of a kind -/
def rF (K : PySem.W.Frag) (O : Own) (k : OKd) : RR V D := fun F σ ρ' H' G' v d => ∃ p, v = .ref p ∧ OwnAt K H' G' k p d ∧ F p = none ∧ G' p = none ∧ ∀ j e l, ρ'[j]? = some (some e) → ok O j = some l → σ[j]? ≠ some (some (.ref p))
def FX (X : Cx) (P : Pm) (O : Own) (k : OKd) (e : Expr) (T : Rho → Out Rho D) : Prop := PE X e (tX X P O (rF X.K O k) T)
section
variable {X : Cx} {P : Pm} {O : Own}
/-- a new list, dict is leaned on from now on -/
theorem rel_leave {K : PySem.W.Frag} {F : Hp} {fx : List (Nat × Addr)} {σ : L2.St} {H : Hp} {ρ : Rho} {G : Hp} {v : V} {d : D} {k : OKd} (r : Rel K F fx O σ H ρ G) (hk : k.keep = true) (f : rF K O k F σ ρ H G v d) : ∃ G', Rel K F fx O σ H ρ G' ∧ Ext F G G' ∧ Dp K G' v d := by
  obtain ⟨p, rfl, own, hF, hG, hn⟩ := f
  obtain ⟨ob, hH, tree⟩ := own.tree hk
  have up : ∀ b o, G b = some o → upd G p ob b = some o := fun b o h => by rw [upd_ne (ne_of_none h hG)]; exact h
  refine ⟨upd G p ob, r.next r.fr up (fun b o h => ?_) (fun i d k a e n q => ⟨rfl, ?_⟩), ⟨up, fun b h n => ?_⟩, tree _ up upd_same⟩
  · by_cases z : b = p
    · subst z; rw [upd_same] at h; cases h; exact hH
    · rw [upd_ne z] at h; exact r.gr b o h
  · have ne : a ≠ p := fun z => by subst z; exact hn i d k e n q
    obtain ⟨b, q', _, _, g⟩ := r.ow i d k e n
    rw [q] at q'
    injection q' with q1
    injection q1 with q2
    injection q2 with q3
    subst q3
    rw [upd_ne ne]; exact g
  · have ne : b ≠ p := fun z => by subst z; exact h hF
    rw [upd_ne ne]; exact n
theorem ex_of_fxK {e : Expr} {T : Rho → Out Rho D} {k : OKd} (hk : k.keep = true) (h : FX X P O k e T) : EX X P O e T := by
  refine pe_mono h fun σ H Q ⟨ρ, G, F, r, f⟩ => ⟨ρ, G, F, r, ?_⟩
  cases z : T ρ with
  | ok d ρ' =>
    rw [z] at f
    intro v H' G' r' e' hf
    obtain ⟨G2, r2, e2, hd⟩ := rel_leave r' hk hf
    exact f v H' G2 r2 (e'.trans e2) hd
  | exc c fs ρ' => rw [z] at f; exact f
  | bad => rw [z] at f; exact f
theorem ex_of_fx {e : Expr} {T : Rho → Out Rho D} (h : FX X P O .lst e T) : EX X P O e T := ex_of_fxK rfl h
theorem ex_of_fxD {e : Expr} {T : Rho → Out Rho D} (h : FX X P O .dct e T) : EX X P O e T := ex_of_fxK rfl h
/-- a new object at a free place is fresh -/
theorem fresh_at {K : PySem.W.Frag} {F : Hp} {fx : List (Nat × Addr)} {σ : L2.St} {H : Hp} {ρ : Rho} {G : Hp} {xs : List V} {ds : List D} {p : Addr} (r : Rel K F fx O σ H ρ G) (hp : H p = none) (hd : DpAll K G xs ds) :
    rF K O .lst F σ ρ (upd H p (.lst xs)) G (.ref p) (.list ds) := by
  refine ⟨p, rfl, ⟨xs, ds, rfl, upd_same, hd⟩, ?_, ?_, fun j e l q n z => ?_⟩
  · cases e : F p with
    | none => rfl
    | some u => rw [r.fr p u e] at hp; cases hp
  · cases e : G p with
    | none => rfl
    | some u => rw [r.gr p u e] at hp; cases hp
  · exact r.own_ne hp q n z rfl

/-! ### displays -/
def tupT (Ta : Rho → Out Rho (List D)) : Rho → Out Rho D := fun ρ => (Ta ρ).bind fun ds ρ1 => if ds.length ≤ sizeLine then .ok (.tuple ds) ρ1 else .bad
def lstT (Ta : Rho → Out Rho (List D)) : Rho → Out Rho D := fun ρ => (Ta ρ).bind fun ds ρ1 => if ds.length ≤ sizeLine then .ok (.list ds) ρ1 else .bad
theorem ex_tup {es : List Expr} {x1 : Nat} {T : Rho → Out Rho (List D)} {pos : Pos} (h : AX X P O es T) : EX X P O (.Tuple es x1 pos) (tupT T) := by
  refine pe_mono (pe_tup h) fun σ H Q ⟨ρ, G, F, rr, h⟩ => ?_
  refine tX_bind' (R := rA X.K) rr h fun xs H1 ds ρ1 G1 r1 e1 p1 h1 => ?_
  by_cases z : ds.length ≤ sizeLine
  · rw [if_pos z] at h1
    refine ⟨by rw [DpAll.len p1]; exact z, fun p hp => ?_⟩
    obtain ⟨r2, e2⟩ := r1.alloc (o := .tup xs) hp
    exact h1 _ _ _ r2 e2 (.tup (SqT.of upd_same) (dpAll_mono e2.1 p1))
  · rw [if_neg z] at h1; exact h1.elim
theorem fx_lst {es : List Expr} {T : Rho → Out Rho (List D)} {pos : Pos} (h : AX X P O es T) : FX X P O .lst (.List es pos) (lstT T) := by
  refine pe_mono (pe_lst h) fun σ H Q ⟨ρ, G, F, rr, h⟩ => ?_
  refine tX_bind' (R := rA X.K) rr h fun xs H1 ds ρ1 G1 r1 e1 p1 h1 => ?_
  by_cases z : ds.length ≤ sizeLine
  · rw [if_pos z] at h1
    refine ⟨by rw [DpAll.len p1]; exact z, fun p hp => ?_⟩
    exact h1 _ _ _ (r1.side hp) (Ext.refl _ _) (fresh_at r1 hp p1)
  · rw [if_neg z] at h1; exact h1.elim
theorem ex_lst {es : List Expr} {T : Rho → Out Rho (List D)} {pos : Pos} (h : AX X P O es T) : EX X P O (.List es pos) (lstT T) := ex_of_fx (fx_lst h)

/-! ### the operators' trees -/
def flatD : D → Option V
  | .none => some .non
  | .bool b => some (.bl b)
  | .int i => some (.int i)
  | .str x => some (.str x)
  | _ => none
theorem flat_dp {K : PySem.W.Frag} {G : Hp} {f : D} {v : V} (h : flatD f = some v) : Dp K G v f := by
  cases f with
  | none => cases h; exact .non
  | bool b => cases h; exact .bl b
  | int i => cases h; exact .int i
  | str x => cases h; exact .str x
  | _ => cases h
/-- an operator whose answer is a plain value -/
def rD (K : PySem.W.Frag) (g : D → D → Option D) : R2 := fun x y H Q => ∃ d e f v, Dp K H x d ∧ Dp K H y e ∧ g d e = some f ∧ flatD f = some v ∧ Q v H
theorem sem_rD {g : D → D → Option D} (hg : ∀ d e f, g d e = some f → ∃ v, flatD f = some v) : Sem2 X (rD X.K g) g := fun {P O σ H ρ G F x y d e f Q} r hx hy hf h => by
  obtain ⟨v, hv⟩ := hg d e f hf
  exact ⟨d, e, f, v, dp_mono r.gr hx, dp_mono r.gr hy, hf, hv, h v H G r (Ext.refl _ _) (flat_dp hv)⟩
/-- two ints, an int -/
def intD (c : Int → Int → Bool) (g : Int → Int → Int) : D → D → Option D
  | .int i, .int j => if c i j = true then some (.int (g i j)) else none
  | _, _ => none
omit [PgW] in
theorem intD_flat {c : Int → Int → Bool} {g : Int → Int → Int} (d e f : D) (h : intD c g d e = some f) : ∃ v, flatD f = some v := by
  unfold intD at h
  split at h
  · split at h
    · cases h; exact ⟨_, rfl⟩
    · cases h
  · cases h
theorem op_intD {op : Value → Value → Sem Value} {C : Int → Int → Prop} {c : Int → Int → Bool} {g : Int → Int → Int} (ho : OpR X op (rI C fun i j => .int (g i j))) (hc : ∀ i j, c i j = true → C i j) : OpR X op (rD X.K (intD c g)) := by
  intro pins s σ H x y v u Q I rx ry ⟨d, e, f, w, hd, he, hf, hv, q⟩
  unfold intD at hf
  split at hf
  · rename_i i j
    split at hf
    · rename_i hcc
      cases hf
      cases hv
      cases hd
      cases he
      exact ho pins s σ H _ _ v u Q I rx ry ⟨i, j, rfl, rfl, hc i j hcc, q⟩
    · cases hf
  · cases hf
def subD := intD (fun _ _ => true) fun i j => i - j
def mulOk (i j : Int) : Bool := decide ((-(2 ^ 64) < i ∧ i < 2 ^ 64) ∨ (-(2 ^ 64) < j ∧ j < 2 ^ 64))
def mulD := intD mulOk fun i j => i * j
def divOk (_ j : Int) : Bool := decide (0 < j ∧ j.natAbs.log2 < 9000)
def fdivD := intD divOk fun i j => i / j
def modD := intD (fun _ j => decide (0 < j)) fun i j => i % j
def powOk (i j : Int) : Bool := decide (0 ≤ j ∧ (Builtin.Int.intBits i : Int) * j ≤ 2 ^ 27)
def powD := intD powOk fun i j => i ^ j.toNat
theorem op_subZ : OpR X (binaryOp .Sub) (rD X.K subD) := op_intD (C := fun _ _ => True) (fun pins s σ H x y v u Q I rx ry ⟨i, j, e1, e2, _, q⟩ => op_sub pins s σ H x y v u Q I rx ry ⟨i, j, e1, e2, q⟩) fun _ _ _ => trivial
theorem op_mulZ : OpR X (binaryOp .Mult) (rD X.K mulD) := op_intD op_mul fun _ _ h => by
  unfold mulOk at h
  have q := of_decide_eq_true h
  exact q
theorem op_fdivZ : OpR X (binaryOp .FloorDiv) (rD X.K fdivD) := op_intD op_fdivW fun _ _ h => by
  unfold divOk at h
  have q := of_decide_eq_true h
  exact q
theorem op_modZ : OpR X (binaryOp .Mod) (rD X.K modD) := op_intD op_mod fun _ _ h => of_decide_eq_true h
theorem op_powZ : OpR X (binaryOp .Pow) (rD X.K powD) := op_intD (C := fun i j => powOk i j = true) (opI fun _ _ _ _ _ _ _ hc q => pow_int (of_decide_eq_true hc).1 (of_decide_eq_true hc).2 q) fun _ _ h => h
/-- + of ints, of tuples, of lists, of texts -/
def addD : D → D → Option D
  | .int i, .int j => some (.int (i + j))
  | .tuple xs, .tuple ys => if xs.length + ys.length ≤ sizeLine then some (.tuple (xs ++ ys)) else none
  | .list xs, .list ys => if xs.length + ys.length ≤ sizeLine then some (.list (xs ++ ys)) else none
  | .str x, .str y => if x.length + y.length ≤ sizeLine then some (.str (x ++ y)) else none
  | _, _ => none
def rCatL (K : PySem.W.Frag) : R2 := fun x y H Q => ∃ l b xs zs, x = .ref l ∧ y = .ref b ∧ SqL K H l xs ∧ SqL K H b zs ∧ xs.length + zs.length ≤ sizeLine ∧ ∀ p, H p = none → Q (.ref p) (upd H p (.lst (xs ++ zs)))
omit [PgW] in
theorem op_catL : OpR X (binaryOp .Add) (rCatL X.K) := by
  intro pins s σ H x y v u Q I rx ry h
  obtain ⟨l, b, xs, zs, rfl, rfl, hH, hB, hz, q⟩ := h
  cases rx
  cases ry
  obtain ⟨its, r, ⟨⟨cls, dd, data, sl⟩, n, ho, hc, hdn, hdt⟩, _⟩ := I.list hH
  obtain ⟨its2, r2, ⟨⟨cls2, dd2, data2, sl2⟩, n2, ho2, hc2, hdn2, hdt2⟩, _⟩ := I.list hB
  simp only at hc hdn hdt hc2 hdn2 hdt2
  subst hc hdn hdt hc2 hdn2 hdt2
  have ea : its.toArray ++ its2.toArray = (its ++ its2).toArray := by simp
  have l1 := r.length
  have l2 := r2.length
  refine concat_meets ⟨_, ho, rfl⟩ ⟨_, ho2, rfl⟩ noFill_list_add seq_list_add PySem.F.slot_list_add PySem.F.entry_list_add (PySem.F.args_list_add_2 _ _) (PyProof.Rows.list_addW l b its.toArray its2.toArray n n2 none none sl sl2 (by simp only [List.size_toArray]; omega)) ⟨ho, ho2, ?_⟩
  rw [ea]
  exact ⟨.ref _, _, I.lnew (t' := s.toks) (r.append r2) (by rw [List.length_append]; omega), rfl, q _ I.fresh⟩
def rAddZ (K : PySem.W.Frag) : R2 := fun x y H Q => (∃ i j, x = .int i ∧ y = .int j ∧ Q (.int (i + j)) H) ∨ rCatA K x y H Q ∨ rCatL K x y H Q ∨ (∃ i j, x = .str i ∧ y = .str j ∧ i.length + j.length ≤ sizeLine ∧ Q (.str (i ++ j)) H)
omit [PgW] in
theorem op_addZ : OpR X (binaryOp .Add) (rAddZ X.K) := op_add.or (op_catA.or (op_catL.or op_add_str))
theorem dpAll_nil_iff {K : PySem.W.Frag} {G : Hp} {xs : List V} {ds : List D} (h : DpAll K G xs ds) : xs = [] ↔ ds = [] := by
  have l := DpAll.len h
  constructor
  · intro z; subst z; exact List.length_eq_zero_iff.mp l.symm
  · intro z; subst z; exact List.length_eq_zero_iff.mp l
theorem sem_add : Sem2 X (rAddZ X.K) addD := fun {P O σ H ρ G F x y d e f Q} r hx hy hf h => by
  unfold addD at hf
  split at hf
  · cases hf; cases hx; cases hy
    exact .inl ⟨_, _, rfl, rfl, h _ H G r (Ext.refl _ _) (.int _)⟩
  · rename_i xs ys
    split at hf
    · rename_i hl
      cases hf
      cases hx with
      | tup qx px =>
        cases hy with
        | tup qy py =>
          refine .inr (.inl ⟨_, _, _, _, rfl, rfl, sqT_mono r.gr qx, sqT_mono r.gr qy, by rw [DpAll.len px, DpAll.len py]; exact hl, fun z => ?_, fun _ z => ?_, fun _ _ p hp => ?_⟩)
          · have e1 := (dpAll_nil_iff px).mp z
            subst e1
            exact h _ H G r (Ext.refl _ _) (.tup qy py)
          · have e1 := (dpAll_nil_iff py).mp z
            subst e1
            rw [List.append_nil] at h
            exact h _ H G r (Ext.refl _ _) (.tup qx px)
          · obtain ⟨r2, e2⟩ := r.alloc hp
            exact h _ _ _ r2 e2 (.tup (SqT.of upd_same) (dpAll_mono e2.1 (px.append py)))
    · cases hf
  · rename_i xs ys
    split at hf
    · rename_i hl
      cases hf
      cases hx with
      | lst qx px =>
        cases hy with
        | lst qy py =>
          refine .inr (.inr (.inl ⟨_, _, _, _, rfl, rfl, sqL_mono r.gr qx, sqL_mono r.gr qy, by rw [DpAll.len px, DpAll.len py]; exact hl, fun p hp => ?_⟩))
          obtain ⟨r2, e2⟩ := r.alloc hp
          exact h _ _ _ r2 e2 (.lst (SqL.of upd_same) (dpAll_mono e2.1 (px.append py)))
    · cases hf
  · split at hf
    · rename_i hl
      cases hf; cases hx; cases hy
      exact .inr (.inr (.inr ⟨_, _, rfl, rfl, hl, h _ H G r (Ext.refl _ _) (.str _)⟩))
    · cases hf
  · cases hf
/-- list + list, fresh -/
def catLD : D → D → Option D
  | .list xs, .list ys => if xs.length + ys.length ≤ sizeLine then some (.list (xs ++ ys)) else none
  | _, _ => none
theorem fx_cat {a b : Expr} {Ta Tb : Rho → Out Rho D} {pos : Pos} (ha : EX X P O a Ta) (hb : EX X P O b Tb) : FX X P O .lst (.BinOp a .Add b pos) (binT catLD Ta Tb) := by
  refine pe_mono (pe_op op_catL ha hb) fun σ H Q ⟨ρ, G, F, rr, h⟩ => ?_
  refine tX_bind' (R := rE X.K) rr h fun x H1 d ρ1 G1 r1 e1 p1 h1 => ?_
  refine tX_bind' (R := rE X.K) r1 h1 fun y H2 e ρ2 G2 r2 e2 p2 h2 => ?_
  cases z : catLD d e with
  | none => rw [z] at h2; exact h2.elim
  | some f =>
    rw [z] at h2
    unfold catLD at z
    split at z
    · split at z
      · rename_i hl
        cases z
        cases p1 with
        | lst qx px =>
          cases p2 with
          | lst qy py =>
            have px' := dpAll_mono e2.1 px
            refine ⟨_, _, _, _, rfl, rfl, sqL_mono r2.gr (sqL_mono e2.1 qx), sqL_mono r2.gr qy, by rw [DpAll.len px, DpAll.len py]; exact hl, fun p hp => ?_⟩
            exact h2 _ _ _ (r2.side hp) (Ext.refl _ _) (fresh_at r2 hp (px'.append py))
      · cases z
    · cases z

/-! ### comparisons -/
def okCmp (d e : D) : Bool := d.canLay0 && (e.canLay0 && decide (min d.depth e.depth ≤ 60))
def eqD (d e : D) : Option D := if okCmp d e = true then some (.bool (PyData.eqv d e)) else none
def neD (d e : D) : Option D := if okCmp d e = true then some (.bool (!PyData.eqv d e)) else none
omit [PgW] in
theorem eqD_flat (d e f : D) (h : eqD d e = some f) : ∃ v, flatD f = some v := by
  unfold eqD at h
  split at h
  · cases h; exact ⟨_, rfl⟩
  · cases h
omit [PgW] in
theorem neD_flat (d e f : D) (h : neD d e = some f) : ∃ v, flatD f = some v := by
  unfold neD at h
  split at h
  · cases h; exact ⟨_, rfl⟩
  · cases h
omit [PgW] in
theorem okCmp_all {d e : D} (h : okCmp d e = true) : d.canLay0 = true ∧ e.canLay0 = true ∧ min d.depth e.depth ≤ 60 := by
  unfold okCmp at h
  obtain ⟨h1, h2⟩ := Bool.and_eq_true_iff.mp h
  obtain ⟨h3, h4⟩ := Bool.and_eq_true_iff.mp h2
  exact ⟨h1, h3, of_decide_eq_true h4⟩
theorem op_eqZ (hu : X.A.units + 64 < cLine) : OpR X (compareOp .Eq) (rD X.K eqD) := by
  intro pins s σ H x y v u Q I rx ry ⟨d, e, f, w, hd, he, hf, hv, q⟩
  unfold eqD at hf
  split at hf
  · rename_i hc
    cases hf; cases hv
    obtain ⟨c1, c2, c3⟩ := okCmp_all hc
    obtain ⟨as, r1⟩ := Z.Dp.reads I hd v rx
    obtain ⟨bs, r2⟩ := Z.Dp.reads I he u ry
    exact SeqAt.compareEq_reads r1 r2 c1 c2 (by omega) ⟨.bl _, H, I, rfl, q⟩
  · cases hf
theorem op_neZ (hu : X.A.units + 64 < cLine) : OpR X (compareOp .NotEq) (rD X.K neD) := by
  intro pins s σ H x y v u Q I rx ry ⟨d, e, f, w, hd, he, hf, hv, q⟩
  unfold neD at hf
  split at hf
  · rename_i hc
    cases hf; cases hv
    obtain ⟨c1, c2, c3⟩ := okCmp_all hc
    obtain ⟨as, r1⟩ := Z.Dp.reads I hd v rx
    obtain ⟨bs, r2⟩ := Z.Dp.reads I he u ry
    exact SeqAt.compareNe_reads r1 r2 c1 c2 (by omega) ⟨.bl _, H, I, rfl, q⟩
  · cases hf
/-- an order: of ints, or of data alike -/
def okOrd (d e : D) : Bool := PySem.W.alike d e && ((match d with | .none => false | _ => true) && decide (min d.depth e.depth ≤ 60))
omit [PgW] in
theorem okOrd_all {d e : D} (h : okOrd d e = true) : PySem.W.alike d e = true ∧ d ≠ .none ∧ min d.depth e.depth ≤ 60 := by
  unfold okOrd at h
  obtain ⟨h1, h2⟩ := Bool.and_eq_true_iff.mp h
  obtain ⟨h3, h4⟩ := Bool.and_eq_true_iff.mp h2
  exact ⟨h1, fun z => (by subst z; cases h3), of_decide_eq_true h4⟩
def ordD (p : Int → Int → Bool) (g : D → D → Bool) : D → D → Option D
  | .int i, .int j => some (.bool (p i j))
  | d, e => if okOrd d e = true then some (.bool (g d e)) else none
omit [PgW] in
theorem ordD_flat {p : Int → Int → Bool} {g : D → D → Bool} (d e f : D) (h : ordD p g d e = some f) : ∃ v, flatD f = some v := by
  unfold ordD at h
  split at h
  · cases h; exact ⟨_, rfl⟩
  · split at h
    · cases h; exact ⟨_, rfl⟩
    · cases h
theorem op_ordZ {op : CmpOp} {p : Int → Int → Bool} {g : D → D → Bool} (hi : OpR X (compareOp op) (rI0 fun i j => .bl (p i j)))
    (hd : ∀ (A : Around) (E : Value → Shared → Prop) (s : Shared) (a b : Value) (da db : D) (as bs : List Addr) (Q : Value → Shared → Prop), Reads s.heap a da as → Reads s.heap b db bs → PySem.W.alike da db = true → da ≠ .none → A.units + min da.depth db.depth < cLine → Q (.bool (g da db)) s → wpAny (model X.prog X.w) A (compareOp op a b) Q E s)
    (hu : X.A.units + 64 < cLine) : OpR X (compareOp op) (rD X.K (ordD p g)) := by
  intro pins s σ H x y v u Q I rx ry ⟨d, e, f, w, hd', he, hf, hv, q⟩
  unfold ordD at hf
  split at hf
  · cases hf; cases hv; cases hd'; cases he
    exact hi pins s σ H _ _ v u Q I rx ry ⟨_, _, rfl, rfl, q⟩
  · split at hf
    · rename_i hc
      cases hf; cases hv
      obtain ⟨c1, c2, c3⟩ := okOrd_all hc
      obtain ⟨as, r1⟩ := Z.Dp.reads I hd' v rx
      obtain ⟨bs, r2⟩ := Z.Dp.reads I he u ry
      exact hd X.A X.xe s v u d e as bs _ r1 r2 c1 c2 (by omega) ⟨.bl _, H, I, rfl, q⟩
    · cases hf
def ltD := ordD (fun i j => decide (i < j)) fun d e => PySem.W.dataLt d e
def leD := ordD (fun i j => decide (i ≤ j)) fun d e => !PySem.W.dataLt e d
def gtD := ordD (fun i j => decide (j < i)) fun d e => PySem.W.dataLt e d
def geD := ordD (fun i j => decide (j ≤ i)) fun d e => !PySem.W.dataLt d e
theorem op_ltZ (hu : X.A.units + 64 < cLine) : OpR X (compareOp .Lt) (rD X.K ltD) := op_ordZ op_lt (fun _ _ _ _ _ _ _ _ _ _ r1 r2 h1 h2 h3 q => PySem.W.lt_data r1 r2 h1 h2 h3 q) hu
theorem op_leZ (hu : X.A.units + 64 < cLine) : OpR X (compareOp .LtE) (rD X.K leD) := op_ordZ op_le (fun _ _ _ _ _ _ _ _ _ _ r1 r2 h1 h2 h3 q => PySem.W.le_data r1 r2 h1 h2 h3 q) hu
theorem op_gtZ (hu : X.A.units + 64 < cLine) : OpR X (compareOp .Gt) (rD X.K gtD) := op_ordZ op_gt (fun _ _ _ _ _ _ _ _ _ _ r1 r2 h1 h2 h3 q => PySem.W.gt_data r1 r2 h1 h2 h3 q) hu
theorem op_geZ (hu : X.A.units + 64 < cLine) : OpR X (compareOp .GtE) (rD X.K geD) := op_ordZ op_ge (fun _ _ _ _ _ _ _ _ _ _ r1 r2 h1 h2 h3 q => PySem.W.ge_data r1 r2 h1 h2 h3 q) hu
/-- in a tuple or list -/
def okIn (d : D) (xs : List D) : Bool := PyData.canLayAll0 xs && (d.canLay0 && decide (min (PyData.depthAll xs) d.depth ≤ 60))
def inB (d e : D) : Option Bool := match itemsD e with
  | some xs => if okIn d xs = true then some (xs.any fun y => PyData.eqv y d) else none
  | none => none
def inD (d e : D) : Option D := (inB d e).map .bool
def notInD (d e : D) : Option D := (inB d e).map fun b => .bool (!b)
omit [PgW] in
theorem inD_flat (d e f : D) (h : inD d e = some f) : ∃ v, flatD f = some v := by
  unfold inD at h
  obtain ⟨b, _, e⟩ := Option.map_eq_some_iff.mp h
  subst e
  exact ⟨_, rfl⟩
omit [PgW] in
theorem notInD_flat (d e f : D) (h : notInD d e = some f) : ∃ v, flatD f = some v := by
  unfold notInD at h
  obtain ⟨b, _, e⟩ := Option.map_eq_some_iff.mp h
  subst e
  exact ⟨_, rfl⟩
omit [PgW] in
theorem inB_all {d e : D} {b : Bool} (h : inB d e = some b) : ∃ xs, itemsD e = some xs ∧ PyData.canLayAll0 xs = true ∧ d.canLay0 = true ∧ min (PyData.depthAll xs) d.depth ≤ 60 ∧ b = xs.any fun y => PyData.eqv y d := by
  unfold inB at h
  cases z : itemsD e with
  | none => rw [z] at h; cases h
  | some xs =>
    rw [z] at h
    have h' : (if okIn d xs = true then some (xs.any fun y => PyData.eqv y d) else none) = some b := h
    split at h'
    · rename_i hc
      unfold okIn at hc
      obtain ⟨h1, h2⟩ := Bool.and_eq_true_iff.mp hc
      obtain ⟨h3, h4⟩ := Bool.and_eq_true_iff.mp h2
      exact ⟨xs, rfl, h1, h3, of_decide_eq_true h4, (Option.some.inj h').symm⟩
    · cases h'
theorem op_inZ (hu : X.A.units + 64 < cLine) : OpR X (compareOp .In) (rD X.K inD) := by
  intro pins s σ H x y v u Q I rx ry ⟨d, e, f, w, hd, he, hf, hv, q⟩
  unfold inD at hf
  obtain ⟨b, hb, e1⟩ := Option.map_eq_some_iff.mp hf
  subst e1
  cases hv
  obtain ⟨xs, hi, c1, c2, c3, eb⟩ := inB_all hb
  subst eb
  obtain ⟨as, r1⟩ := Z.Dp.reads I hd v rx
  obtain ⟨bs, r2⟩ := Z.Dp.reads I he u ry
  cases e with
  | list ds => cases hi; exact SeqAt.in_list_reads r2 r1 c1 c2 (by omega) ⟨.bl _, H, I, rfl, q⟩
  | tuple ds => cases hi; exact SeqAt.in_tuple_reads r2 r1 c1 c2 (by omega) ⟨.bl _, H, I, rfl, q⟩
  | _ => cases hi
theorem op_notInZ (hu : X.A.units + 64 < cLine) : OpR X (compareOp .NotIn) (rD X.K notInD) := by
  intro pins s σ H x y v u Q I rx ry ⟨d, e, f, w, hd, he, hf, hv, q⟩
  unfold notInD at hf
  obtain ⟨b, hb, e1⟩ := Option.map_eq_some_iff.mp hf
  subst e1
  cases hv
  obtain ⟨xs, hi, c1, c2, c3, eb⟩ := inB_all hb
  subst eb
  obtain ⟨as, r1⟩ := Z.Dp.reads I hd v rx
  obtain ⟨bs, r2⟩ := Z.Dp.reads I he u ry
  cases e with
  | list ds => cases hi; exact SeqAt.notIn_list_reads r2 r1 c1 c2 (by omega) ⟨.bl _, H, I, rfl, q⟩
  | tuple ds => cases hi; exact SeqAt.notIn_tuple_reads r2 r1 c1 c2 (by omega) ⟨.bl _, H, I, rfl, q⟩
  | _ => cases hi
/-- is None, is True -/
def isNoneD : D → Bool
  | .none => true
  | _ => false
def isB2 : D → D → Option Bool
  | d, .none => some (isNoneD d)
  | .bool a, .bool b => some (decide (a = b))
  | _, _ => none
def isD (d e : D) : Option D := (isB2 d e).map .bool
def isNotD (d e : D) : Option D := (isB2 d e).map fun b => .bool (!b)
omit [PgW] in
theorem isD_flat (d e f : D) (h : isD d e = some f) : ∃ v, flatD f = some v := by
  unfold isD at h
  obtain ⟨b, _, e⟩ := Option.map_eq_some_iff.mp h
  subst e
  exact ⟨_, rfl⟩
omit [PgW] in
theorem isNotD_flat (d e f : D) (h : isNotD d e = some f) : ∃ v, flatD f = some v := by
  unfold isNotD at h
  obtain ⟨b, _, e⟩ := Option.map_eq_some_iff.mp h
  subst e
  exact ⟨_, rfl⟩
theorem dp_isNone {K : PySem.W.Frag} {H : Hp} {x : V} {d : D} (h : Dp K H x d) : decide (x = .non) = isNoneD d := by
  cases h <;> first | rfl | (simp [isNoneD])
theorem op_isZ : OpR X (compareOp .Is) (rD X.K isD) := by
  intro pins s σ H x y v u Q I rx ry ⟨d, e, f, w, hd, he, hf, hv, q⟩
  unfold isD at hf
  obtain ⟨b, hb, e1⟩ := Option.map_eq_some_iff.mp hf
  subst e1
  cases hv
  unfold isB2 at hb
  split at hb
  · cases hb; cases he
    exact op_isN pins s σ H _ _ v u Q I rx ry ⟨rfl, by rw [dp_isNone hd]; exact q⟩
  · cases hb; cases hd; cases he
    exact op_isBl pins s σ H _ _ v u Q I rx ry ⟨_, _, rfl, rfl, q⟩
  · cases hb
theorem op_isNotZ : OpR X (compareOp .IsNot) (rD X.K isNotD) := by
  intro pins s σ H x y v u Q I rx ry ⟨d, e, f, w, hd, he, hf, hv, q⟩
  unfold isNotD at hf
  obtain ⟨b, hb, e1⟩ := Option.map_eq_some_iff.mp hf
  subst e1
  cases hv
  unfold isB2 at hb
  split at hb
  · cases hb; cases he
    exact op_notN pins s σ H _ _ v u Q I rx ry ⟨rfl, by rw [dp_isNone hd]; exact q⟩
  · cases hb; cases hd; cases he
    exact op_notBl pins s σ H _ _ v u Q I rx ry ⟨_, _, rfl, rfl, q⟩
  · cases hb

/-! ### subscripts -/
def idxD : D → D → Option D
  | .tuple ds, .int i => atI ds i
  | .list ds, .int i => atI ds i
  | _, _ => none
theorem atI_dp {K : PySem.W.Frag} {G : Hp} {xs : List V} {ds : List D} {i : Int} {d : D} (h : DpAll K G xs ds) (e : atI ds i = some d) : ∃ v, atI xs i = some v ∧ Dp K G v d := by
  unfold atI at e ⊢
  rw [DpAll.len h]
  cases z : ixN ds.length i with
  | none => rw [z] at e; cases e
  | some j =>
    rw [z] at e
    obtain ⟨v, h1, h2⟩ := DpAll.get' h e
    exact ⟨v, h1, h2⟩
def rIxZ (K : PySem.W.Frag) : R2 := fun x y H Q => rIxL K x y H Q ∨ rIxT K x y H Q
theorem sem_ix : Sem2 X (rIxZ X.K) idxD := fun {P O σ H ρ G F x y d e f Q} r hx hy hf h => by
  unfold idxD at hf
  split at hf
  · cases hy
    cases hx with
    | tup q p =>
      obtain ⟨v, h1, h2⟩ := atI_dp p hf
      exact .inr ⟨_, _, _, v, rfl, rfl, sqT_mono r.gr q, h1, h v H G r (Ext.refl _ _) h2⟩
  · cases hy
    cases hx with
    | lst q p =>
      obtain ⟨v, h1, h2⟩ := atI_dp p hf
      exact .inl ⟨_, _, _, v, rfl, rfl, sqL_mono r.gr q, h1, h v H G r (Ext.refl _ _) h2⟩
  · cases hf
theorem ex_ix {a b : Expr} {Ta Tb : Rho → Out Rho D} {pos : Pos} (ha : EX X P O a Ta) (hb : EX X P O b Tb) (hs : PlainIx b := by exact fun _ _ => rfl) : EX X P O (.Subscript a b pos) (binT idxD Ta Tb) :=
  pe_mono (pe_ix (ix_list.or ix_tup) ha hb hs) fun _ _ _ h => tx_bin (r := rIxZ X.K) sem_ix h
/-- a part of a slice -/
abbrev rP : RR (Option Int) (Option Int) := fun _ _ _ _ _ a b => a = b
def PX (X : Cx) (P : Pm) (O : Own) (e : Option Expr) (T : Rho → Out Rho (Option Int)) : Prop := PO X e (tX X P O rP T)
def noP : Rho → Out Rho (Option Int) := fun ρ => .ok none ρ
def someP (T : Rho → Out Rho D) : Rho → Out Rho (Option Int) := fun ρ => (T ρ).bind fun d ρ1 => match d with
  | .int i => .ok (some i) ρ1
  | _ => .bad
omit [PgW] in
theorem po_mono {e : Option Expr} {t t' : TO} (h : PO X e t) (m : ∀ σ H Q, t' σ H Q → t σ H Q) : PO X e t' := ⟨fun pins s σ H Q I q => h.run pins s σ H Q I (m σ H Q q)⟩
theorem px_none : PX X P O none noP := po_mono po_none fun σ H Q ⟨ρ, G, F, r, h⟩ => h none H G r (Ext.refl _ _) rfl
theorem px_some {e : Expr} {T : Rho → Out Rho D} (h : EX X P O e T) : PX X P O (some e) (someP T) := by
  refine po_mono (po_some h) fun σ H Q ⟨ρ, G, F, rr, h⟩ => ?_
  refine tX_bind' (R := rE X.K) rr h fun x H1 d ρ1 G1 r1 e1 p1 h1 => ?_
  cases d with
  | int i => cases p1; exact ⟨i, rfl, h1 _ H1 G1 r1 (Ext.refl _ _) rfl⟩
  | _ => exact h1.elim
def cutD (ds : List D) (lo hi : Option Int) : List D := (ds.drop (HT.sIx ds.length 0 lo)).take (HT.sIx ds.length ds.length hi - HT.sIx ds.length 0 lo)
theorem cut_dp {K : PySem.W.Frag} {G : Hp} {xs : List V} {ds : List D} (h : DpAll K G xs ds) (lo hi : Option Int) : DpAll K G (cutV xs lo hi) (cutD ds lo hi) := by
  unfold cutV cutD
  rw [DpAll.len h]
  exact (h.drop _).take _
def slcD (d : D) (lo hi : Option Int) : Option D := match d with
  | .tuple ds => some (.tuple (cutD ds lo hi))
  | .list ds => some (.list (cutD ds lo hi))
  | _ => none
def slcT (T : Rho → Out Rho D) (Tl Th : Rho → Out Rho (Option Int)) : Rho → Out Rho D := fun ρ => (T ρ).bind fun d ρ1 => (Tl ρ1).bind fun lo ρ2 => (Th ρ2).bind fun hi ρ3 => .of (slcD d lo hi) ρ3
theorem ex_slice {e : Expr} {lo hi : Option Expr} {T : Rho → Out Rho D} {Tl Th : Rho → Out Rho (Option Int)} {p2 pos : Pos} (he : EX X P O e T) (hl : PX X P O lo Tl) (hh : PX X P O hi Th) : EX X P O (.Subscript e (.Slice lo hi none p2) pos) (slcT T Tl Th) := by
  refine pe_mono (pe_slice (sl_list.or sl_tupA) he hl hh) fun σ H Q ⟨ρ, G, F, rr, h⟩ => ?_
  refine tX_bind' (R := rE X.K) rr h fun x H1 d ρ1 G1 r1 e1 p1 h1 => ?_
  refine tX_bind' (R := rP) r1 h1 fun lo H2 lo' ρ2 G2 r2 e2 p2 h2 => ?_
  refine tX_bind' (R := rP) r2 h2 fun hi H3 hi' ρ3 G3 r3 e3 p3 h3 => ?_
  cases p2
  cases p3
  have p1' := dp_mono e3.1 (dp_mono e2.1 p1)
  cases d with
  | tuple ds =>
    cases p1' with
    | tup q p =>
      refine .inr ⟨_, _, rfl, sqT_mono r3.gr q, fun z => ?_, fun _ a ha => ?_⟩
      · have ec : cutD ds lo hi = ds := by
          unfold cutD
          rw [DpAll.len p] at z
          rw [z.1, z.2]
          simp
        have h3' := h3 (.ref _) H3 G3 r3 (Ext.refl _ _) (by rw [ec]; exact .tup q p)
        exact h3'
      · obtain ⟨r4, e4⟩ := r3.alloc ha
        exact h3 _ _ _ r4 e4 (.tup (SqT.of upd_same) (dpAll_mono e4.1 (cut_dp p lo hi)))
  | list ds =>
    cases p1' with
    | lst q p =>
      refine .inl ⟨_, _, rfl, sqL_mono r3.gr q, fun a ha => ?_⟩
      obtain ⟨r4, e4⟩ := r3.alloc ha
      exact h3 _ _ _ r4 e4 (.lst (SqL.of upd_same) (dpAll_mono e4.1 (cut_dp p lo hi)))
  | _ => exact h3.elim

/-! ### built-ins -/
def SemN (X : Cx) (r : List V → Hp → VK → Prop) (g : List D → Option D) : Prop := ∀ {P : Pm} {O : Own} {σ : L2.St} {H : Hp} {ρ : Rho} {G F : Hp} {xs : List V} {ds : List D} {f : D} {Q : VK}, Rel X.K F P.fx O σ H ρ G → DpAll X.K G xs ds → g ds = some f →
  (∀ v H' G', Rel X.K F P.fx O σ H' ρ G' → Ext F G G' → Dp X.K G' v f → Q v H') → r xs H Q
def callB (g : List D → Option D) (Ta : Rho → Out Rho (List D)) : Rho → Out Rho D := fun ρ => (Ta ρ).bind fun ds ρ1 => .of (g ds) ρ1
theorem tx_call {r : List V → Hp → VK → Prop} {g : List D → Option D} (hs : SemN X r g) {Ta : Rho → Out Rho (List D)} {σ : L2.St} {H : Hp} {Q : VK} (h : tX X P O (rE X.K) (callB g Ta) σ H Q) : tCB r (tX X P O (rA X.K) Ta) σ H Q := by
  obtain ⟨ρ, G, F, rr, h⟩ := h
  refine tX_bind' (R := rA X.K) rr h fun x H1 d ρ1 G1 r1 e1 p1 h1 => ?_
  cases z : g d with
  | none => rw [z] at h1; exact h1.elim
  | some f =>
    rw [z] at h1
    exact hs r1 p1 z h1
theorem ex_callB {id : String} {r : List V → Hp → VK → Prop} {g : List D → Option D} (hc : CallR X (.builtin id) r) (hs : SemN X r g) {x : Str} {p pos : Pos} {e : Expr} {es : List Expr} {T : Rho → Out Rho (List D)} (hm : X.mg x = none) (hv : bootBuiltins x = some (.builtin id)) (ha : AX X P O (e :: es) T)
    (hg : Gl X x := by rfl) (hn : x ≠ "__name__" := by decide) (hdb : (x == ("__debug__" : Str)) = false := by decide)
    (he : starEach (e :: es) X.env = (false, eval e X.env) :: starEach es X.env := by rfl) (hpl : (backTo pos (starEach es X.env)).any (·.1) = false := by rfl) : EX X P O (.Call (.Name x p) (e :: es) [] pos) (callB g T) :=
  pe_mono (pe_callB hc hg hm hv ha hn hdb he hpl) fun _ _ _ h => tx_call hs h
theorem ex_callTy {id : String} {r : List V → Hp → VK → Prop} {g : List D → Option D} (hc : CallR X (.type id) r) (hs : SemN X r g) {x : Str} {p pos : Pos} {e : Expr} {es : List Expr} {T : Rho → Out Rho (List D)} (hm : X.mg x = none) (hv : bootBuiltins x = some (.type id)) (ha : AX X P O (e :: es) T)
    (hg : Gl X x := by rfl) (hn : x ≠ "__name__" := by decide) (hdb : (x == ("__debug__" : Str)) = false := by decide)
    (he : starEach (e :: es) X.env = (false, eval e X.env) :: starEach es X.env := by rfl) (hpl : (backTo pos (starEach es X.env)).any (·.1) = false := by rfl) : EX X P O (.Call (.Name x p) (e :: es) [] pos) (callB g T) :=
  pe_mono (pe_callTy hc hg hm hv ha hn hdb he hpl) fun _ _ _ h => tx_call hs h
/-- a built-in whose answer is a plain value -/
def rDN (K : PySem.W.Frag) (g : List D → Option D) : List V → Hp → VK → Prop := fun xs H Q => ∃ ds f v, DpAll K H xs ds ∧ g ds = some f ∧ flatD f = some v ∧ Q v H
theorem sem_rDN {g : List D → Option D} (hg : ∀ ds f, g ds = some f → ∃ v, flatD f = some v) : SemN X (rDN X.K g) g := fun {P O σ H ρ G F xs ds f Q} r hx hf h => by
  obtain ⟨v, hv⟩ := hg ds f hf
  exact ⟨ds, f, v, dpAll_mono r.gr hx, hf, hv, h v H G r (Ext.refl _ _) (flat_dp hv)⟩
theorem dpAll1 {K : PySem.W.Frag} {G : Hp} {xs : List V} {d : D} (h : DpAll K G xs [d]) : ∃ x, xs = [x] ∧ Dp K G x d := by
  cases h with
  | cons a b => cases b; exact ⟨_, rfl, a⟩
theorem dpAll2 {K : PySem.W.Frag} {G : Hp} {xs : List V} {d e : D} (h : DpAll K G xs [d, e]) : ∃ x y, xs = [x, y] ∧ Dp K G x d ∧ Dp K G y e := by
  cases h with
  | cons a b =>
    obtain ⟨y, rfl, c⟩ := dpAll1 b
    exact ⟨_, y, rfl, a, c⟩
def lenD : List D → Option D
  | [.tuple ds] => some (.int ds.length)
  | [.list ds] => some (.int ds.length)
  | [.str x] => if x.length ≤ sizeLine then some (.int x.length) else none
  | _ => none
omit [PgW] in
theorem lenD_flat (ds : List D) (f : D) (h : lenD ds = some f) : ∃ v, flatD f = some v := by
  unfold lenD at h
  split at h <;> first | (cases h; exact ⟨_, rfl⟩) | (split at h <;> cases h; exact ⟨_, rfl⟩) | cases h
theorem call_lenZ : CallR X (.builtin "len") (rDN X.K lenD) := by
  intro pins s σ H xs us Q I r ⟨ds, f, v, hd, hf, hv, q⟩
  unfold lenD at hf
  split at hf
  · cases hf; cases hv
    obtain ⟨x, rfl, hx⟩ := dpAll1 hd
    cases hx with
    | tup a b => exact call_len pins s σ H _ us Q I r ⟨_, _, rfl, .inr ⟨_, a, rfl⟩, by rw [DpAll.len b]; exact q⟩
  · cases hf; cases hv
    obtain ⟨x, rfl, hx⟩ := dpAll1 hd
    cases hx with
    | lst a b => exact call_len pins s σ H _ us Q I r ⟨_, _, rfl, .inl ⟨_, a, rfl⟩, by rw [DpAll.len b]; exact q⟩
  · split at hf
    · rename_i hl
      cases hf; cases hv
      obtain ⟨x, rfl, hx⟩ := dpAll1 hd
      cases hx
      exact call_len pins s σ H _ us Q I r ⟨_, _, rfl, ⟨hl, rfl⟩, q⟩
    · cases hf
  · cases hf
def boolsOf : List D → Option (List Bool)
  | [] => some []
  | .bool b :: r => (boolsOf r).map (b :: ·)
  | _ => none
def intsOf : List D → Option (List Int)
  | [] => some []
  | .int b :: r => (intsOf r).map (b :: ·)
  | _ => none
omit [PgW] in
theorem boolsOf_eq : ∀ {ds : List D} {bs : List Bool}, boolsOf ds = some bs → ds = bs.map .bool
  | [], _, h => by cases h; rfl
  | .bool b :: r, bs, h => by
    obtain ⟨cs, h1, h2⟩ := Option.map_eq_some_iff.mp (show (boolsOf r).map (b :: ·) = some bs from h)
    subst h2
    rw [boolsOf_eq h1] <;> rfl
  | .none :: _, _, h | .int _ :: _, _, h | .str _ :: _, _, h | .list _ :: _, _, h | .tuple _ :: _, _, h | .dict _ :: _, _, h => by cases h
omit [PgW] in
theorem intsOf_eq : ∀ {ds : List D} {bs : List Int}, intsOf ds = some bs → ds = bs.map .int
  | [], _, h => by cases h; rfl
  | .int b :: r, bs, h => by
    obtain ⟨cs, h1, h2⟩ := Option.map_eq_some_iff.mp (show (intsOf r).map (b :: ·) = some bs from h)
    subst h2
    rw [intsOf_eq h1] <;> rfl
  | .none :: _, _, h | .bool _ :: _, _, h | .str _ :: _, _, h | .list _ :: _, _, h | .tuple _ :: _, _, h | .dict _ :: _, _, h => by cases h
omit [PgW] in
@[simp] theorem boolsOf_map (bs : List Bool) : boolsOf (bs.map .bool) = some bs := by
  induction bs with
  | nil => rfl
  | cons b r ih => simp [boolsOf, ih]
omit [PgW] in
@[simp] theorem intsOf_map (bs : List Int) : intsOf (bs.map .int) = some bs := by
  induction bs with
  | nil => rfl
  | cons b r ih => simp [intsOf, ih]
def allD : List D → Option D
  | [.list ds] => (boolsOf ds).map fun bs => .bool (bs.all id)
  | _ => none
def anyD : List D → Option D
  | [.list ds] => (boolsOf ds).map fun bs => .bool (bs.any id)
  | _ => none
omit [PgW] in
theorem allD_flat (ds : List D) (f : D) (h : allD ds = some f) : ∃ v, flatD f = some v := by
  unfold allD at h
  split at h
  · obtain ⟨b, _, e⟩ := Option.map_eq_some_iff.mp h
    subst e; exact ⟨_, rfl⟩
  · cases h
omit [PgW] in
theorem anyD_flat (ds : List D) (f : D) (h : anyD ds = some f) : ∃ v, flatD f = some v := by
  unfold anyD at h
  split at h
  · obtain ⟨b, _, e⟩ := Option.map_eq_some_iff.mp h
    subst e; exact ⟨_, rfl⟩
  · cases h
theorem call_allZ (hc : X.calm = true) : CallR X (.builtin "all") (rDN X.K allD) := by
  intro pins s σ H xs us Q I r ⟨ds, f, v, hd, hf, hv, q⟩
  unfold allD at hf
  split at hf
  · obtain ⟨bs, hb, e⟩ := Option.map_eq_some_iff.mp hf
    subst e; cases hv
    obtain ⟨x, rfl, hx⟩ := dpAll1 hd
    cases hx with
    | lst a b =>
      rw [boolsOf_eq hb] at b
      exact cr_all hc pins s σ H _ us Q I r ⟨_, bs, rfl, by rw [← DpAll.bls b]; exact a, q⟩
  · cases hf
theorem call_anyZ (hc : X.calm = true) : CallR X (.builtin "any") (rDN X.K anyD) := by
  intro pins s σ H xs us Q I r ⟨ds, f, v, hd, hf, hv, q⟩
  unfold anyD at hf
  split at hf
  · obtain ⟨bs, hb, e⟩ := Option.map_eq_some_iff.mp hf
    subst e; cases hv
    obtain ⟨x, rfl, hx⟩ := dpAll1 hd
    cases hx with
    | lst a b =>
      rw [boolsOf_eq hb] at b
      exact cr_any hc pins s σ H _ us Q I r ⟨_, bs, rfl, by rw [← DpAll.bls b]; exact a, q⟩
  · cases hf
def minD : List D → Option D
  | [.int i, .int j] => some (.int (if j < i then j else i))
  | _ => none
def maxD : List D → Option D
  | [.int i, .int j] => some (.int (if j > i then j else i))
  | _ => none
omit [PgW] in
theorem minD_flat (ds : List D) (f : D) (h : minD ds = some f) : ∃ v, flatD f = some v := by
  unfold minD at h
  split at h <;> cases h; exact ⟨_, rfl⟩
omit [PgW] in
theorem maxD_flat (ds : List D) (f : D) (h : maxD ds = some f) : ∃ v, flatD f = some v := by
  unfold maxD at h
  split at h <;> cases h; exact ⟨_, rfl⟩
theorem call_minZ (hc : X.calm = true) : CallR X (.builtin "min") (rDN X.K minD) := by
  intro pins s σ H xs us Q I r ⟨ds, f, v, hd, hf, hv, q⟩
  unfold minD at hf
  split at hf
  · cases hf; cases hv
    obtain ⟨x, y, rfl, hx, hy⟩ := dpAll2 hd
    cases hx; cases hy
    exact call_min2 hc pins s σ H _ us Q I r ⟨_, _, rfl, q⟩
  · cases hf
theorem call_maxZ (hc : X.calm = true) : CallR X (.builtin "max") (rDN X.K maxD) := by
  intro pins s σ H xs us Q I r ⟨ds, f, v, hd, hf, hv, q⟩
  unfold maxD at hf
  split at hf
  · cases hf; cases hv
    obtain ⟨x, y, rfl, hx, hy⟩ := dpAll2 hd
    cases hx; cases hy
    exact call_max2 hc pins s σ H _ us Q I r ⟨_, _, rfl, q⟩
  · cases hf
def absD : List D → Option D
  | [.int i] => some (.int (if i < 0 then -i else i))
  | _ => none
omit [PgW] in
theorem absD_flat (ds : List D) (f : D) (h : absD ds = some f) : ∃ v, flatD f = some v := by
  unfold absD at h
  split at h <;> cases h; exact ⟨_, rfl⟩
theorem call_absZ : CallR X (.builtin "abs") (rDN X.K absD) := by
  intro pins s σ H xs us Q I r ⟨ds, f, v, hd, hf, hv, q⟩
  unfold absD at hf
  split at hf
  · cases hf; cases hv
    obtain ⟨x, rfl, hx⟩ := dpAll1 hd
    cases hx
    exact call_abs pins s σ H _ us Q I r ⟨_, rfl, q⟩
  · cases hf
def intC : List D → Option D
  | [.int i] => some (.int i)
  | [.bool b] => some (.int (if b then 1 else 0))
  | _ => none
omit [PgW] in
theorem intC_flat (ds : List D) (f : D) (h : intC ds = some f) : ∃ v, flatD f = some v := by
  unfold intC at h
  split at h <;> cases h <;> exact ⟨_, rfl⟩
theorem call_intZ : CallR X (.type "int") (rDN X.K intC) := by
  intro pins s σ H xs us Q I r ⟨ds, f, v, hd, hf, hv, q⟩
  unfold intC at hf
  split at hf
  · cases hf; cases hv
    obtain ⟨x, rfl, hx⟩ := dpAll1 hd
    cases hx
    exact call_int1 pins s σ H _ us Q I r (.inl ⟨_, rfl, q⟩)
  · cases hf; cases hv
    obtain ⟨x, rfl, hx⟩ := dpAll1 hd
    cases hx
    exact call_int1 pins s σ H _ us Q I r (.inr ⟨_, rfl, q⟩)
  · cases hf
/-- tuple(xs) -/
def tupC : List D → Option D
  | [.list ds] => some (.tuple ds)
  | [.tuple ds] => some (.tuple ds)
  | _ => none
def rTupC (K : PySem.W.Frag) : List V → Hp → VK → Prop := fun xs H Q => ∃ p ys, xs = [.ref p] ∧ ((SqL K H p ys ∧ ∀ l, H l = none → Q (.ref l) (upd H l (.tup ys))) ∨ (SqT K H p ys ∧ Q (.ref p) H))
theorem sem_tupC : SemN X (rTupC X.K) tupC := fun {P O σ H ρ G F xs ds f Q} r hx hf h => by
  unfold tupC at hf
  split at hf
  · cases hf
    obtain ⟨x, rfl, hy⟩ := dpAll1 hx
    cases hy with
    | lst a b =>
      refine ⟨_, _, rfl, .inl ⟨sqL_mono r.gr a, fun l hl => ?_⟩⟩
      obtain ⟨r2, e2⟩ := r.alloc hl
      exact h _ _ _ r2 e2 (.tup (SqT.of upd_same) (dpAll_mono e2.1 b))
  · cases hf
    obtain ⟨x, rfl, hy⟩ := dpAll1 hx
    cases hy with
    | tup a b => exact ⟨_, _, rfl, .inr ⟨sqT_mono r.gr a, h _ H G r (Ext.refl _ _) (.tup a b)⟩⟩
  · cases hf
end
end Z

/-! file ZIter -/
set_option Elab.async false
set_option linter.all false
set_option autoImplicit false
set_option maxRecDepth 100000
set_option maxHeartbeats 4000000
/-! what is walked -/
namespace Z
open PySem PySem.Spec PyProof.Rows L2
variable [PgW]
open AutoSeq1 (wpAny_loadPart')

/-! ### enumerate(tuple) -/
omit [PgW] in
theorem meets_enumerate_newT (l : Addr) (items : Array Value) (n : Nat) (dct : Option Addr) (sl : Array (Option Value)) :
    Meets (Builtin.«enumerate.__new__» ⟨[.type "enumerate", .ref l], []⟩) (fun _ R s => s.heap.get? l = some { cls := .type "tuple", dict := dct, data := .seq items n, slots := sl } ∧
      R (.ok (.ret (.ref (s.heap.push { cls := .type "tuple_iterator", data := .fields #[.ref l, .int 0 0] }).objs.size)))
        { s with heap := (s.heap.push { cls := .type "tuple_iterator", data := .fields #[.ref l, .int 0 0] }).push { cls := .type "enumerate", data := .fields #[.none, .bool false, .ref s.heap.objs.size, rawInt 0, .none, .none] } }) :=
  .of_wp fun prog w A R s h => by
    obtain ⟨hp, g, d, tk, os⟩ := s; obtain ⟨hl, h⟩ := h
    have hsub := sub_enumerate
    have hL : Heap.IsTuple (Shared.heap ⟨hp, g, d, tk, os⟩) l items := ⟨_, hl, rfl, n, rfl⟩
    wp_walk using wpAny_loadPart' hl
    refine wpAny_stack_any fun st => wpAny_pure ?_
    split
    · rename_i c _ _ _ _ _
      cases (c == Value.type "enumerate")
      · wp_walk using wpAny_loadPart' hl, wpAny_pyIter_tuple hL
        exact ⟨_, rfl, h⟩
      · wp_walk using wpAny_loadPart' hl, wpAny_pyIter_tuple hL
        exact ⟨_, rfl, h⟩
    · wp_walk using wpAny_loadPart' hl, wpAny_pyIter_tuple hL
      exact ⟨_, rfl, h⟩
omit [PgW] in
theorem call_enumerate_tuple {prog : Program} {w : World} {A : Around} {E : Value → Shared → Prop} {s : Shared} {l : Addr} {items : Array Value} {Q : Value → Shared → Prop} (hL : s.heap.IsTuple l items)
    (h : ∀ h', IsEnum h' (s.heap.objs.size + 1) s.heap.objs.size 0 .none → h'.IsTupleIter s.heap.objs.size l 0 → h'.objs.size = s.heap.objs.size + 2 →
      (∀ b o, s.heap.get? b = some o → h'.get? b = some o) → Q (.ref (s.heap.objs.size + 1)) { s with heap := h' }) :
    wpAny (model prog w) A (call (.type "enumerate") [.ref l]) Q E s := by
  obtain ⟨⟨c, dct, dt, sl⟩, hl, hc, n, hd⟩ := hL
  replace hc : c = .type "tuple" := hc
  replace hd : dt = .seq items n := hd
  subst hc hd
  refine callType_new F.called_enumerate (by decide) (F.typeCall_enumerate_1 _) (F.newCall_enumerate_1 _) (fun obj => F.args_object_init_2 obj _) F.entry_enumerate_new
    (meets_enumerate_newT l items n dct sl) ⟨hl, ?_⟩
  have hz : (s.heap.push { cls := .type "tuple_iterator", data := .fields #[.ref l, .int 0 0] }).objs.size = s.heap.objs.size + 1 := Heap.size_push ..
  show _ ∧ _
  rw [hz]
  have he : IsEnum ((s.heap.push { cls := .type "tuple_iterator", data := .fields #[.ref l, .int 0 0] }).push
      { cls := .type "enumerate", data := .fields #[.none, .bool false, .ref s.heap.objs.size, rawInt 0, .none, .none] }) (s.heap.objs.size + 1) s.heap.objs.size 0 .none := by
    have := Heap.get?_push_size (s.heap.push { cls := .type "tuple_iterator", data := .fields #[.ref l, .int 0 0] })
      (o := { cls := .type "enumerate", data := .fields #[.none, .bool false, .ref s.heap.objs.size, rawInt 0, .none, .none] }) rfl
    rw [hz] at this; exact this
  refine ⟨⟨_, he, rfl⟩, h _ he ⟨_, Heap.get?_push_of_some _ (Heap.get?_push_size _ rfl), rfl, rfl⟩ (by rw [Heap.size_push, hz]) fun b o x => Heap.get?_push_of_some _ (Heap.get?_push_of_some _ x)⟩
def IteT (K : PySem.W.Frag) (a : Addr) : It :=
  ⟨fun i H => ∃ (xs : List V) (x : V), SqT K H a xs ∧ xs[i]? = some x, fun i H v H' => ∃ T x, v = .ref T ∧ H T = none ∧ H' = upd H T (.tup [.int (i : Nat), x]) ∧ ∀ xs, SqT K H a xs → xs[i]? = some x, fun i H => ∃ xs : List V, SqT K H a xs ∧ i = xs.length⟩
omit [PgW] in
theorem turn_enumT {P : Program} {w : World} {K : PySem.W.Frag} {elts : List Expr} {kk : Nat} {tpos : Pos} (a e it : Addr) (hae : a ≠ it) (hae2 : a ≠ e) :
    Turn P w K (.Tuple elts kk tpos) (IteT K a) [e, it] e (fun i h => (∃ old, IsEnum h e it ((i : Nat) : Int) old) ∧ h.IsTupleIter it a i ∧ e ≠ it) where
  mem := by simp
  obj := fun i h st b hb => by
    obtain ⟨⟨old, he⟩, ⟨o, ho, hc, hd⟩, _⟩ := st
    have e' : b = e ∨ b = it := by simpa using hb
    rcases e' with z | z
    · rw [z]; exact ⟨_, he, fun v q => nomatch q⟩
    · rw [z]; exact ⟨o, ho, fun v q => by rw [hd] at q; cases q⟩
  keep := fun i h h' st k => let ⟨⟨old, he⟩, hi, hne⟩ := st; ⟨⟨old, k e (by simp) _ he⟩, hi.at fun o q => k it (by simp) o q, hne⟩
  item := by
    intro X hP hw hK hc i pins s σ H E I hf st hg
    subst hP hw hK
    obtain ⟨⟨old, he⟩, hit, hne⟩ := st
    obtain ⟨xs, x, hq, hx⟩ := hg
    obtain ⟨its, rv, p, hz⟩ := I.tuple hq
    obtain ⟨u, hu, ru⟩ := rv.get hx
    have hel : e < s.heap.objs.size := Heap.lt_size he
    have hil : it < s.heap.objs.size := by obtain ⟨_, q, _⟩ := hit; exact Heap.lt_size q
    have hlt : i < its.toArray.size := by
      have := (List.getElem?_eq_some_iff.mp hu).1
      simpa using this
    refine wpAny_pyNext_enum_itemD (Draws.tuple (prog := X.prog) (w := X.w) (A := X.A.in1) (I.ok.hd hc) it a hae its.toArray) he ⟨hit, p⟩ hlt hne (by simp [hne, Ne.symm hae2]) fun y h' tk hy ho hst' hT hsz hk => ?_
    obtain ⟨hit', _⟩ := hst'
    have ey : y = u := by
      have : its.toArray[i]? = some u := by simpa using hu
      rw [this] at hy
      exact (Option.some.inj hy).symm
    subst ey
    refine ⟨_, rfl, wpAny_letOwnedTupleGo_enum (s := { s with heap := h', toks := tk + 1 }) ho fun h'' he' sb => ?_⟩
    have hT2 : h''.get? s.heap.objs.size = some { cls := .type "tuple", data := .seq #[.int i tk, y] } := (sb.2 _ (Nat.ne_of_gt hel)).trans hT
    have new : ObjOk X.prog X.w (upd H s.heap.objs.size (.tup [.int (i : Nat), x])) h'' s.heap.objs.size (.tup [.int (i : Nat), x]) :=
      ⟨by show 2 ≤ sizeLine; decide, [.int i tk, y], .cons ⟨_, rfl⟩ (.cons ru .nil), ⟨_, hT2, rfl, _, rfl⟩⟩
    have I1 : Inv X pins σ (upd H s.heap.objs.size (.tup [.int (i : Nat), x])) { s with heap := h'', toks := tk + 1 } :=
      I.turnedNew (ch := [e, it]) (fun b ob hb q => (sb.2 b (fun z => hb (by simp [z]))).trans (hk b ob (fun z => hb (by simp [z])) (fun z => hb (by simp [z])) q)) hf (Nat.le_refl _) new
    refine ⟨.ref s.heap.objs.size, _, I1, rfl, ⟨_, x, rfl, I.hok.fresh (Nat.le_refl _), rfl, fun ys hy => by rw [I.tuple_inj hy hq]; exact hx⟩, ⟨⟨y, ?_⟩, hit'.at fun o q => (sb.2 it (Ne.symm hne)).trans q, hne⟩, fun b hb => ?_⟩
    · have e1 : ((i + 1 : Nat) : Int) = (i : Int) + 1 := by omega
      rw [e1]; exact he'
    · have hb' : b < s.heap.objs.size := by
        have e' : b = e ∨ b = it := by simpa using hb
        rcases e' with z | z
        · rw [z]; exact hel
        · rw [z]; exact hil
      rw [upd_ne (Nat.ne_of_lt hb')]
      exact (hf b hb).1
  done := by
    intro X hP hw hK hc i pins s σ H E I hf st hg
    subst hP hw hK
    obtain ⟨⟨old, he⟩, hit, hne⟩ := st
    obtain ⟨xs, hq, hx⟩ := hg
    obtain ⟨its, rv, p, hz⟩ := I.tuple hq
    obtain ⟨f0, f1, f2, f3, f4, f5⟩ := hf it (by simp)
    have hl := rv.length
    have hi : i = its.toArray.size := by simp; omega
    subst hi
    exact wpAny_pyNext_enum_endD (Draws.tuple (prog := X.prog) (w := X.w) (A := X.A.in1) (I.ok.hd hc) it a hae its.toArray) he ⟨hit, p⟩ fun h' eb => ⟨rfl, I.turned (t' := s.toks) (fun b o hb q => eb b o hb q) f0 f1 f3 f4 f5⟩
  self := fun A i s Q E st h => let ⟨⟨_, he⟩, _⟩ := st; wpAny_pyIter_enum he h
/-- enumerate(e), a list or a tuple -/
def iEnumZ (K : PySem.W.Frag) (ta : TA) : TI := fun σ H R => ta σ H fun vs H1 => ∃ a xs, vs = [.ref a] ∧ ((SqL K H1 a xs ∧ R (Ite K a) H1) ∨ (SqT K H1 a xs ∧ R (IteT K a) H1))
omit [PgW] in
theorem pi_enumZ {X : Cx} {e : Expr} {ta : TA} {p pos tpos : Pos} {elts : List Expr} {kk : Nat} (hg : Gl X "enumerate") (hm : X.mg "enumerate" = none) (ha : PA X [e] ta) (hs : starEach [e] X.env = [(false, eval e X.env)] := by rfl) :
    PI X (.Tuple elts kk tpos) (.Call (.Name "enumerate" p) [e] [] pos) (iEnumZ X.K ta) := by
  refine ⟨fun pins s σ H R I h => ?_⟩
  refine Call_ (ld_blt I hg hm boot_enumerate (PyProof.Rows.callWith_type1 (thn (ha.run pos pins s σ H _ I h) fun us s1 ⟨vs, H1, I1, r1, q1⟩ => ?_) hs rfl))
  obtain ⟨a, xs, ex, q⟩ := q1
  subst ex
  have two : ∀ b, b ∈ [s1.heap.objs.size + 1, s1.heap.objs.size] → FpOk X pins H1 b := fun b hb => by
    have e' : b = s1.heap.objs.size + 1 ∨ b = s1.heap.objs.size := by simpa using hb
    have hle : s1.heap.objs.size ≤ b := by
      rcases e' with z | z
      · rw [z]; exact Nat.le_add_right _ _
      · rw [z]; exact Nat.le_refl _
    exact I1.fpOk hle (I1.hok.fresh hle)
  cases r1 with
  | cons r rr =>
    cases rr
    cases r
    rcases q with ⟨hq, q⟩ | ⟨hq, q⟩
    · obtain ⟨its, rv, p', hz⟩ := I1.list hq
      refine call_enumerate_list p'.isList fun h' he hit hsz hk => wpAny_pyIter_enum he ?_
      have I2 : Inv X pins σ H1 { s1 with heap := h' } := I1.kept (t' := s1.toks) hk
      exact ⟨s1.heap.objs.size + 1, [s1.heap.objs.size + 1, s1.heap.objs.size], _, _, H1, rfl, I2, turn_enum a (s1.heap.objs.size + 1) s1.heap.objs.size, ⟨⟨.none, he⟩, hit, Nat.succ_ne_self _⟩, two, q⟩
    · obtain ⟨its, rv, p', hz⟩ := I1.tuple hq
      have la : a < s1.heap.objs.size := by obtain ⟨o, ho, _⟩ := id p'; exact Heap.lt_size ho
      refine call_enumerate_tuple (show s1.heap.IsTuple a its.toArray from p') fun h' he hit hsz hk => wpAny_pyIter_enum he ?_
      have I2 : Inv X pins σ H1 { s1 with heap := h' } := I1.kept (t' := s1.toks) hk
      exact ⟨s1.heap.objs.size + 1, [s1.heap.objs.size + 1, s1.heap.objs.size], _, _, H1, rfl, I2, turn_enumT a (s1.heap.objs.size + 1) s1.heap.objs.size (Nat.ne_of_lt la) (Nat.ne_of_lt (Nat.lt_succ_of_lt la)), ⟨⟨.none, he⟩, hit, Nat.succ_ne_self _⟩, two, q⟩
/-- a list or a tuple -/
def iSeq (K : PySem.W.Frag) (tl : TE) : TI := fun σ H R => tl σ H fun x H1 => ∃ a xs, x = .ref a ∧ ((SqL K H1 a xs ∧ R (Itl K a) H1) ∨ (SqT K H1 a xs ∧ R (Itt K a) H1))
omit [PgW] in
theorem pi_seq {X : Cx} {tg l : Expr} {tl : TE} (hl : PE X l tl) : PI X tg l (iSeq X.K tl) := by
  refine ⟨fun pins s σ H R I h => ?_⟩
  refine thn (hl.run pins s σ H _ I h) fun v s1 ⟨x, H1, I1, r1, q1⟩ => ?_
  obtain ⟨a, xs, e, q⟩ := q1
  subst e
  cases r1
  have one : ∀ b, b ∈ [s1.heap.objs.size] → FpOk X pins H1 b := fun b hb => by
    have e : b = s1.heap.objs.size := by simpa using hb
    subst e
    exact I1.fpOk (Nat.le_refl _) (I1.hok.fresh (Nat.le_refl _))
  rcases q with ⟨hq, q⟩ | ⟨hq, q⟩
  · obtain ⟨its, rv, p, hz⟩ := I1.list hq
    refine wpAny_pyIter_list p.isList ?_
    exact ⟨s1.heap.objs.size, [s1.heap.objs.size], _, _, H1, rfl, I1.kept (t' := s1.toks) fun b o e => Heap.get?_push_of_some _ e, turn_list a _, ⟨_, Heap.get?_push_size _ rfl, rfl, rfl⟩, one, q⟩
  · obtain ⟨its, rv, p, hz⟩ := I1.tuple hq
    refine wpAny_pyIter_tuple (show s1.heap.IsTuple a its.toArray from p) ?_
    exact ⟨s1.heap.objs.size, [s1.heap.objs.size], _, _, H1, rfl, I1.kept (t' := s1.toks) fun b o e => Heap.get?_push_of_some _ e, turn_tuple a _, ⟨_, Heap.get?_push_size _ rfl, rfl, rfl⟩, one, q⟩

/-! ### walks upon trees -/
structure Walk (K : PySem.W.Frag) (J : It) (G : Hp) (ds : List D) : Prop where
  go : ∀ (H : Hp) (i : Nat), (∀ a o, G a = some o → H a = some o) → i < ds.length → J.go i H
  yl : ∀ (H : Hp) (i : Nat) (x : V) (H' : Hp) (d : D), (∀ a o, G a = some o → H a = some o) → ds[i]? = some d → J.yld i H x H' →
    (H' = H ∧ Dp K G x d) ∨ ∃ T o, H T = none ∧ H' = upd H T o ∧ ∀ G', (∀ a o, G a = some o → G' a = some o) → G' T = some o → Dp K G' x d
  st : ∀ (H : Hp), (∀ a o, G a = some o → H a = some o) → J.stop ds.length H
theorem Walk.mono {K : PySem.W.Frag} {J : It} {G G' : Hp} {ds : List D} (w : Walk K J G ds) (h : ∀ a o, G a = some o → G' a = some o) : Walk K J G' ds where
  go := fun H i e l => w.go H i (fun a o z => e a o (h a o z)) l
  yl := fun H i x H' d e l y => by
    rcases w.yl H i x H' d (fun a o z => e a o (h a o z)) l y with ⟨e1, e2⟩ | ⟨T, o, e1, e2, e3⟩
    · exact .inl ⟨e1, dp_mono h e2⟩
    · exact .inr ⟨T, o, e1, e2, fun G2 hg ht => e3 G2 (fun a o z => hg a o (h a o z)) ht⟩
  st := fun H e => w.st H fun a o z => e a o (h a o z)
abbrev rW (K : PySem.W.Frag) : RR It (List D) := fun _ _ _ _ G J ds => Walk K J G ds
def IX (X : Cx) (P : Pm) (O : Own) (tg iter : Expr) (T : Rho → Out Rho (List D)) : Prop := PI X tg iter (tX X P O (rW X.K) T)
section
variable {X : Cx} {P : Pm} {O : Own}
omit [PgW] in
theorem pi_mono {tg e : Expr} {t t' : TI} (h : PI X tg e t) (m : ∀ σ H Q, t' σ H Q → t σ H Q) : PI X tg e t' := ⟨fun pins s σ H Q I q => h.run pins s σ H Q I (m σ H Q q)⟩
theorem walk_list {K : PySem.W.Frag} {G : Hp} {a : Addr} {xs : List V} {ds : List D} (q : SqL K G a xs) (p : DpAll K G xs ds) : Walk K (Itl K a) G ds where
  go := fun H i e l => ⟨xs, xs[i]'(by rw [DpAll.len p]; exact l), sqL_mono e q, by simp⟩
  yl := fun H i x H' d e l ⟨h1, h2⟩ => by
    obtain ⟨v, hv, hd⟩ := DpAll.get' p l
    have z := h2 xs (sqL_mono e q)
    rw [hv] at z
    exact .inl ⟨h1, Option.some.inj z ▸ hd⟩
  st := fun H e => ⟨xs, sqL_mono e q, by rw [DpAll.len p]; exact Nat.le_refl _⟩
theorem walk_tup {K : PySem.W.Frag} {G : Hp} {a : Addr} {xs : List V} {ds : List D} (q : SqT K G a xs) (p : DpAll K G xs ds) : Walk K (Itt K a) G ds where
  go := fun H i e l => ⟨xs, xs[i]'(by rw [DpAll.len p]; exact l), sqT_mono e q, by simp⟩
  yl := fun H i x H' d e l ⟨h1, h2⟩ => by
    obtain ⟨v, hv, hd⟩ := DpAll.get' p l
    have z := h2 xs (sqT_mono e q)
    rw [hv] at z
    exact .inl ⟨h1, Option.some.inj z ▸ hd⟩
  st := fun H e => ⟨xs, sqT_mono e q, by rw [DpAll.len p]; exact Nat.le_refl _⟩
/-- over a list or a tuple -/
def seqT (T : Rho → Out Rho D) : Rho → Out Rho (List D) := fun ρ => (T ρ).bind fun d ρ1 => .of (itemsD d) ρ1
theorem ix_seqZ {tg e : Expr} {T : Rho → Out Rho D} (h : EX X P O e T) : IX X P O tg e (seqT T) := by
  refine pi_mono (pi_seq h) fun σ H Q ⟨ρ, G, F, rr, h⟩ => ?_
  refine tX_bind' (R := rE X.K) rr h fun x H1 d ρ1 G1 r1 e1 p1 h1 => ?_
  cases z : itemsD d with
  | none => rw [z] at h1; exact h1.elim
  | some ds =>
    rw [z] at h1
    cases p1 with
    | lst q p => cases z; exact ⟨_, _, rfl, .inl ⟨sqL_mono r1.gr q, h1 _ H1 G1 r1 (Ext.refl _ _) (walk_list q p)⟩⟩
    | tup q p => cases z; exact ⟨_, _, rfl, .inr ⟨sqT_mono r1.gr q, h1 _ H1 G1 r1 (Ext.refl _ _) (walk_tup q p)⟩⟩
    | _ => cases z
/-- ranges -/
def rng (lo hi : Int) : List D := (List.range (hi - lo).toNat).map fun (i : Nat) => .int (lo + (i : Int))
omit [PgW] in
theorem rng_len (lo hi : Int) : (rng lo hi).length = (hi - lo).toNat := by simp [rng]
omit [PgW] in
theorem rng_get (lo hi : Int) (i : Nat) : (rng lo hi)[i]? = if i < (hi - lo).toNat then some (.int (lo + (i : Int))) else none := by
  unfold rng
  rw [List.getElem?_map]
  by_cases h : i < (hi - lo).toNat
  · rw [if_pos h, List.getElem?_range h] <;> rfl
  · rw [if_neg h, List.getElem?_eq_none (by simpa using h)] <;> rfl
theorem walk_rng {K : PySem.W.Frag} {G : Hp} (lo hi : Int) : Walk K (Itr lo (hi - lo).toNat) G (rng lo hi) where
  go := fun H i e l => by rw [rng_len] at l; exact l
  yl := fun H i x H' d e l ⟨h1, h2⟩ => by
    rw [rng_get] at l
    split at l
    · cases l
      subst h2
      exact .inl ⟨h1, .int _⟩
    · cases l
  st := fun H e => by rw [rng_len]; exact Nat.le_refl _
/-- told by natural numbers, so that the kernel does not reckon -/
def okR (i j : Int) : Bool := decide (i.natAbs < 2 ^ 62 ∧ j.natAbs < 2 ^ 62)
omit [PgW] in
theorem okR_of {i j : Int} (h : okR i j = true) : -(2 ^ 62) ≤ i ∧ i < 2 ^ 62 ∧ -(2 ^ 62) ≤ j ∧ j < 2 ^ 62 := by
  unfold okR at h
  have := of_decide_eq_true h
  omega
def rng1D : List D → Option (List D)
  | [.int j] => if okR 0 j = true then some (rng 0 j) else none
  | _ => none
def rng2D : List D → Option (List D)
  | [.int i, .int j] => if okR i j = true then some (rng i j) else none
  | _ => none
def rngT (g : List D → Option (List D)) (Ta : Rho → Out Rho (List D)) : Rho → Out Rho (List D) := fun ρ => (Ta ρ).bind fun ds ρ1 => .of (g ds) ρ1
theorem ix_rng1 {tg a : Expr} {T : Rho → Out Rho (List D)} {p pos : Pos} (hm : X.mg "range" = none) (ha : AX X P O [a] T) (hg : Gl X "range" := by rfl) (hs : starEach [a] X.env = [(false, eval a X.env)] := by rfl) : IX X P O tg (.Call (.Name "range" p) [a] [] pos) (rngT rng1D T) := by
  refine pi_mono (pi_range1 hg hm ha hs) fun σ H Q ⟨ρ, G, F, rr, h⟩ => ?_
  refine tX_bind' (R := rA X.K) rr h fun vs H1 ds ρ1 G1 r1 e1 p1 h1 => ?_
  cases z : rng1D ds with
  | none => rw [z] at h1; exact h1.elim
  | some es =>
    rw [z] at h1
    unfold rng1D at z
    split at z
    · split at z
      · rename_i j hk
        cases z
        obtain ⟨x, rfl, hx⟩ := dpAll1 p1
        cases hx
        obtain ⟨_, _, k1, k2⟩ := okR_of hk
        refine ⟨_, rfl, k1, k2, ?_⟩
        have w := walk_rng (K := X.K) (G := G1) 0 j
        rw [Int.sub_zero] at w
        exact h1 _ H1 G1 r1 (Ext.refl _ _) w
      · cases z
    · cases z
theorem ix_rng2 {tg a b : Expr} {T : Rho → Out Rho (List D)} {p pos : Pos} (hm : X.mg "range" = none) (ha : AX X P O [a, b] T) (hg : Gl X "range" := by rfl) (hs : starEach [a, b] X.env = [(false, eval a X.env), (false, eval b X.env)] := by rfl) (hs2 : starEach [b] X.env = [(false, eval b X.env)] := by rfl) : IX X P O tg (.Call (.Name "range" p) [a, b] [] pos) (rngT rng2D T) := by
  refine pi_mono (pi_range2 hg hm ha hs hs2) fun σ H Q ⟨ρ, G, F, rr, h⟩ => ?_
  refine tX_bind' (R := rA X.K) rr h fun vs H1 ds ρ1 G1 r1 e1 p1 h1 => ?_
  cases z : rng2D ds with
  | none => rw [z] at h1; exact h1.elim
  | some es =>
    rw [z] at h1
    unfold rng2D at z
    split at z
    · split at z
      · rename_i i j hk
        cases z
        obtain ⟨x, y, rfl, hx, hy⟩ := dpAll2 p1
        cases hx
        cases hy
        exact ⟨_, _, rfl, okR_of hk, h1 _ H1 G1 r1 (Ext.refl _ _) (walk_rng i j)⟩
      · cases z
    · cases z
/-- enumerate -/
def enumFrom (k : Nat) : List D → List D
  | [] => []
  | d :: ds => .tuple [.int (k : Int), d] :: enumFrom (k + 1) ds
omit [PgW] in
theorem enumFrom_len : ∀ (ds : List D) (k : Nat), (enumFrom k ds).length = ds.length
  | [], _ => rfl
  | _ :: ds, k => by simp [enumFrom, enumFrom_len ds]
omit [PgW] in
theorem enumFrom_get : ∀ (ds : List D) (k i : Nat), (enumFrom k ds)[i]? = (ds[i]?).map fun d => .tuple [.int ((k + i : Nat) : Int), d]
  | [], _, _ => by simp [enumFrom]
  | d :: ds, k, 0 => by simp [enumFrom]
  | d :: ds, k, i + 1 => by
    simp only [enumFrom, List.getElem?_cons_succ]
    rw [enumFrom_get ds (k + 1) i]
    have e : k + 1 + i = k + (i + 1) := by omega
    rw [e]
def enumD : List D → Option (List D)
  | [d] => (itemsD d).map (enumFrom 0)
  | _ => none
theorem dp_pair {K : PySem.W.Frag} {G G' : Hp} {T : Addr} {x y : V} {d e : D} (h : ∀ a o, G a = some o → G' a = some o) (hT : G' T = some (.tup [x, y])) (hx : Dp K G x d) (hy : Dp K G y e) : Dp K G' (.ref T) (.tuple [d, e]) :=
  .tup (SqT.of hT) (.cons (dp_mono h hx) (.cons (dp_mono h hy) .nil))
theorem walk_enumL {K : PySem.W.Frag} {G : Hp} {a : Addr} {xs : List V} {ds : List D} (q : SqL K G a xs) (p : DpAll K G xs ds) : Walk K (Ite K a) G (enumFrom 0 ds) where
  go := fun H i e l => by
    rw [enumFrom_len] at l
    exact ⟨xs, xs[i]'(by rw [DpAll.len p]; exact l), sqL_mono e q, by simp⟩
  yl := fun H i x H' d e l ⟨T, y, h1, h2, h3, h4⟩ => by
    rw [enumFrom_get] at l
    obtain ⟨d0, hd0, ed⟩ := Option.map_eq_some_iff.mp l
    subst ed h1
    obtain ⟨v, hv, hd⟩ := DpAll.get' p hd0
    have z := h4 xs (sqL_mono e q)
    rw [hv] at z
    cases z
    refine .inr ⟨T, _, h2, h3, fun G' hg ht => ?_⟩
    have e0 : (0 + i : Nat) = i := by omega
    rw [e0]
    exact dp_pair hg ht (.int _) hd
  st := fun H e => by rw [enumFrom_len]; exact ⟨xs, sqL_mono e q, by rw [DpAll.len p]; exact Nat.le_refl _⟩
theorem walk_enumT {K : PySem.W.Frag} {G : Hp} {a : Addr} {xs : List V} {ds : List D} (q : SqT K G a xs) (p : DpAll K G xs ds) : Walk K (IteT K a) G (enumFrom 0 ds) where
  go := fun H i e l => by
    rw [enumFrom_len] at l
    exact ⟨xs, xs[i]'(by rw [DpAll.len p]; exact l), sqT_mono e q, by simp⟩
  yl := fun H i x H' d e l ⟨T, y, h1, h2, h3, h4⟩ => by
    rw [enumFrom_get] at l
    obtain ⟨d0, hd0, ed⟩ := Option.map_eq_some_iff.mp l
    subst ed h1
    obtain ⟨v, hv, hd⟩ := DpAll.get' p hd0
    have z := h4 xs (sqT_mono e q)
    rw [hv] at z
    cases z
    refine .inr ⟨T, _, h2, h3, fun G' hg ht => ?_⟩
    have e0 : (0 + i : Nat) = i := by omega
    rw [e0]
    exact dp_pair hg ht (.int _) hd
  st := fun H e => by rw [enumFrom_len]; exact ⟨xs, sqT_mono e q, by rw [DpAll.len p]⟩
theorem ix_enum {e : Expr} {T : Rho → Out Rho (List D)} {p pos tpos : Pos} {elts : List Expr} {kk : Nat} (hm : X.mg "enumerate" = none) (ha : AX X P O [e] T) (hg : Gl X "enumerate" := by rfl) (hs : starEach [e] X.env = [(false, eval e X.env)] := by rfl) :
    IX X P O (.Tuple elts kk tpos) (.Call (.Name "enumerate" p) [e] [] pos) (rngT enumD T) := by
  refine pi_mono (pi_enumZ hg hm ha hs) fun σ H Q ⟨ρ, G, F, rr, h⟩ => ?_
  refine tX_bind' (R := rA X.K) rr h fun vs H1 ds ρ1 G1 r1 e1 p1 h1 => ?_
  cases z : enumD ds with
  | none => rw [z] at h1; exact h1.elim
  | some es =>
    rw [z] at h1
    unfold enumD at z
    split at z
    · rename_i d
      obtain ⟨l, hl, e2⟩ := Option.map_eq_some_iff.mp z
      subst e2
      obtain ⟨x, rfl, hx⟩ := dpAll1 p1
      cases hx with
      | lst q p => cases hl; exact ⟨_, _, rfl, .inl ⟨sqL_mono r1.gr q, h1 _ H1 G1 r1 (Ext.refl _ _) (walk_enumL q p)⟩⟩
      | tup q p => cases hl; exact ⟨_, _, rfl, .inr ⟨sqT_mono r1.gr q, h1 _ H1 G1 r1 (Ext.refl _ _) (walk_enumT q p)⟩⟩
      | _ => cases hl
    · cases z
/-- zip of two lists, of two tuples -/
def zipW (xs ys : List D) : List D := (xs.zip ys).map fun p => .tuple [p.1, p.2]
def zipD : List D → Option (List D)
  | [.list xs, .list ys] => some (zipW xs ys)
  | [.tuple xs, .tuple ys] => some (zipW xs ys)
  | _ => none
omit [PgW] in
theorem zipW_get (xs ys : List D) (i : Nat) (d : D) (h : (zipW xs ys)[i]? = some d) : ∃ x y, xs[i]? = some x ∧ ys[i]? = some y ∧ d = .tuple [x, y] := by
  unfold zipW at h
  rw [List.getElem?_map] at h
  obtain ⟨p, hp, e⟩ := Option.map_eq_some_iff.mp h
  obtain ⟨h1, h2⟩ := List.getElem?_zip_eq_some.mp hp
  exact ⟨p.1, p.2, h1, h2, e.symm⟩
omit [PgW] in
theorem zipW_len (xs ys : List D) : (zipW xs ys).length = min xs.length ys.length := by simp [zipW]
theorem walk_zipL {K : PySem.W.Frag} {G : Hp} {a b : Addr} {xs ys : List V} {ds es : List D} (q : SqL K G a xs) (p : DpAll K G xs ds) (q' : SqL K G b ys) (p' : DpAll K G ys es) : Walk K (Itz K a b) G (zipW ds es) where
  go := fun H i e l => by
    rw [zipW_len] at l
    exact ⟨xs, ys, xs[i]'(by rw [DpAll.len p]; omega), ys[i]'(by rw [DpAll.len p']; omega), sqL_mono e q, sqL_mono e q', by simp, by simp⟩
  yl := fun H i x H' d e l ⟨T, u, v, h1, h2, h3, h4, h5⟩ => by
    obtain ⟨d1, d2, g1, g2, ed⟩ := zipW_get _ _ _ _ l
    subst ed h1
    obtain ⟨u', hu, hd1⟩ := DpAll.get' p g1
    obtain ⟨v', hv, hd2⟩ := DpAll.get' p' g2
    have z := h4 xs (sqL_mono e q)
    have z' := h5 ys (sqL_mono e q')
    rw [hu] at z
    rw [hv] at z'
    cases z
    cases z'
    exact .inr ⟨T, _, h2, h3, fun G' hg ht => dp_pair hg ht hd1 hd2⟩
  st := fun H e => by
    rw [zipW_len]
    exact ⟨xs, ys, sqL_mono e q, sqL_mono e q', by rw [DpAll.len p, DpAll.len p']; omega⟩
theorem walk_zipT {K : PySem.W.Frag} {G : Hp} {a b : Addr} {xs ys : List V} {ds es : List D} (q : SqT K G a xs) (p : DpAll K G xs ds) (q' : SqT K G b ys) (p' : DpAll K G ys es) : Walk K (RZ.ItzT K a b) G (zipW ds es) where
  go := fun H i e l => by
    rw [zipW_len] at l
    exact ⟨xs, ys, xs[i]'(by rw [DpAll.len p]; omega), ys[i]'(by rw [DpAll.len p']; omega), sqT_mono e q, sqT_mono e q', by simp, by simp⟩
  yl := fun H i x H' d e l ⟨T, u, v, h1, h2, h3, h4, h5⟩ => by
    obtain ⟨d1, d2, g1, g2, ed⟩ := zipW_get _ _ _ _ l
    subst ed h1
    obtain ⟨u', hu, hd1⟩ := DpAll.get' p g1
    obtain ⟨v', hv, hd2⟩ := DpAll.get' p' g2
    have z := h4 xs (sqT_mono e q)
    have z' := h5 ys (sqT_mono e q')
    rw [hu] at z
    rw [hv] at z'
    cases z
    cases z'
    exact .inr ⟨T, _, h2, h3, fun G' hg ht => dp_pair hg ht hd1 hd2⟩
  st := fun H e => by
    rw [zipW_len]
    exact ⟨xs, ys, sqT_mono e q, sqT_mono e q', by rw [DpAll.len p, DpAll.len p']; omega⟩
theorem ix_zip {e e2 : Expr} {T : Rho → Out Rho (List D)} {p pos tpos : Pos} {elts : List Expr} {kk : Nat} (hm : X.mg "zip" = none) (ha : AX X P O [e, e2] T) (hg : Gl X "zip" := by rfl) (hs : starEach [e, e2] X.env = (false, eval e X.env) :: starEach [e2] X.env := by rfl) (hpl : (backTo pos (starEach [e2] X.env)).any (·.1) = false := by rfl) :
    IX X P O (.Tuple elts kk tpos) (.Call (.Name "zip" p) [e, e2] [] pos) (rngT zipD T) := by
  refine pi_mono (RZ.pi_zipA hg hm ha hs hpl) fun σ H Q ⟨ρ, G, F, rr, h⟩ => ?_
  refine tX_bind' (R := rA X.K) rr h fun vs H1 ds ρ1 G1 r1 e1 p1 h1 => ?_
  cases z : zipD ds with
  | none => rw [z] at h1; exact h1.elim
  | some es =>
    rw [z] at h1
    unfold zipD at z
    split at z
    · cases z
      obtain ⟨x, y, rfl, hx, hy⟩ := dpAll2 p1
      cases hx with
      | lst q p =>
        cases hy with
        | lst q' p' => exact ⟨_, _, _, _, rfl, .inl ⟨sqL_mono r1.gr q, sqL_mono r1.gr q', h1 _ H1 G1 r1 (Ext.refl _ _) (walk_zipL q p q' p')⟩⟩
    · cases z
      obtain ⟨x, y, rfl, hx, hy⟩ := dpAll2 p1
      cases hx with
      | tup q p =>
        cases hy with
        | tup q' p' => exact ⟨_, _, _, _, rfl, .inr ⟨sqT_mono r1.gr q, sqT_mono r1.gr q', h1 _ H1 G1 r1 (Ext.refl _ _) (walk_zipT q p q' p')⟩⟩
    · cases z
end
end Z

/-! file ZComp -/
set_option Elab.async false
set_option linter.all false
set_option autoImplicit false
set_option maxRecDepth 100000
set_option maxHeartbeats 4000000
/-! targets and comprehensions -/
namespace Z
open PySem PySem.Spec PyProof.Rows L2
variable [PgW]

/-! ### targets -/
/-- assign d: which slots, what becomes of them -/
def tG (X : Cx) (P : Pm) (O : Own) (g : D → Rho → Option Rho) (is : List Nat) : TG := fun v σ H Q => ∃ ρ G F d ρ', Rel X.K F P.fx O σ H ρ G ∧ Dp X.K G v d ∧ g d ρ = some ρ' ∧
  ∀ σ', (∀ j, j ∉ is → σ'[j]? = σ[j]?) → σ'.length = σ.length → Rel X.K F P.fx O σ' H ρ' G → Q σ' H
def tGs (X : Cx) (P : Pm) (O : Own) (g : List D → Rho → Option Rho) (is : List Nat) : TGs := fun vs σ H Q => ∃ ρ G F ds ρ', Rel X.K F P.fx O σ H ρ G ∧ DpAll X.K G vs ds ∧ g ds ρ = some ρ' ∧
  ∀ σ', (∀ j, j ∉ is → σ'[j]? = σ[j]?) → σ'.length = σ.length → Rel X.K F P.fx O σ' H ρ' G → Q σ' H
def GX (X : Cx) (P : Pm) (O : Own) (tg : Expr) (g : D → Rho → Option Rho) (is : List Nat) : Prop := PG X tg (tG X P O g is)
def GXs (X : Cx) (P : Pm) (O : Own) (tgs : List Expr) (g : List D → Rho → Option Rho) (is : List Nat) : Prop := PGs X tgs (tGs X P O g is)
section
variable {X : Cx} {P : Pm} {O : Own}
omit [PgW] in
theorem pg_mono {e : Expr} {t t' : TG} (h : PG X e t) (m : ∀ v σ H Q, t' v σ H Q → t v σ H Q) : PG X e t' := ⟨fun pins s σ H v u Q I r q => h.run pins s σ H v u Q I r (m v σ H Q q)⟩
omit [PgW] in
theorem pgs_mono {e : List Expr} {t t' : TGs} (h : PGs X e t) (m : ∀ v σ H Q, t' v σ H Q → t v σ H Q) : PGs X e t' := ⟨fun pins s σ H v u Q I r q => h.run pins s σ H v u Q I r (m v σ H Q q)⟩
def setG (i : Nat) : D → Rho → Option Rho := fun d ρ => some (ρ.set i (some d))
def nilG : List D → Rho → Option Rho
  | [], ρ => some ρ
  | _, _ => none
def consG (g : D → Rho → Option Rho) (gs : List D → Rho → Option Rho) : List D → Rho → Option Rho
  | d :: ds, ρ => (g d ρ).bind fun ρ1 => gs ds ρ1
  | [], _ => none
def tupG (n : Nat) (gs : List D → Rho → Option Rho) : D → Rho → Option Rho
  | .tuple ds, ρ => if ds.length = n then gs ds ρ else none
  | .list ds, ρ => if ds.length = n then gs ds ρ else none
  | _, _ => none
theorem gx_name (i : Nat) {x : Str} {pos : Pos} (hN : X.N.Nodup) (hO : ok O i = none := by rfl) (hi : X.N[i]? = some x := by rfl) (hx : Loc X.env.scope x := by first | exact Or.inl rfl | exact Or.inr rfl)
    (hf : X.fn x = true ∨ X.env.scope.names.lookup x = some .local := by first | exact .inl rfl | exact .inr rfl) : GX X P O (.Name x pos) (setG i) [i] := by
  refine pg_mono (pg_name hN hi hx hf) fun v σ H Q ⟨ρ, G, F, d, ρ', r, hd, e, q⟩ => ?_
  cases e
  refine q _ (fun j hj => ?_) (by rw [List.length_set]) (r.set hO hd)
  exact List.getElem?_set_ne (fun z => hj (by simp [z]))
theorem gxs_nil : GXs X P O [] nilG [] := by
  refine pgs_mono pgs_nil fun vs σ H Q ⟨ρ, G, F, ds, ρ', r, hd, e, q⟩ => ?_
  cases ds with
  | nil =>
    cases e
    cases hd
    exact ⟨rfl, q σ (fun _ _ => rfl) rfl r⟩
  | cons => cases e
theorem gxs_cons {e : Expr} {es : List Expr} {g : D → Rho → Option Rho} {gs : List D → Rho → Option Rho} {is js : List Nat} (h1 : GX X P O e g is) (h2 : GXs X P O es gs js)
    (hs : (assignEach (e :: es) X.env).map (·.2) = assign e X.env :: (assignEach es X.env).map (·.2) := by rfl) : GXs X P O (e :: es) (consG g gs) (is ++ js) := by
  refine pgs_mono (pgs_cons h1 h2 hs) fun vs σ H Q ⟨ρ, G, F, ds, ρ', r, hd, ee, q⟩ => ?_
  cases hd with
  | nil => cases ee
  | cons a b =>
    obtain ⟨ρ1, h3, h4⟩ := Option.bind_eq_some_iff.mp ee
    refine ⟨_, _, rfl, ρ, G, F, _, ρ1, r, a, h3, fun σ' k l r' => ?_⟩
    refine ⟨ρ1, G, F, _, ρ', r', b, h4, fun σ2 k2 l2 r2 => ?_⟩
    exact q σ2 (fun j hj => by
      rw [k2 j (fun z => hj (List.mem_append_right _ z)), k j (fun z => hj (List.mem_append_left _ z))]) (l2.trans l) r2
omit [PgW] in
theorem pg_or {e : Expr} {t t' : TG} (h : PG X e t) (h' : PG X e t') : PG X e (fun v σ H Q => t v σ H Q ∨ t' v σ H Q) :=
  ⟨fun pins s σ H v u Q I r hw => hw.elim (h.run pins s σ H v u Q I r) (h'.run pins s σ H v u Q I r)⟩
theorem gx_tup {es : List Expr} {k n : Nat} {pos : Pos} {gs : List D → Rho → Option Rho} {is : List Nat} (hc : X.calm = true) (h : GXs X P O es gs is) (hn : (assignEach es X.env).length = n := by rfl) (hst : (assignEach es X.env).findIdx? (·.1) = none := by rfl) :
    GX X P O (.Tuple es k pos) (tupG n gs) is := by
  refine pg_mono (pg_or (pg_tup hc h hn hst) (pg_unl hc h hn hst)) fun v σ H Q ⟨ρ, G, F, d, ρ', r, hd, e, q⟩ => ?_
  cases hd with
  | tup a b =>
    unfold tupG at e
    dsimp only at e
    split at e
    · rename_i hl
      exact .inl ⟨_, _, rfl, sqT_mono r.gr a, by rw [DpAll.len b]; exact hl, ρ, G, F, _, ρ', r, b, e, q⟩
    · cases e
  | lst a b =>
    unfold tupG at e
    dsimp only at e
    split at e
    · rename_i hl
      exact .inr ⟨_, _, rfl, sqL_mono r.gr a, by rw [DpAll.len b]; exact hl, ρ, G, F, _, ρ', r, b, e, q⟩
    · cases e
  | _ => cases e
end

/-! ### comprehensions -/
def wipeR (ρ : Rho) : List Nat → Rho
  | [] => ρ
  | v :: vs => (wipeR ρ vs).set v none
def putBack (ρ0 : Rho) (ρ : Rho) : List Nat → Rho
  | [] => ρ
  | v :: vs => (putBack ρ0 ρ vs).set v ((ρ0[v]?).join)
omit [PgW] in
theorem wipeR_len (ρ : Rho) : ∀ vs, (wipeR ρ vs).length = ρ.length
  | [] => rfl
  | v :: vs => by unfold wipeR; rw [List.length_set, wipeR_len ρ vs]
omit [PgW] in
theorem putBack_len (ρ0 ρ : Rho) : ∀ vs, (putBack ρ0 ρ vs).length = ρ.length
  | [] => rfl
  | v :: vs => by unfold putBack; rw [List.length_set, putBack_len ρ0 ρ vs]
omit [PgW] in
theorem wipeR_get {ρ : Rho} {i : Nat} {d : D} : ∀ {vs : List Nat}, (wipeR ρ vs)[i]? = some (some d) → ρ[i]? = some (some d) ∧ i ∉ vs
  | [], h => ⟨h, by simp⟩
  | v :: vs, h => by
    unfold wipeR at h
    by_cases hi : v = i
    · subst hi
      by_cases hv : v < (wipeR ρ vs).length
      · rw [List.getElem?_set_self hv] at h; cases h
      · rw [List.getElem?_eq_none (by simpa using hv)] at h; cases h
    · rw [List.getElem?_set_ne hi] at h
      obtain ⟨a, b⟩ := wipeR_get h
      exact ⟨a, by simp [b, Ne.symm hi]⟩
omit [PgW] in
theorem wipe_get {σ : L2.St} {i : Nat} : ∀ {vs : List Nat}, i ∉ vs → (wipe σ vs)[i]? = σ[i]?
  | [], _ => rfl
  | v :: vs, h => by
    unfold wipe
    have h1 : v ≠ i := fun z => h (by simp [z])
    have h2 : i ∉ vs := fun z => h (by simp [z])
    rw [List.getElem?_set_ne h1, wipe_get h2]
omit [PgW] in
theorem wipeR_get' {ρ : Rho} {i : Nat} : ∀ {vs : List Nat}, i ∉ vs → (wipeR ρ vs)[i]? = ρ[i]?
  | [], _ => rfl
  | v :: vs, h => by
    unfold wipeR
    have h1 : v ≠ i := fun z => h (by simp [z])
    have h2 : i ∉ vs := fun z => h (by simp [z])
    rw [List.getElem?_set_ne h1, wipeR_get' h2]
omit [PgW] in
theorem putBack_out {ρ0 ρ : Rho} {i : Nat} : ∀ {vs : List Nat}, i ∉ vs → (putBack ρ0 ρ vs)[i]? = ρ[i]?
  | [], _ => rfl
  | v :: vs, h => by
    unfold putBack
    have h1 : v ≠ i := fun z => h (by simp [z])
    have h2 : i ∉ vs := fun z => h (by simp [z])
    rw [List.getElem?_set_ne h1, putBack_out h2]
omit [PgW] in
theorem putBack_in {ρ0 ρ : Rho} {i : Nat} {d : D} : ∀ {vs : List Nat}, i ∈ vs → (putBack ρ0 ρ vs)[i]? = some (some d) → ρ0[i]? = some (some d)
  | v :: vs, hi, h => by
    unfold putBack at h
    by_cases z : v = i
    · subst z
      by_cases hv : v < (putBack ρ0 ρ vs).length
      · rw [List.getElem?_set_self hv] at h
        have h' : (ρ0[v]?).join = some d := Option.some.inj h
        cases e : ρ0[v]? with
        | none => rw [e] at h'; cases h'
        | some u => rw [e] at h'; exact congrArg some h'
      · rw [List.getElem?_eq_none (by simpa using hv)] at h; cases h
    · rw [List.getElem?_set_ne z] at h
      have hi' : i ∈ vs := by
        rcases List.mem_cons.mp hi with e | e
        · exact absurd e.symm z
        · exact e
      exact putBack_in hi' h
omit [PgW] in
/-- wipe depends on the slots that stay alone -/
theorem wipe_ext {σ τ : L2.St} {vs : List Nat} (hl : τ.length = σ.length) (h : ∀ j, j ∉ vs → τ[j]? = σ[j]?) : wipe τ vs = wipe σ vs := by
  apply List.ext_getElem?
  intro j
  by_cases hj : j ∈ vs
  · have none_at : ∀ (σ : L2.St) (vs : List Nat), j ∈ vs → (wipe σ vs)[j]? = if j < σ.length then some none else none := by
      intro σ vs
      induction vs with
      | nil => intro h; cases h
      | cons v vs ih =>
        intro hm
        unfold wipe
        by_cases z : v = j
        · subst z
          by_cases hv : v < σ.length
          · rw [List.getElem?_set_self (by rw [wipe_length]; exact hv), if_pos hv]
          · rw [if_neg hv, List.getElem?_eq_none (by rw [List.length_set, wipe_length]; omega)]
        · rw [List.getElem?_set_ne z]
          have hm' : j ∈ vs := by
            rcases List.mem_cons.mp hm with e | e
            · exact absurd e.symm z
            · exact e
          exact ih hm'
    rw [none_at τ vs hj, none_at σ vs hj, hl]
  · rw [wipe_get hj, wipe_get hj, h j hj]

def Out.bindN {r α β : Type} (o : Out r α) (k : α → r → Out r β) : Out r β := match o with
  | .ok a s => k a s
  | .exc _ _ _ => .bad
  | .bad => .bad
omit [PgW] in
@[simp] theorem bindN_ok {r α β : Type} (a : α) (s : r) (k : α → r → Out r β) : (Out.ok a s).bindN k = k a s := rfl
omit [PgW] in
@[simp] theorem bindN_exc {r α β : Type} (c : Str) (fs : List (Str × D)) (s : r) (k : α → r → Out r β) : (Out.exc c fs s).bindN k = .bad := rfl
omit [PgW] in
@[simp] theorem bindN_bad {r α β : Type} (k : α → r → Out r β) : (Out.bad : Out r α).bindN k = .bad := rfl
/-- the turns of a comprehension -/
def lcLoop (vs : List Nat) (g : D → Rho → Option Rho) (tt : Rho → Out Rho Bool) (te : Rho → Out Rho D) : List D → List D → Rho → Out Rho (List D)
  | [], acc, ρ => .ok acc ρ
  | d :: ds, acc, ρ => match g d (wipeR ρ vs) with
    | none => .bad
    | some ρ1 => (tt ρ1).bindN fun b ρ2 => if b = true then (te ρ2).bindN fun y ρ3 => if acc.length < sizeLine then lcLoop vs g tt te ds (acc ++ [y]) ρ3 else .bad else lcLoop vs g tt te ds acc ρ2
def lcT (vs : List Nat) (Ti : Rho → Out Rho (List D)) (g : D → Rho → Option Rho) (tt : Rho → Out Rho Bool) (te : Rho → Out Rho D) : Rho → Out Rho D := fun ρ => (Ti ρ).bind fun ds ρ1 => (lcLoop vs g tt te ds [] ρ1).bindN fun l ρ2 => .ok (.list l) (putBack ρ1 ρ2 vs)
def Pm.quiet (P : Pm) : Pm := ⟨P.fx, fun _ _ _ _ => False⟩
def TXs (X : Cx) (P : Pm) (O : Own) (es : List Expr) (T : Rho → Out Rho Bool) : Prop := PTs X es (tX X P O rT T)
def yesT : Rho → Out Rho Bool := fun ρ => .ok true ρ
section
variable {X : Cx} {P : Pm} {O : Own}
omit [PgW] in
theorem pts_mono {es : List Expr} {t t' : TT} (h : PTs X es t) (m : ∀ σ H Q, t' σ H Q → t σ H Q) : PTs X es t' := ⟨fun pins s σ H Q I q => h.run pins s σ H Q I (m σ H Q q)⟩
theorem txs_nil : TXs X P O [] yesT := pts_mono pts_nil fun σ H Q ⟨ρ, G, F, r, h⟩ => h true H G r (Ext.refl _ _) rfl
theorem txs_one {e : Expr} {T : Rho → Out Rho Bool} (h : TX X P O e T) : TXs X P O [e] T := pts_one h
omit [PgW] in
theorem Ext.frame {F F' G G' : Hp} (h : ∀ a, F' a ≠ none → F a ≠ none) (e : Ext F G G') : Ext F' G G' := ⟨e.1, fun a n => e.2 a (h a n)⟩
theorem Rel.wiped {K : PySem.W.Frag} {F H G : Hp} {fx : List (Nat × Addr)} {σ : L2.St} {ρ : Rho} (r : Rel K F fx O σ H ρ G) {vs : List Nat} (hO : ∀ i ∈ vs, ok O i = none) : Rel K F fx O (wipe σ vs) H (wipeR ρ vs) G where
  fr := r.fr
  gr := r.gr
  sh := fun i d e n => by
    obtain ⟨e1, e2⟩ := wipeR_get e
    obtain ⟨v, q, p⟩ := r.sh i d e1 n
    exact ⟨v, by rw [wipe_get e2]; exact q, p⟩
  ow := fun i d k e n => by
    obtain ⟨e1, e2⟩ := wipeR_get e
    obtain ⟨a, q, p⟩ := r.ow i d k e1 n
    exact ⟨a, by rw [wipe_get e2]; exact q, p⟩
  dj := fun i j d e k l a h1 h2 n1 n2 s1 s2 => by
    obtain ⟨e1, e2⟩ := wipeR_get h1
    obtain ⟨f1, f2⟩ := wipeR_get h2
    rw [wipe_get e2] at s1
    rw [wipe_get f2] at s2
    exact r.dj i j d e k l a e1 f1 n1 n2 s1 s2
  fx := fun p hp => by
    obtain ⟨⟨k, h1⟩, ⟨d, h2⟩, h3⟩ := r.fx p hp
    have ni : p.1 ∉ vs := fun z => by rw [hO p.1 z] at h1; cases h1
    exact ⟨⟨k, h1⟩, ⟨d, by rw [wipeR_get' ni]; exact h2⟩, by rw [wipe_get ni]; exact h3⟩
  len := by rw [wipeR_len, wipe_length]; exact r.len
/-- back in the def's slots -/
theorem Rel.unwiped {K : PySem.W.Frag} {F H H0 G G0 : Hp} {fx : List (Nat × Addr)} {σ : L2.St} {ρ ρ0 : Rho} {vs : List Nat} {F0 : Hp} (r0 : Rel K F0 fx O σ H0 ρ0 G0) (r : Rel K F fx O (wipe σ vs) H (wipeR ρ vs) G) (e : ∀ a o, G0 a = some o → G a = some o) (hO : ∀ i ∈ vs, ok O i = none) :
    Rel K F fx O σ H (putBack ρ0 ρ vs) G where
  fr := r.fr
  gr := r.gr
  sh := fun i d h n => by
    by_cases hi : i ∈ vs
    · obtain ⟨v, q, p⟩ := r0.sh i d (putBack_in hi h) n
      exact ⟨v, q, dp_mono e p⟩
    · rw [putBack_out hi] at h
      obtain ⟨v, q, p⟩ := r.sh i d (by rw [wipeR_get' hi]; exact h) n
      rw [wipe_get hi] at q
      exact ⟨v, q, p⟩
  ow := fun i d k h n => by
    have hi : i ∉ vs := fun z => by rw [hO i z] at n; cases n
    rw [putBack_out hi] at h
    obtain ⟨a, q, p⟩ := r.ow i d k (by rw [wipeR_get' hi]; exact h) n
    rw [wipe_get hi] at q
    exact ⟨a, q, p⟩
  dj := fun i j d e k l a h1 h2 n1 n2 s1 s2 => by
    have hi : i ∉ vs := fun z => by rw [hO i z] at n1; cases n1
    have hj : j ∉ vs := fun z => by rw [hO j z] at n2; cases n2
    rw [putBack_out hi] at h1
    rw [putBack_out hj] at h2
    exact r.dj i j d e k l a (by rw [wipeR_get' hi]; exact h1) (by rw [wipeR_get' hj]; exact h2) n1 n2 (by rw [wipe_get hi]; exact s1) (by rw [wipe_get hj]; exact s2)
  fx := fun p hp => by
    obtain ⟨⟨k, h1⟩, ⟨d, h2⟩, h3⟩ := r.fx p hp
    have ni : p.1 ∉ vs := fun z => by rw [hO p.1 z] at h1; cases h1
    rw [wipe_get ni] at h3
    rw [wipeR_get' ni] at h2
    exact ⟨⟨k, h1⟩, ⟨d, by rw [putBack_out ni]; exact h2⟩, h3⟩
  len := by
    have l := r.len
    rw [wipeR_len, wipe_length] at l
    rw [putBack_len]
    exact l
omit [PgW] in
theorem upd_sub {F : Hp} {p : Addr} {o : HO} (h : F p = none) : ∀ a u, F a = some u → upd F p o a = some u := fun a u e => by rw [upd_ne (ne_of_none e h)]; exact e
omit [PgW] in
theorem upd_sub' {F : Hp} {p : Addr} {o : HO} : ∀ a, F a ≠ none → upd F p o a ≠ none := fun a n => by
  by_cases z : a = p
  · subst z; rw [upd_same]; exact fun q => nomatch q
  · rw [upd_ne z]; exact n
/-- the object put aside changes -/
theorem Rel.poke {K : PySem.W.Frag} {F H G : Hp} {fx : List (Nat × Addr)} {σ : L2.St} {ρ : Rho} {p : Addr} {o o' : HO} (r : Rel K (upd F p o) fx O σ H ρ G) (hG : G p = none) : Rel K (upd F p o') fx O σ (upd H p o') ρ G where
  fr := fun a u e => by
    by_cases z : a = p
    · subst z; rw [upd_same] at e ⊢; exact e
    · rw [upd_ne z] at e ⊢; exact r.fr a u (by rw [upd_ne z]; exact e)
  gr := fun a u e => by rw [upd_ne (ne_of_none e hG)]; exact r.gr a u e
  sh := r.sh
  ow := fun i d k e n => by
    obtain ⟨a, q, w, f, g⟩ := r.ow i d k e n
    have z : a ≠ p := fun z => by subst z; rw [upd_same] at f; cases f
    exact ⟨a, q, w.mono (fun _ _ x => x) (upd_ne z), by rw [upd_ne z] at f ⊢; exact f, g⟩
  dj := r.dj
  fx := r.fx
  len := r.len
theorem Fin.quiet {α β γ δ : Type} {K : PySem.W.Frag} {mg : Str → Option Value} {σ σ2 : L2.St} {F F2 : Hp} {R : RR β α} {S : RR δ γ} {G : Hp} {o : Out Rho α} {k : α → Rho → Out Rho γ} {Q : δ → Hp → Prop} {Q' : β → Hp → Prop}
    (h : Fin K mg P O σ F S G (o.bindN k) Q) (hF : ∀ a, F a ≠ none → F2 a ≠ none)
    (c : ∀ v H' a ρ' G', Rel K F2 P.fx O σ2 H' ρ' G' → Ext F2 G G' → R F2 σ2 ρ' H' G' v a → Fin K mg P O σ F S G' (k a ρ') Q → Q' v H') : Fin K mg P.quiet O σ2 F2 R G o Q' := by
  cases o with
  | ok a ρ' => exact fun v H' G' r e d => c v H' a ρ' G' r e d (Fin.ext (Ext.frame hF e) h)
  | exc _ _ _ => exact h.elim
  | bad => exact h.elim
theorem lc_read {g : D → Rho → Option Rho} {vs : List Nat} {Ti : Rho → Out Rho (List D)} {Tt : Rho → Out Rho Bool} {Te : Rho → Out Rho D} (hO : ∀ i ∈ vs, ok O i = none) (Xb : Cx) (hK : Xb.K = X.K) (hmg : Xb.mg = X.mg) {σ : L2.St} {H : Hp} {Q : VK}
    (h : tX X P O (rF X.K O .lst) (lcT vs Ti g Tt Te) σ H Q) : tLc (tX X P O (rW X.K) Ti) (tG Xb P.quiet O g vs) (tX Xb P.quiet O rT Tt) (tX Xb P.quiet O (rE Xb.K) Te) vs σ H Q := by
  obtain ⟨ρ, G, F, rr, h⟩ := h
  refine tX_bind' (R := rW X.K) rr h fun J H1 ds ρ1 G1 r1 e1 w1 h1 => fun D hD => ?_
  have hFD : F D = none := by
    cases e : F D with
    | none => rfl
    | some u => rw [r1.fr D u e] at hD; cases hD
  have hGD : G1 D = none := by
    cases e : G1 D with
    | none => rfl
    | some u => rw [r1.gr D u e] at hD; cases hD
  -- the list put aside
  have r2 : Rel X.K (upd F D (.lst [])) P.fx O (wipe σ vs) (upd H1 D (.lst [])) (wipeR ρ1 vs) G1 := by
    have s := (r1.wiped hO).side (o := .lst []) hD
    refine ⟨fun a u e => ?_, s.gr, s.sh, fun i d k e n => ?_, s.dj, s.fx, s.len⟩
    · by_cases z : a = D
      · subst z; rw [upd_same] at e ⊢; exact e
      · rw [upd_ne z] at e; exact s.fr a u e
    · obtain ⟨a, q, w, f, gg⟩ := s.ow i d k e n
      have ne := (r1.wiped hO).own_ne hD e n q
      exact ⟨a, q, w, by rw [upd_ne ne]; exact f, gg⟩
  have eX : ∀ {α β : Type} (R : RR β α) (T : Rho → Out Rho α), tX Xb P.quiet O R T = tX X P.quiet O R T := fun R T => by
    unfold tX
    rw [hK, hmg]
  have eG : tG Xb P.quiet O g vs = tG X P.quiet O g vs := by
    unfold tG
    rw [hK]
  rw [eX, eX, eG, hK]
  refine ⟨fun i m H' => ∃ (ρ' : Rho) (G' : Hp) (av : List V) (ad : List Z.D), m = ds.length - i ∧ i ≤ ds.length ∧ Rel X.K (upd F D (.lst av)) P.fx O (wipe σ vs) H' (wipeR ρ' vs) G' ∧ G' D = none ∧ Ext F G1 G' ∧ DpAll X.K G' av ad ∧
    Fin X.K X.mg P O σ F (rF X.K O .lst) G' ((lcLoop vs g Tt Te (ds.drop i) ad ρ').bindN fun l ρ2 => .ok (.list l) (putBack ρ1 ρ2 vs)) Q, ⟨ds.length, ρ1, G1, [], [], by simp, Nat.zero_le _, r2, hGD, Ext.refl _ _, .nil, h1⟩, ?_⟩
  rintro i m H' ⟨ρ', G', av, ad, rfl, hi, r', hG', e', hd', f'⟩
  have hH' : H' D = some (.lst av) := r'.fr D _ upd_same
  have w' := w1.mono e'.1
  by_cases hlt : i < ds.length
  · refine .inr ⟨w'.go H' i r'.gr hlt, fun H2 => ∃ m', m' < ds.length - i ∧ ∃ (ρ' : Rho) (G' : Hp) (av : List V) (ad : List Z.D), m' = ds.length - (i + 1) ∧ i + 1 ≤ ds.length ∧ Rel X.K (upd F D (.lst av)) P.fx O (wipe σ vs) H2 (wipeR ρ' vs) G' ∧ G' D = none ∧ Ext F G1 G' ∧ DpAll X.K G' av ad ∧
      Fin X.K X.mg P O σ F (rF X.K O .lst) G' ((lcLoop vs g Tt Te (ds.drop (i + 1)) ad ρ').bindN fun l ρ2 => .ok (.list l) (putBack ρ1 ρ2 vs)) Q, fun H2 h => h, fun x H2 y => ?_⟩
    obtain ⟨d, hd⟩ : ∃ d, ds[i]? = some d := ⟨ds[i], by simp [hlt]⟩
    have hdr : ds.drop i = d :: ds.drop (i + 1) := by
      rw [List.drop_eq_getElem_cons hlt]
      congr 1
      have := List.getElem?_eq_getElem hlt
      rw [this] at hd
      exact Option.some.inj hd
    rw [hdr] at f'
    unfold lcLoop at f'
    cases hg : g d (wipeR ρ' vs) with
    | none => rw [hg] at f'; exact f'.elim
    | some ρ2 =>
      rw [hg] at f'
      -- the item has come
      have came : ∃ G2, Rel X.K (upd F D (.lst av)) P.fx O (wipe σ vs) H2 (wipeR ρ' vs) G2 ∧ Ext (upd F D (.lst av)) G' G2 ∧ Dp X.K G2 x d := by
        rcases w'.yl H' i x H2 d r'.gr hd y with ⟨rfl, p⟩ | ⟨T, o, hT, rfl, p⟩
        · exact ⟨G', r', Ext.refl _ _, p⟩
        · obtain ⟨r3, e3⟩ := r'.alloc (o := o) hT
          exact ⟨_, r3, e3, p _ e3.1 upd_same⟩
      obtain ⟨G2, r3, e3, p3⟩ := came
      have subF : ∀ a, F a ≠ none → upd F D (.lst av) a ≠ none := upd_sub'
      have hG2 : G2 D = none := e3.2 D (by rw [upd_same]; exact fun q => nomatch q) hG'
      refine ⟨wipeR ρ' vs, G2, upd F D (.lst av), d, ρ2, r3, p3, hg, fun σ2 k2 l2 r4 => ?_⟩
      have ew : wipe σ2 vs = wipe σ vs := wipe_ext (by rw [l2, wipe_length]) fun j hj => by rw [k2 j hj, wipe_get hj]
      refine ⟨ew, ρ2, G2, upd F D (.lst av), r4, ?_⟩
      have f2 := Fin.ext (Ext.frame subF e3) f'
      have assoc : ∀ {α β γ : Type} (o : Out Rho α) (k : α → Rho → Out Rho β) (k2 : β → Rho → Out Rho γ), (o.bindN k).bindN k2 = o.bindN fun a s => (k a s).bindN k2 := fun o k k2 => by cases o <;> rfl
      dsimp only at f2
      rw [assoc] at f2
      refine Fin.quiet f2 subF fun b H3 b' ρ3 G3 r5 e5 eb f5 => ?_
      cases eb
      have hG3 : G3 D = none := e5.2 D (by rw [upd_same]; exact fun q => nomatch q) hG2
      cases b with
      | false =>
        rw [if_neg Bool.false_ne_true] at f5 ⊢
        have r6 := r5.wiped hO
        rw [ew] at r6
        exact ⟨_, by omega, ρ3, G3, av, ad, rfl, hlt, r6, hG3, e'.trans ((Ext.frame subF e3).trans (Ext.frame subF e5)), dpAll_mono e5.1 (dpAll_mono e3.1 hd'), f5⟩
      | true =>
        rw [if_pos rfl] at f5 ⊢
        refine ⟨ρ3, G3, upd F D (.lst av), r5, ?_⟩
        rw [assoc] at f5
        refine Fin.quiet f5 subF fun z H4 zd ρ4 G4 r7 e7 hz f7 => ?_
        have hG4 : G4 D = none := e7.2 D (by rw [upd_same]; exact fun q => nomatch q) hG3
        have hl4 : av.length = ad.length := DpAll.len hd'
        by_cases hs : ad.length < sizeLine
        · rw [if_pos hs] at f7
          refine ⟨av, r7.fr D _ upd_same, by rw [hl4]; exact hs, ?_⟩
          have r8 := (r7.wiped hO).poke (o' := .lst (av ++ [z])) hG4
          rw [ew] at r8
          exact ⟨_, by omega, ρ4, G4, av ++ [z], ad ++ [zd], rfl, hlt, r8, hG4, e'.trans ((Ext.frame subF e3).trans ((Ext.frame subF e5).trans (Ext.frame subF e7))),
            (dpAll_mono e7.1 (dpAll_mono e5.1 (dpAll_mono e3.1 hd'))).append (.cons hz .nil), f7⟩
        · rw [if_neg hs] at f7; exact f7.elim
  · have ei : i = ds.length := by omega
    subst ei
    rw [List.drop_length] at f'
    refine .inl ⟨w'.st H' r'.gr, ?_⟩
    have r9 : Rel X.K F P.fx O σ H' (putBack ρ1 ρ' vs) G' := (Rel.unwiped r1 r' e'.1 hO).frame (upd_sub hFD)
    refine f' (.ref D) H' G' r9 (Ext.refl _ _) ⟨D, rfl, ⟨av, ad, rfl, hH', hd'⟩, hFD, hG', fun j e l hj ho hs => ?_⟩
    have hjv : j ∉ vs := fun z => by rw [hO j z] at ho; cases ho
    rw [putBack_out hjv] at hj
    obtain ⟨a, q, _, fa, _⟩ := r'.ow j e l (by rw [wipeR_get' hjv]; exact hj) ho
    rw [wipe_get hjv, hs] at q
    cases q
    rw [upd_same] at fa
    cases fa
theorem fx_lc {elt tg iter : Expr} {ifs : List Expr} {scope : Scope} {own : List (Str × Nat)} {pos : Pos} {Ti : Rho → Out Rho (List D)} {g : D → Rho → Option Rho} {Tt : Rho → Out Rho Bool} {Te : Rho → Out Rho D} (hc : X.calm = true) (hN : X.N.Nodup) (hi : IX X P O tg iter Ti) (ok' : BlkOk X.N X.env.scope scope own) (hO : ∀ i ∈ own.map (·.2), ok O i = none)
    (hg : ∀ (s : Shared) (H : Hp) (C : Addr) (cl : List (Str × Addr)) (fp : List Addr), GX (X.blk s H scope (compEnvC scope cl C X.env) fp) P.quiet O tg g (own.map (·.2))) (ht : ∀ (s : Shared) (H : Hp) (C : Addr) (cl : List (Str × Addr)) (fp : List Addr), TXs (X.blk s H scope (compEnvC scope cl C X.env) fp) P.quiet O ifs Tt)
    (he : ∀ (s : Shared) (H : Hp) (C : Addr) (cl : List (Str × Addr)) (fp : List Addr), EX (X.blk s H scope (compEnvC scope cl C X.env) fp) P.quiet O elt Te) (hs : ∀ x, foldedSetIterable iter X.env x = pure x := by intro _; rfl) :
    FX X P O .lst (.ListComp elt [⟨tg, iter, ifs, 0⟩] scope pos) (lcT (own.map (·.2)) Ti g Tt Te) :=
  pe_mono (pe_lc (own := own) (g := tG X P.quiet O g (List.map Prod.snd own)) (tt := tX X P.quiet O rT Tt) (te := tX X P.quiet O (rE X.K) Te) hc hN hi ok' (fun s H C cl fp => hg s H C cl fp) (fun s H C cl fp => ht s H C cl fp) (fun s H C cl fp => he s H C cl fp) hs) fun σ H Q h => lc_read hO X rfl rfl h
end
end Z

/-! file ZStmt -/
set_option Elab.async false
set_option linter.all false
set_option autoImplicit false
set_option maxRecDepth 100000
set_option maxHeartbeats 4000000
/-! statements upon trees -/
namespace Z
open PySem PySem.Spec PyProof.Rows L2
variable [PgW]

inductive Flw where
  | nx | bk | ct
  | rt (d : D)
/-- the exits of a statement: who owns at a break | continue, at an exception; whether what is returned is fresh -/
structure Lp where
  lp : Own
  ex : Own → Prop
  rk : Option OKd
def RetR (K : PySem.W.Frag) (Or : Own) (rk : Option OKd) : RR V D := match rk with
  | none => rE K
  | some k => rF K Or k
def FinS (K : PySem.W.Frag) (mg : Str → Option Value) (P : Pm) (L : Lp) (O' : Own) (F G : Hp) (o : Out Rho Flw) (E : Ends) : Prop := match o with
  | .ok .nx ρ' => ∀ σ' H' G', Rel K F P.fx O' σ' H' ρ' G' → Ext F G G' → E.nx σ' H'
  | .ok .bk ρ' => ∀ σ' H' G', Rel K F P.fx L.lp σ' H' ρ' G' → Ext F G G' → E.bk σ' H'
  | .ok .ct ρ' => ∀ σ' H' G', Rel K F P.fx L.lp σ' H' ρ' G' → Ext F G G' → E.ct σ' H'
  | .ok (.rt d) ρ' => ∀ v σ' H' G' Or, L.ex Or → Rel K F P.fx Or σ' H' ρ' G' → Ext F G G' → RetR K Or L.rk F σ' ρ' H' G' v d → E.rt v H'
  | .exc c fs ρ' => ∀ σ' cls de H' G' Ox, L.ex Ox → Rel K F P.fx Ox σ' H' ρ' G' → Ext F G G' → ExcR K mg G' c fs cls de → P.W cls de σ' H'
  | .bad => False
def tS (X : Cx) (P : Pm) (L : Lp) (O O' : Own) (T : Rho → Out Rho Flw) : TS := fun E σ H => ∃ ρ G F, Rel X.K F P.fx O σ H ρ G ∧ FinS X.K X.mg P L O' F G (T ρ) E
def SX (X : Cx) (P : Pm) (L : Lp) (O O' : Own) (st : Stmt) (T : Rho → Out Rho Flw) : Prop := PS X st (tS X P L O O' T)
def BX (X : Cx) (P : Pm) (L : Lp) (O O' : Own) (st : List Stmt) (T : Rho → Out Rho Flw) : Prop := PSs X st (tS X P L O O' T)
def sqT (Ta Tb : Rho → Out Rho Flw) : Rho → Out Rho Flw := fun ρ => match Ta ρ with
  | .ok .nx ρ1 => Tb ρ1
  | o => o
def nxT : Rho → Out Rho Flw := fun ρ => .ok .nx ρ
section
variable {X : Cx} {P : Pm} {L : Lp} {O O' O1 : Own}
omit [PgW] in
theorem ps_mono {st : Stmt} {t t' : TS} (h : PS X st t) (m : ∀ E σ H, t' E σ H → t E σ H) : PS X st t' := ⟨fun pins s σ H E I q => h.run pins s σ H E I (m E σ H q)⟩
omit [PgW] in
theorem pss_mono {st : List Stmt} {t t' : TS} (h : PSs X st t) (m : ∀ E σ H, t' E σ H → t E σ H) : PSs X st t' := ⟨fun pins s σ H E I q => h.run pins s σ H E I (m E σ H q)⟩
theorem FinS.ext {K : PySem.W.Frag} {mg : Str → Option Value} {F G G' : Hp} {o : Out Rho Flw} {E : Ends} (e : Ext F G G') (h : FinS K mg P L O' F G o E) : FinS K mg P L O' F G' o E := by
  cases o with
  | ok f ρ' =>
    cases f with
    | nx => exact fun σ' H' G2 r e2 => h σ' H' G2 r (e.trans e2)
    | bk => exact fun σ' H' G2 r e2 => h σ' H' G2 r (e.trans e2)
    | ct => exact fun σ' H' G2 r e2 => h σ' H' G2 r (e.trans e2)
    | rt d => exact fun v σ' H' G2 Or hx r e2 => h v σ' H' G2 Or hx r (e.trans e2)
  | exc c fs ρ' => exact fun σ' cls de H' G2 Ox hx r e2 => h σ' cls de H' G2 Ox hx r (e.trans e2)
  | bad => exact h
/-- an expression within a statement -/
theorem FinS.ofE {α β : Type} {K : PySem.W.Frag} {mg : Str → Option Value} {F G : Hp} {σ : L2.St} {R : RR β α} {o : Out Rho α} {k : α → Rho → Out Rho Flw} {E : Ends} (hex : L.ex O) (h : FinS K mg P L O' F G (o.bind k) E) :
    Fin K mg P O σ F R G o (fun v H' => ∃ a ρ' G', Rel K F P.fx O σ H' ρ' G' ∧ Ext F G G' ∧ R F σ ρ' H' G' v a ∧ FinS K mg P L O' F G' (k a ρ') E) := by
  cases o with
  | ok a ρ' => exact fun v H' G2 r e2 d => ⟨a, ρ', G2, r, e2, d, FinS.ext e2 h⟩
  | exc c fs ρ' => exact fun cls de H' G2 r e2 q => h σ cls de H' G2 O hex r e2 q
  | bad => exact h
theorem tX_stmt {α β : Type} {R : RR β α} {T : Rho → Out Rho α} {k : α → Rho → Out Rho Flw} {σ : L2.St} {H : Hp} {E : Ends} {Q' : β → Hp → Prop} (hex : L.ex O) (h : tS X P L O O' (fun ρ => (T ρ).bind k) E σ H)
    (c : ∀ v H' a ρ' G' F, Rel X.K F P.fx O σ H' ρ' G' → R F σ ρ' H' G' v a → FinS X.K X.mg P L O' F G' (k a ρ') E → Q' v H') : tX X P O R T σ H Q' := by
  obtain ⟨ρ, G, F, r, h⟩ := h
  refine ⟨ρ, G, F, r, ?_⟩
  exact Fin.imp (FinS.ofE (R := R) hex h) fun v H' ⟨a, ρ', G', r', e, d, f⟩ => c v H' a ρ' G' F r' d f

/-! ### blocks -/
theorem bx_nil : BX X P L O O [] nxT := pss_mono pss_nil fun E σ H ⟨ρ, G, F, r, h⟩ => h σ H G r (Ext.refl _ _)
theorem bx_cons {st : Stmt} {rest : List Stmt} {Ta Tb : Rho → Out Rho Flw} (h1 : SX X P L O O1 st Ta) (h2 : BX X P L O1 O' rest Tb) : BX X P L O O' (st :: rest) (sqT Ta Tb) := by
  refine pss_mono (pss_cons h1 h2) fun E σ H ⟨ρ, G, F, r, h⟩ => ⟨ρ, G, F, r, ?_⟩
  unfold sqT at h
  cases z : Ta ρ with
  | ok f ρ1 =>
    rw [z] at h
    cases f with
    | nx => exact fun σ' H' G' r' e' => ⟨ρ1, G', F, r', FinS.ext e' h⟩
    | bk => exact h
    | ct => exact h
    | rt d => exact h
  | exc c fs ρ1 => rw [z] at h; exact h
  | bad => rw [z] at h; exact h
theorem bx_one {st : Stmt} {T : Rho → Out Rho Flw} (h1 : SX X P L O O' st T) : BX X P L O O' [st] T := pss_one h1
theorem sx_bad {st : Stmt} : SX X P L O O' st badT := ⟨fun _ _ _ _ _ _ ⟨_, _, _, _, f⟩ => f.elim⟩
theorem bx_bad {st : List Stmt} : BX X P L O O' st badT := ⟨fun _ _ _ _ _ _ ⟨_, _, _, _, f⟩ => f.elim⟩
theorem sx_pass {pos : Pos} : SX X P L O O (.Pass pos) nxT := ps_mono ps_pass fun E σ H ⟨ρ, G, F, r, h⟩ => h σ H G r (Ext.refl _ _)
def bkT : Rho → Out Rho Flw := fun ρ => .ok .bk ρ
def ctT : Rho → Out Rho Flw := fun ρ => .ok .ct ρ
theorem sx_break {pos : Pos} (hl : L.lp = O := by rfl) : SX X P L O O' (.Break pos) bkT := ps_mono ps_break fun E σ H ⟨ρ, G, F, r, h⟩ => h σ H G (hl ▸ r) (Ext.refl _ _)
theorem sx_continue {pos : Pos} (hl : L.lp = O := by rfl) : SX X P L O O' (.Continue pos) ctT := ps_mono ps_continue fun E σ H ⟨ρ, G, F, r, h⟩ => h σ H G (hl ▸ r) (Ext.refl _ _)
/-- a list is given away ahead of a statement -/
theorem tS_freeze {T : Rho → Out Rho Flw} {i : Nat} (hO : i < O.length) (hfx : (P.fx.map (·.1)).contains i = false) (hk : (ok O i).all OKd.keep = true) {E : Ends} {σ : L2.St} {H : Hp} (h : tS X P L O O' T E σ H) : tS X P L (O.set i none) O' T E σ H := by
  obtain ⟨ρ, G, F, r, h⟩ := h
  have hfx' : ∀ p ∈ P.fx, p.1 ≠ i := fun p hp z => by
    have : (P.fx.map (·.1)).contains i = true := by
      rw [List.contains_iff_mem]
      exact List.mem_map.mpr ⟨p, hp, z⟩
    rw [hfx] at this; cases this
  obtain ⟨G', r', e'⟩ := r.freeze hO hfx' (fun k q => by rw [q] at hk; exact hk)
  exact ⟨ρ, G', F, r', FinS.ext e' h⟩
theorem sx_freeze (i : Nat) {st : Stmt} {T : Rho → Out Rho Flw} (h : SX X P L O1 O' st T) (hO1 : O1 = O.set i none := by rfl) (hO : i < O.length := by exact Nat.le_of_ble_eq_true rfl) (hfx : (P.fx.map (·.1)).contains i = false := by rfl) (hk : (ok O i).all OKd.keep = true := by rfl) : SX X P L O O' st T := by
  subst hO1
  exact ps_mono h fun E σ H q => tS_freeze hO hfx hk q
theorem bx_freeze (i : Nat) {st : List Stmt} {T : Rho → Out Rho Flw} (h : BX X P L O1 O' st T) (hO1 : O1 = O.set i none := by rfl) (hO : i < O.length := by exact Nat.le_of_ble_eq_true rfl) (hfx : (P.fx.map (·.1)).contains i = false := by rfl) (hk : (ok O i).all OKd.keep = true := by rfl) : BX X P L O O' st T := by
  subst hO1
  exact pss_mono h fun E σ H q => tS_freeze hO hfx hk q

/-! ### if -/
theorem sx_if {c : Expr} {a b : List Stmt} {Tc : Rho → Out Rho Bool} {Ta Tb : Rho → Out Rho Flw} {pos : Pos} (hc : TX X P O c Tc) (ha : BX X P L O O' a Ta) (hb : BX X P L O O' b Tb) (hex : L.ex O) : SX X P L O O' (.If c a b pos) (ifT Tc Ta Tb) := by
  refine ps_mono (ps_if hc ha hb) fun E σ H h => ?_
  refine tX_stmt (R := rT) hex h fun v H' a ρ' G' F r e f => ?_
  cases e
  cases v with
  | true => exact ⟨ρ', G', F, r, f⟩
  | false => exact ⟨ρ', G', F, r, f⟩

/-! ### assignments -/
omit [PgW] in
theorem hfx_of {fx : List (Nat × Addr)} {i : Nat} (hfx : (fx.map (·.1)).contains i = false) : ∀ p ∈ fx, p.1 ≠ i := fun p hp z => by
  have : (fx.map (·.1)).contains i = true := by
    rw [List.contains_iff_mem]
    exact List.mem_map.mpr ⟨p, hp, z⟩
  rw [hfx] at this; cases this
/-- a slot, whoever owned it, gets a tree -/
theorem Rel.setAny {K : PySem.W.Frag} {F H G : Hp} {fx : List (Nat × Addr)} {σ : L2.St} {ρ : Rho} (r : Rel K F fx O σ H ρ G) {i : Nat} {v : V} {d : D} (hO : i < O.length) (hfx : ∀ p ∈ fx, p.1 ≠ i) (h : Dp K G v d) : Rel K F fx (O.set i none) (σ.set i (some v)) H (ρ.set i (some d)) G where
  fr := r.fr
  gr := r.gr
  sh := fun j e q n => by
    rw [ok_set hO] at n
    by_cases z : i = j
    · subst z
      have hl : i < ρ.length := by
        have := (List.getElem?_eq_some_iff.mp q).1
        simpa using this
      rw [List.getElem?_set_self hl] at q
      cases q
      exact ⟨v, by rw [List.getElem?_set_self (by rw [← r.len]; exact hl)], h⟩
    · rw [if_neg z] at n
      rw [List.getElem?_set_ne z] at q ⊢
      exact r.sh j e q n
  ow := fun j e k q n => by
    rw [ok_set hO] at n
    by_cases z : i = j
    · rw [if_pos z] at n; cases n
    · rw [if_neg z] at n
      rw [List.getElem?_set_ne z] at q ⊢
      exact r.ow j e k q n
  dj := fun j j' e e' k k' a q q' n n' s s' => by
    rw [ok_set hO] at n n'
    by_cases z : i = j
    · rw [if_pos z] at n; cases n
    · by_cases z' : i = j'
      · rw [if_pos z'] at n'; cases n'
      · rw [if_neg z] at n
        rw [if_neg z'] at n'
        rw [List.getElem?_set_ne z] at q s
        rw [List.getElem?_set_ne z'] at q' s'
        exact r.dj j j' e e' k k' a q q' n n' s s'
  fx := fun p hp => by
    obtain ⟨⟨k, e⟩, ⟨d', q'⟩, q⟩ := r.fx p hp
    have z : i ≠ p.1 := fun z => hfx p hp z.symm
    exact ⟨⟨k, by rw [ok_set hO, if_neg z]; exact e⟩, ⟨d', by rw [List.getElem?_set_ne z]; exact q'⟩, by rw [List.getElem?_set_ne z]; exact q⟩
  len := by rw [List.length_set, List.length_set]; exact r.len
def asgT (i : Nat) (T : Rho → Out Rho D) : Rho → Out Rho Flw := fun ρ => (T ρ).bind fun d ρ1 => .ok .nx (ρ1.set i (some d))
/-- name = e -/
theorem sx_set (i : Nat) {x : Str} {e : Expr} {T : Rho → Out Rho D} {pos pos' : Pos} (hN : X.N.Nodup) (he : EX X P O e T) (hex : L.ex O) (hO' : O' = O.set i none := by rfl) (hO : i < O.length := by exact Nat.le_of_ble_eq_true rfl) (hfx : (P.fx.map (·.1)).contains i = false := by rfl) (hi : X.N[i]? = some x := by rfl) (hx : Loc X.env.scope x := by first | exact Or.inl rfl | exact Or.inr rfl)
    (hs : swapsWith e (some (.Name x pos')) pos.line X.env = pure false := by rfl) (hf : X.fn x = true ∨ X.env.scope.names.lookup x = some .local := by first | exact .inl rfl | exact .inr rfl) : SX X P L O O' (.Assign [.Name x pos'] e pos) (asgT i T) := by
  subst hO'
  refine ps_mono (ps_set hN hi hx he hs hf) fun E σ H h => ?_
  exact tX_stmt (R := rE X.K) hex h fun v H' a ρ' G' F r e f => f _ H' G' (r.setAny hO (hfx_of hfx) e) (Ext.refl _ _)
/-- name = a fresh object -/
theorem sx_own (i : Nat) {x : Str} {e : Expr} {k : OKd} {T : Rho → Out Rho D} {pos pos' : Pos} (hN : X.N.Nodup) (he : FX X P O k e T) (hex : L.ex O) (hO' : O' = O.set i (some k) := by rfl) (hO : i < O.length := by exact Nat.le_of_ble_eq_true rfl) (hfx : (P.fx.map (·.1)).contains i = false := by rfl) (hi : X.N[i]? = some x := by rfl) (hx : Loc X.env.scope x := by first | exact Or.inl rfl | exact Or.inr rfl)
    (hs : swapsWith e (some (.Name x pos')) pos.line X.env = pure false := by rfl) (hf : X.fn x = true ∨ X.env.scope.names.lookup x = some .local := by first | exact .inl rfl | exact .inr rfl) : SX X P L O O' (.Assign [.Name x pos'] e pos) (asgT i T) := by
  subst hO'
  refine ps_mono (ps_set hN hi hx he hs hf) fun E σ H h => ?_
  refine tX_stmt (R := rF X.K O k) hex h fun v H' a ρ' G' F r e f => ?_
  obtain ⟨p, rfl, w, hF, hG, hn⟩ := e
  exact f _ H' G' (r.setOwn hO (hfx_of hfx) w hF hG fun j e l _ h1 h2 => hn j e l h1 h2) (Ext.refl _ _)
/-- name = [..], a comprehension on one line -/
theorem sx_lc (i : Nat) {y : Str} {py : Pos} {elt tg iter : Expr} {ifs : List Expr} {scope : Scope} {own : List (Str × Nat)} {pos spos : Pos} {Ti : Rho → Out Rho (List D)} {g : D → Rho → Option Rho} {Tt : Rho → Out Rho Bool} {Te : Rho → Out Rho D} (hc : X.calm = true) (hN : X.N.Nodup) (hex : L.ex O)
    (hi : IX X P O tg iter Ti) (ok' : BlkOk X.N X.env.scope scope own) (hOv : ∀ i ∈ own.map (·.2), ok O i = none)
    (hg : ∀ (s : Shared) (H : Hp) (C : Addr) (cl : List (Str × Addr)) (fp : List Addr), GX (X.blk s H scope (compEnvC scope cl C X.env) fp) P.quiet O tg g (own.map (·.2))) (ht : ∀ (s : Shared) (H : Hp) (C : Addr) (cl : List (Str × Addr)) (fp : List Addr), TXs (X.blk s H scope (compEnvC scope cl C X.env) fp) P.quiet O ifs Tt)
    (he : ∀ (s : Shared) (H : Hp) (C : Addr) (cl : List (Str × Addr)) (fp : List Addr), EX (X.blk s H scope (compEnvC scope cl C X.env) fp) P.quiet O elt Te)
    (hO' : O' = O.set i (some .lst) := by rfl) (hO : i < O.length := by exact Nat.le_of_ble_eq_true rfl) (hfx : (P.fx.map (·.1)).contains i = false := by rfl) (hy : X.N[i]? = some y := by rfl) (hyl : X.env.scope.names.lookup y = some .local := by rfl)
    (hsw : swapsWith (.ListComp elt [⟨tg, iter, ifs, 0⟩] scope pos) (some (.Name y py)) spos.line X.env = pure true := by exact sw_true rfl rfl rfl (by decide +kernel)) (hs : ∀ x, foldedSetIterable iter X.env x = pure x := by intro _; rfl) :
    SX X P L O O' (.Assign [.Name y py] (.ListComp elt [⟨tg, iter, ifs, 0⟩] scope pos) spos) (asgT i (lcT (own.map (·.2)) Ti g Tt Te)) := by
  subst hO'
  have h0 := ps_setLc (own := own) (g := tG X P.quiet O g (List.map Prod.snd own)) (tt := tX X P.quiet O rT Tt) (te := tX X P.quiet O (rE X.K) Te) hc hN hy hyl hsw hi ok' (fun s H C cl fp => hg s H C cl fp) (fun s H C cl fp => ht s H C cl fp) (fun s H C cl fp => he s H C cl fp) hs
  refine ps_mono h0 fun E σ H h => ?_
  refine lc_read (vs := own.map (·.2)) hOv X rfl rfl ?_
  refine tX_stmt (R := rF X.K O .lst) hex h fun v H' a ρ' G' F r e f => ?_
  obtain ⟨p, rfl, w, hF, hG, hn⟩ := e
  exact f _ H' G' (r.setOwn hO (hfx_of hfx) w hF hG fun j e l _ h1 h2 => hn j e l h1 h2) (Ext.refl _ _)
def tgtT (g : D → Rho → Option Rho) (T : Rho → Out Rho D) : Rho → Out Rho Flw := fun ρ => (T ρ).bind fun d ρ1 => match g d ρ1 with
  | some ρ2 => .ok .nx ρ2
  | none => .bad
/-- targets = e -/
theorem sx_tgt {tg e : Expr} {T : Rho → Out Rho D} {g : D → Rho → Option Rho} {is : List Nat} {pos : Pos} (he : EX X P O e T) (hg : GX X P O tg g is) (hex : L.ex O) (hs : swapsWithSole [tg] e pos.line X.env = pure false := by rfl) (hw : swappedStores [tg] e X.env = pure none := by rfl)
    (h1 : (assignEach [tg] X.env).map (·.2) = [assign tg X.env] := by rfl) : SX X P L O O (.Assign [tg] e pos) (tgtT g T) := by
  refine ps_mono (ps_asg he hg hs hw h1) fun E σ H h => ?_
  refine tX_stmt (R := rE X.K) hex h fun v H' a ρ' G' F r e f => ?_
  cases z : g a ρ' with
  | none => rw [z] at f; exact f.elim
  | some ρ2 =>
    rw [z] at f
    exact ⟨ρ', G', F, a, ρ2, r, e, z, fun σ' _ _ r' => f σ' H' G' r' (Ext.refl _ _)⟩

/-! ### return, expressions -/
def retT (T : Rho → Out Rho D) : Rho → Out Rho Flw := fun ρ => (T ρ).bind fun d ρ1 => .ok (.rt d) ρ1
theorem sx_ret {e : Expr} {T : Rho → Out Rho D} {pos : Pos} (he : EX X P O e T) (hex : L.ex O) (hr : L.rk = none := by rfl) : SX X P L O O' (.Return (some e) pos) (retT T) := by
  refine ps_mono (ps_ret he) fun E σ H h => ?_
  refine tX_stmt (R := rE X.K) hex h fun v H' a ρ' G' F r e f => f v σ H' G' O hex r (Ext.refl _ _) ?_
  rw [hr]; exact e
theorem sx_retF {e : Expr} {k : OKd} {T : Rho → Out Rho D} {pos : Pos} (he : FX X P O k e T) (hex : L.ex O) (hr : L.rk = some k := by rfl) : SX X P L O O' (.Return (some e) pos) (retT T) := by
  refine ps_mono (ps_ret he) fun E σ H h => ?_
  refine tX_stmt (R := rF X.K O k) hex h fun v H' a ρ' G' F r e f => f v σ H' G' O hex r (Ext.refl _ _) ?_
  rw [hr]; exact e
theorem sx_retN {pos : Pos} (hex : L.ex O) (hr : L.rk = none := by rfl) : SX X P L O O' (.Return none pos) (fun ρ => .ok (.rt .none) ρ) :=
  ps_mono ps_retN fun E σ H ⟨ρ, G, F, r, h⟩ => h .non σ H G O hex r (Ext.refl _ _) (by rw [hr]; exact .non)
def dropT (T : Rho → Out Rho D) : Rho → Out Rho Flw := fun ρ => (T ρ).bind fun _ ρ1 => .ok .nx ρ1
theorem sx_expr {e : Expr} {T : Rho → Out Rho D} {pos : Pos} (he : EX X P O e T) (hex : L.ex O) (hs : swapsWith e none pos.line X.env = pure false := by rfl) : SX X P L O O (.Expr e pos) (dropT T) := by
  refine ps_mono (ps_expr he hs) fun E σ H h => ?_
  exact tX_stmt (R := rE X.K) hex h fun v H' a ρ' G' F r e f => f σ H' G' r (Ext.refl _ _)

/-! ### loops -/
/-- behind a turn -/
def loopK (o : Out Rho Flw) (k : Rho → Out Rho Flw) : Out Rho Flw := match o with
  | .ok .nx ρ => k ρ
  | .ok .ct ρ => k ρ
  | .ok .bk ρ => .ok .nx ρ
  | .ok (.rt d) ρ => .ok (.rt d) ρ
  | .exc c fs ρ => .exc c fs ρ
  | .bad => .bad
def forT (g : D → Rho → Option Rho) (b : Rho → Out Rho Flw) : List D → Rho → Out Rho Flw
  | [], ρ => .ok .nx ρ
  | d :: ds, ρ => match g d ρ with
    | none => .bad
    | some ρ1 => loopK (b ρ1) (forT g b ds)
def forS (Ti : Rho → Out Rho (List D)) (g : D → Rho → Option Rho) (b : Rho → Out Rho Flw) : Rho → Out Rho Flw := fun ρ => (Ti ρ).bind fun ds ρ1 => forT g b ds ρ1
def Lp.inLoop (L : Lp) (O : Own) : Lp := ⟨O, L.ex, L.rk⟩
theorem FinS.loop {K : PySem.W.Frag} {mg : Str → Option Value} {F G : Hp} {o : Out Rho Flw} {k : Rho → Out Rho Flw} {E : Ends} {N : L2.St → Hp → Prop} (h : FinS K mg P L O F G (loopK o k) E)
    (hN : ∀ ρ' σ' H' G', Rel K F P.fx O σ' H' ρ' G' → Ext F G G' → FinS K mg P L O F G' (k ρ') E → N σ' H') : FinS K mg P (L.inLoop O) O F G o { E with nx := N, ct := N, bk := E.nx } := by
  cases o with
  | ok f ρ' =>
    cases f with
    | nx => exact fun σ' H' G2 r e => hN ρ' σ' H' G2 r e (FinS.ext e h)
    | ct => exact fun σ' H' G2 r e => hN ρ' σ' H' G2 r e (FinS.ext e h)
    | bk => exact h
    | rt d => exact h
  | exc c fs ρ' => exact h
  | bad => exact h
theorem sx_for {tg iter : Expr} {body : List Stmt} {Ti : Rho → Out Rho (List D)} {g : D → Rho → Option Rho} {is : List Nat} {Tb : Rho → Out Rho Flw} {pos : Pos} (hp : PassesOwn (model X.prog X.w) X.A X.env X.xe) (hc : X.calm = true) (hi : IX X P O tg iter Ti) (hg : GX X P O tg g is) (hb : BX X P (L.inLoop O) O O body Tb) (hex : L.ex O)
    (hs : ∀ x, foldedSetIterable iter X.env x = pure x := by intro _; rfl) : SX X P L O O (.For tg iter body [] pos) (forS Ti g Tb) := by
  refine ps_mono (ps_for hp hc hi hg hb hs) fun E σ H h => ?_
  refine tX_stmt (R := rW X.K) hex h fun J H1 ds ρ1 G1 F r1 w1 f1 => ?_
  refine ⟨fun i m σ H => ∃ ρ G, m = ds.length - i ∧ i ≤ ds.length ∧ Rel X.K F P.fx O σ H ρ G ∧ Ext F G1 G ∧ FinS X.K X.mg P L O F G (forT g Tb (ds.drop i) ρ) E, ⟨ds.length, ρ1, G1, by simp, Nat.zero_le _, r1, Ext.refl _ _, f1⟩, ?_⟩
  rintro i m σ2 H2 ⟨ρ, G, rfl, hi', r, e, f⟩
  have w := w1.mono e.1
  by_cases hlt : i < ds.length
  · refine .inr ⟨w.go H2 i r.gr hlt, fun σ' H' => ∃ m', m' < ds.length - i ∧ ∃ ρ G, m' = ds.length - (i + 1) ∧ i + 1 ≤ ds.length ∧ Rel X.K F P.fx O σ' H' ρ G ∧ Ext F G1 G ∧ FinS X.K X.mg P L O F G (forT g Tb (ds.drop (i + 1)) ρ) E, fun _ _ h => h, fun x H3 y => ?_⟩
    obtain ⟨d, hd⟩ : ∃ d, ds[i]? = some d := ⟨ds[i], by simp [hlt]⟩
    have hdr : ds.drop i = d :: ds.drop (i + 1) := by
      rw [List.drop_eq_getElem_cons hlt]
      congr 1
      have := List.getElem?_eq_getElem hlt
      rw [this] at hd
      exact Option.some.inj hd
    rw [hdr] at f
    unfold forT at f
    cases hg' : g d ρ with
    | none => rw [hg'] at f; exact f.elim
    | some ρ2 =>
      rw [hg'] at f
      have came : ∃ G2, Rel X.K F P.fx O σ2 H3 ρ G2 ∧ Ext F G G2 ∧ Dp X.K G2 x d := by
        rcases w.yl H2 i x H3 d r.gr hd y with ⟨rfl, p⟩ | ⟨T, o, hT, rfl, p⟩
        · exact ⟨G, r, Ext.refl _ _, p⟩
        · obtain ⟨r3, e3⟩ := r.alloc (o := o) hT
          exact ⟨_, r3, e3, p _ e3.1 upd_same⟩
      obtain ⟨G2, r3, e3, p3⟩ := came
      refine ⟨ρ, G2, F, d, ρ2, r3, p3, hg', fun σ3 _ _ r4 => ⟨ρ2, G2, F, r4, ?_⟩⟩
      refine FinS.loop (FinS.ext e3 f) fun ρ4 σ4 H4 G4 r5 e5 f5 => ?_
      exact ⟨_, by omega, ρ4, G4, rfl, hlt, r5, e.trans (e3.trans e5), f5⟩
  · have ei : i = ds.length := by omega
    subst ei
    rw [List.drop_length] at f
    exact .inl ⟨w.st H2 r.gr, f σ2 H2 G r (Ext.refl _ _)⟩
def whT (tc : Rho → Out Rho Bool) (tb : Rho → Out Rho Flw) : Nat → Rho → Out Rho Flw
  | 0, _ => .bad
  | n + 1, ρ => (tc ρ).bind fun b ρ1 => if b = true then loopK (tb ρ1) (whT tc tb n) else .ok .nx ρ1
theorem sx_while (n : Nat) {c : Expr} {body : List Stmt} {Tc : Rho → Out Rho Bool} {Tb : Rho → Out Rho Flw} {pos : Pos} (hp : PassesOwn (model X.prog X.w) X.A X.env X.xe) (hc : TX X P O c Tc) (hb : BX X P (L.inLoop O) O O body Tb) (hex : L.ex O) : SX X P L O O (.While c body [] pos) (whT Tc Tb n) := by
  refine ps_mono (ps_while hp hc hb) fun E σ H ⟨ρ, G, F, r, f⟩ => ?_
  refine ⟨fun m σ H => ∃ ρ' G', Rel X.K F P.fx O σ H ρ' G' ∧ Ext F G G' ∧ FinS X.K X.mg P L O F G' (whT Tc Tb m ρ') E, ⟨n, ρ, G, r, Ext.refl _ _, f⟩, ?_⟩
  rintro m σ2 H2 ⟨ρ2, G2, r2, e2, f2⟩
  cases m with
  | zero => exact f2.elim
  | succ m =>
    unfold whT at f2
    refine ⟨ρ2, G2, F, r2, Fin.imp (FinS.ofE (R := rT) hex f2) fun v H' ⟨a, ρ', G', r3, e3, d, f3⟩ => ?_⟩
    cases d
    cases v with
    | true =>
      rw [if_pos rfl] at f3
      refine ⟨fun σ' H' => ∃ ρ4 G4, Rel X.K F P.fx O σ' H' ρ4 G4 ∧ Ext F G G4 ∧ FinS X.K X.mg P L O F G4 (whT Tc Tb m ρ4) E, fun σ' H' ⟨ρ4, G4, h1, h2, h3⟩ => ⟨m, Nat.lt_succ_self m, ρ4, G4, h1, h2, h3⟩, ρ', G', F, r3, FinS.loop f3 fun ρ4 σ4 H4 G4 r5 e5 f5 => ?_⟩
      exact ⟨ρ4, G4, r5, e2.trans (e3.trans e5), f5⟩
    | false =>
      rw [if_neg (by decide)] at f3
      exact f3 σ2 H' G' r3 (Ext.refl _ _)
end
end Z

/-! file ZOwn -/
set_option Elab.async false
set_option linter.all false
set_option autoImplicit false
set_option maxRecDepth 100000
set_option maxHeartbeats 4000000
/-! reads and writes of owned lists, chains, isinstance, sums, parallel stores -/
namespace Z
open PySem PySem.Spec PyProof.Rows L2
variable [PgW]

/-- the tree in a slot -/
def getS (i : Nat) (ρ : Rho) : Option D := (ρ[i]?).join
omit [PgW] in
theorem getS_some {i : Nat} {ρ : Rho} {d : D} (h : getS i ρ = some d) : ρ[i]? = some (some d) := by
  unfold getS at h
  cases e : ρ[i]? with
  | none => rw [e] at h; cases h
  | some u => rw [e] at h; exact congrArg some h
section
variable {X : Cx} {P : Pm} {L : Lp} {O O' O1 : Own}
theorem Rel.list {K : PySem.W.Frag} {F H G : Hp} {fx : List (Nat × Addr)} {σ : L2.St} {ρ : Rho} (r : Rel K F fx O σ H ρ G) {i : Nat} {d : D} {v : V} (h : getS i ρ = some d) (n : ok O i = some .lst) (q : σ[i]? = some (some v)) :
    ∃ a xs ds, v = .ref a ∧ d = .list ds ∧ H a = some (.lst xs) ∧ DpAll K G xs ds ∧ Dp K H v d := by
  obtain ⟨a, q', ⟨xs, ds, e, hH, hd⟩, _, _⟩ := r.ow i d .lst (getS_some h) n
  rw [q] at q'
  injection q' with q1
  injection q1 with q2
  subst q2
  subst e
  exact ⟨a, xs, ds, rfl, rfl, hH, hd, .lst (SqL.of hH) (dpAll_mono r.gr hd)⟩
theorem Rel.bound {K : PySem.W.Frag} {F H G : Hp} {fx : List (Nat × Addr)} {σ : L2.St} {ρ : Rho} {k : OKd} (r : Rel K F fx O σ H ρ G) {i : Nat} {d : D} (h : getS i ρ = some d) (n : ok O i = some k) : ∃ a, σ[i]? = some (some (.ref a)) := by
  obtain ⟨a, q, _⟩ := r.ow i d k (getS_some h) n
  exact ⟨a, q⟩
/-! ### an owned list on the left -/
def binO (i : Nat) (g : D → D → Option D) (Tb : Rho → Out Rho D) : Rho → Out Rho D := fun ρ => match getS i ρ with
  | none => .bad
  | some _ => (Tb ρ).bind fun e ρ2 => match getS i ρ2 with
    | none => .bad
    | some d => .of (g d e) ρ2
theorem tX_binO {i : Nat} {r : R2} {g : D → D → Option D} {Tb : Rho → Out Rho D} {σ : L2.St} {H : Hp} {Q : VK} (n : ok O i = some .lst)
    (hs : ∀ {H : Hp} {ρ : Rho} {G F : Hp} {a : Addr} {xs : List V} {ds : List D} {y : V} {e f : D}, Rel X.K F P.fx O σ H ρ G → H a = some (.lst xs) → DpAll X.K G xs ds → Dp X.K H (.ref a) (.list ds) → Dp X.K G y e → g (.list ds) e = some f →
      (∀ v H' G', Rel X.K F P.fx O σ H' ρ G' → Ext F G G' → Dp X.K G' v f → Q v H') → r (.ref a) y H Q)
    (h : tX X P O (rE X.K) (binO i g Tb) σ H Q) : tOp r (tVar i) (tX X P O (rE X.K) Tb) σ H Q := by
  obtain ⟨ρ, G, F, rr, h⟩ := h
  unfold binO at h
  cases z : getS i ρ with
  | none => rw [z] at h; exact h.elim
  | some d0 =>
    rw [z] at h
    obtain ⟨a, qa⟩ := rr.bound z n
    refine ⟨.ref a, qa, ?_⟩
    refine tX_bind' (R := rE X.K) rr h fun y H2 e ρ2 G2 r2 e2 p2 h2 => ?_
    cases z2 : getS i ρ2 with
    | none => rw [z2] at h2; exact h2.elim
    | some d =>
      simp only [z2] at h2
      obtain ⟨a', xs, ds, ea, rfl, hH, hd, hp⟩ := r2.list z2 n qa
      cases ea
      cases z3 : g (.list ds) e with
      | none => rw [z3] at h2; exact h2.elim
      | some f =>
        rw [z3] at h2
        exact hs r2 hH hd hp p2 z3 h2
theorem ex_cmpO (i : Nat) {op : CmpOp} {g : D → D → Option D} (ho : OpR X (compareOp op) (rD X.K g)) (hg : ∀ d e f, g d e = some f → ∃ v, flatD f = some v) {x : Str} {b : Expr} {Tb : Rho → Out Rho D} {p pos : Pos} (hb : EX X P O b Tb) (hm : behindInMarks op b = false)
    (n : ok O i = some .lst := by rfl) (hN : X.N[i]? = some x := by rfl) (hv : Vis X.env.scope x := by first | exact Or.inl rfl | exact Or.inr (Or.inl rfl) | exact Or.inr (Or.inr rfl)) (hd : (x == ("__debug__" : Str)) = false := by decide) (hcd : (x == ("__classdict__" : Str)) = false := by decide) :
    EX X P O (.Compare (.Name x p) [op] [b] pos) (binO i g Tb) :=
  pe_mono (pe_cmpR ho (pe_var hN hv hd hcd) hb hm) fun σ H Q h => tX_binO n (fun {H ρ G F a xs ds y e f} r _ _ hx hy hf h => by
    obtain ⟨v, hv⟩ := hg _ e f hf
    exact ⟨_, e, f, v, hx, dp_mono r.gr hy, hf, hv, h v H G r (Ext.refl _ _) (flat_dp hv)⟩) h
theorem ex_ixO (i : Nat) {x : Str} {b : Expr} {Tb : Rho → Out Rho D} {p pos : Pos} (hb : EX X P O b Tb) (hs : PlainIx b := by exact fun _ _ => rfl)
    (n : ok O i = some .lst := by rfl) (hN : X.N[i]? = some x := by rfl) (hv : Vis X.env.scope x := by first | exact Or.inl rfl | exact Or.inr (Or.inl rfl) | exact Or.inr (Or.inr rfl)) (hd : (x == ("__debug__" : Str)) = false := by decide) (hcd : (x == ("__classdict__" : Str)) = false := by decide) :
    EX X P O (.Subscript (.Name x p) b pos) (binO i idxD Tb) :=
  pe_mono (pe_ix ix_list (pe_var hN hv hd hcd) hb hs) fun σ H Q h => tX_binO n (fun {H ρ G F a xs ds y e f} r hH hd hx hy hf h => by
    unfold idxD at hf
    cases e with
    | int j =>
      cases hy
      obtain ⟨v, h1, h2⟩ := atI_dp hd (show atI ds j = some f from hf)
      exact ⟨_, _, _, v, rfl, rfl, SqL.of hH, h1, h v H G r (Ext.refl _ _) h2⟩
    | _ => cases hf) h
/-- a built-in on one owned list -/
def callO (i : Nat) (g : List D → Option D) : Rho → Out Rho D := fun ρ => match getS i ρ with
  | none => .bad
  | some d => .of (g [d]) ρ
omit [PgW] in
theorem ax_own1 (i : Nat) {x : Str} {p : Pos} (hN : X.N[i]? = some x := by rfl) (hv : Vis X.env.scope x := by first | exact Or.inl rfl | exact Or.inr (Or.inl rfl) | exact Or.inr (Or.inr rfl)) (hd : (x == ("__debug__" : Str)) = false := by decide) (hcd : (x == ("__classdict__" : Str)) = false := by decide)
    (hs : starEach [.Name x p] X.env = (false, eval (.Name x p) X.env) :: starEach [] X.env := by rfl) : PA X [.Name x p] (tCons (tVar i) tNil) := pa_cons (pe_var hN hv hd hcd) pa_nil hs
theorem ex_callO (i : Nat) {id : String} {r : List V → Hp → VK → Prop} {g : List D → Option D} (hc : CallR X (.builtin id) r)
    (hsem : ∀ {σ : L2.St} {H : Hp} {ρ : Rho} {G F : Hp} {a : Addr} {xs : List V} {ds : List D} {f : D} {Q : VK}, Rel X.K F P.fx O σ H ρ G → H a = some (.lst xs) → DpAll X.K G xs ds → Dp X.K H (.ref a) (.list ds) → g [.list ds] = some f →
      (∀ v H' G', Rel X.K F P.fx O σ H' ρ G' → Ext F G G' → Dp X.K G' v f → Q v H') → r [.ref a] H Q) {x y : Str} {p p2 pos : Pos} (hm : X.mg x = none) (hv : bootBuiltins x = some (.builtin id)) (ha : PA X [.Name y p2] (tCons (tVar i) tNil))
    (n : ok O i = some .lst := by rfl) (hg : Gl X x := by rfl) (hn : x ≠ "__name__" := by decide) (hdb : (x == ("__debug__" : Str)) = false := by decide)
    (he : starEach [.Name y p2] X.env = (false, eval (.Name y p2) X.env) :: starEach [] X.env := by rfl) (hpl : (backTo pos (starEach [] X.env)).any (·.1) = false := by rfl) : EX X P O (.Call (.Name x p) [.Name y p2] [] pos) (callO i g) :=
  pe_mono (pe_callB hc hg hm hv ha hn hdb he hpl) fun σ H Q ⟨ρ, G, F, rr, h⟩ => by
    unfold callO at h
    cases z : getS i ρ with
    | none => rw [z] at h; exact h.elim
    | some d =>
      rw [z] at h
      obtain ⟨a, qa⟩ := rr.bound z n
      obtain ⟨a', xs, ds, ea, rfl, hH, hd, hp⟩ := rr.list z n qa
      cases ea
      refine ⟨.ref a, qa, ?_⟩
      show r [.ref a] H Q
      simp only at h
      cases z3 : g [.list ds] with
      | none => rw [z3] at h; exact h.elim
      | some f => rw [z3] at h; exact hsem rr hH hd hp z3 h
theorem ex_callTyO (i : Nat) {id : String} {r : List V → Hp → VK → Prop} {g : List D → Option D} (hc : CallR X (.type id) r)
    (hsem : ∀ {σ : L2.St} {H : Hp} {ρ : Rho} {G F : Hp} {a : Addr} {xs : List V} {ds : List D} {f : D} {Q : VK}, Rel X.K F P.fx O σ H ρ G → H a = some (.lst xs) → DpAll X.K G xs ds → Dp X.K H (.ref a) (.list ds) → g [.list ds] = some f →
      (∀ v H' G', Rel X.K F P.fx O σ H' ρ G' → Ext F G G' → Dp X.K G' v f → Q v H') → r [.ref a] H Q) {x y : Str} {p p2 pos : Pos} (hm : X.mg x = none) (hv : bootBuiltins x = some (.type id)) (ha : PA X [.Name y p2] (tCons (tVar i) tNil))
    (n : ok O i = some .lst := by rfl) (hg : Gl X x := by rfl) (hn : x ≠ "__name__" := by decide) (hdb : (x == ("__debug__" : Str)) = false := by decide)
    (he : starEach [.Name y p2] X.env = (false, eval (.Name y p2) X.env) :: starEach [] X.env := by rfl) (hpl : (backTo pos (starEach [] X.env)).any (·.1) = false := by rfl) : EX X P O (.Call (.Name x p) [.Name y p2] [] pos) (callO i g) :=
  pe_mono (pe_callTy hc hg hm hv ha hn hdb he hpl) fun σ H Q ⟨ρ, G, F, rr, h⟩ => by
    unfold callO at h
    cases z : getS i ρ with
    | none => rw [z] at h; exact h.elim
    | some d =>
      rw [z] at h
      obtain ⟨a, qa⟩ := rr.bound z n
      obtain ⟨a', xs, ds, ea, rfl, hH, hd, hp⟩ := rr.list z n qa
      cases ea
      refine ⟨.ref a, qa, ?_⟩
      show r [.ref a] H Q
      simp only at h
      cases z3 : g [.list ds] with
      | none => rw [z3] at h; exact h.elim
      | some f => rw [z3] at h; exact hsem rr hH hd hp z3 h
theorem own_rDN {g : List D → Option D} (hg : ∀ ds f, g ds = some f → ∃ v, flatD f = some v) : ∀ {σ : L2.St} {H : Hp} {ρ : Rho} {G F : Hp} {a : Addr} {xs : List V} {ds : List D} {f : D} {Q : VK}, Rel X.K F P.fx O σ H ρ G → H a = some (.lst xs) → DpAll X.K G xs ds → Dp X.K H (.ref a) (.list ds) → g [.list ds] = some f →
      (∀ v H' G', Rel X.K F P.fx O σ H' ρ G' → Ext F G G' → Dp X.K G' v f → Q v H') → rDN X.K g [.ref a] H Q := fun {σ H ρ G F a xs ds f Q} r _ _ hx hf h => by
  obtain ⟨v, hv⟩ := hg _ f hf
  exact ⟨_, f, v, .cons hx .nil, hf, hv, h v H G r (Ext.refl _ _) (flat_dp hv)⟩
theorem own_tupC : ∀ {σ : L2.St} {H : Hp} {ρ : Rho} {G F : Hp} {a : Addr} {xs : List V} {ds : List D} {f : D} {Q : VK}, Rel X.K F P.fx O σ H ρ G → H a = some (.lst xs) → DpAll X.K G xs ds → Dp X.K H (.ref a) (.list ds) → tupC [.list ds] = some f →
      (∀ v H' G', Rel X.K F P.fx O σ H' ρ G' → Ext F G G' → Dp X.K G' v f → Q v H') → rTupC X.K [.ref a] H Q := fun {σ H ρ G F a xs ds f Q} r hH hd hx hf h => by
  cases hf
  refine ⟨_, _, rfl, .inl ⟨SqL.of hH, fun l hl => ?_⟩⟩
  obtain ⟨r2, e2⟩ := r.alloc hl
  exact h _ _ _ r2 e2 (.tup (SqT.of upd_same) (dpAll_mono e2.1 hd))

/-! ### append, item store -/
def appT (i : Nat) (Ta : Rho → Out Rho D) : Rho → Out Rho Flw := fun ρ => match getS i ρ with
  | none => .bad
  | some _ => (Ta ρ).bind fun d ρ1 => match getS i ρ1 with
    | some (.list ds) => if ds.length < sizeLine then .ok .nx (ρ1.set i (some (.list (ds ++ [d])))) else .bad
    | _ => .bad
theorem sx_append (i : Nat) {x : Str} {e : Expr} {p apos cpos pos : Pos} {Ta : Rho → Out Rho D} (he : EX X P O e Ta) (hex : L.ex O) (n : ok O i = some .lst := by rfl)
    (hN : X.N[i]? = some x := by rfl) (hv : Vis X.env.scope x := by first | exact Or.inl rfl | exact Or.inr (Or.inl rfl) | exact Or.inr (Or.inr rfl)) (hd : (x == ("__debug__" : Str)) = false := by decide) (hcd : (x == ("__classdict__" : Str)) = false := by decide)
    (hs : starEach [e] X.env = (false, eval e X.env) :: starEach [] X.env := by rfl) (hline : (apos.endLine == cpos.line) = true := by rfl)
    (hbase : attributeBase (.Name x p) "append" X.env (eval (.Name x p) X.env) = eval (.Name x p) X.env := by rfl)
    (hfew : ((backTo cpos (starEach [e] X.env)).all (fun x => !x.1) && (backToKw cpos (keywordEach [] X.env)).all (fun x => x.1.isSome)
      && decide ([e].length + ([] : List Keyword).length + (if ([] : List Keyword).isEmpty then 0 else 1) < 30)) = true := by rfl)
    (hsw : swapsWith (.Call (.Attribute (.Name x p) "append" apos) [e] [] cpos) none pos.line X.env = pure false := by rfl) :
    SX X P L O O (.Expr (.Call (.Attribute (.Name x p) "append" apos) [e] [] cpos) pos) (appT i Ta) := by
  have h0 := pe_bm (X := X) PySem.F.plainAttrs_list PySem.F.slot_list_append PySem.F.type_list_append (mt_append) (pe_var hN hv hd hcd) (pa_cons he pa_nil hs) hbase hfew hline hs
  refine ps_mono (ps_expr h0 hsw) fun E σ H ⟨ρ, G, F, r, h⟩ => ?_
  unfold appT at h
  cases z : getS i ρ with
  | none => rw [z] at h; exact h.elim
  | some d0 =>
    rw [z] at h
    obtain ⟨a, qa⟩ := r.bound z n
    obtain ⟨a', xs0, ds0, ea, _, hH0, _, _⟩ := r.list z n qa
    cases ea
    refine ⟨.ref a, qa, .inl ⟨rfl, _, SqL.of hH0⟩, ?_⟩
    refine ⟨ρ, G, F, r, Fin.imp (FinS.ofE (R := rE X.K) hex h) fun v H1 ⟨d, ρ1, G1, r1, e1, dv, f1⟩ => ?_⟩
    cases z1 : getS i ρ1 with
    | none => rw [z1] at f1; exact f1.elim
    | some d1 =>
      obtain ⟨a', xs, ds, ea, rfl, hH, hd1, _⟩ := r1.list z1 n qa
      cases ea
      rw [z1] at f1
      simp only at f1
      by_cases hl : ds.length < sizeLine
      · rw [if_pos hl] at f1
        refine ⟨a, xs, v, rfl, rfl, hH, by rw [DpAll.len hd1]; exact hl, ?_⟩
        refine f1 σ _ G1 (r1.mutate (getS_some z1) n qa ⟨_, _, rfl, upd_same, hd1.append (.cons dv .nil)⟩) (Ext.refl _ _)
      · rw [if_neg hl] at f1; exact f1.elim
def stT (i : Nat) (Tk Te : Rho → Out Rho D) : Rho → Out Rho Flw := fun ρ => (Te ρ).bind fun d ρ1 => match getS i ρ1 with
  | none => .bad
  | some _ => (Tk ρ1).bind fun k ρ2 => match getS i ρ2, k with
    | some (.list ds), .int k => match ixN ds.length k with
      | some j => .ok .nx (ρ2.set i (some (.list (ds.set j d))))
      | none => .bad
    | _, _ => .bad
theorem sx_store (i : Nat) {x : Str} {k e : Expr} {p spos pos : Pos} {Tk Te : Rho → Out Rho D} (hk : EX X P O k Tk) (he : EX X P O e Te) (hex : L.ex O) (n : ok O i = some .lst := by rfl)
    (hN : X.N[i]? = some x := by rfl) (hv : Vis X.env.scope x := by first | exact Or.inl rfl | exact Or.inr (Or.inl rfl) | exact Or.inr (Or.inr rfl)) (hd : (x == ("__debug__" : Str)) = false := by decide) (hcd : (x == ("__classdict__" : Str)) = false := by decide)
    (hs : swapsWithSole [.Subscript (.Name x p) k spos] e pos.line X.env = pure false := by rfl) (hw : swappedStores [.Subscript (.Name x p) k spos] e X.env = pure none := by rfl)
    (h1 : (assignEach [.Subscript (.Name x p) k spos] X.env).map (·.2) = [assign (.Subscript (.Name x p) k spos) X.env] := by rfl)
    (ha : ∀ v, assign (.Subscript (.Name x p) k spos) X.env v = (do
      let ov ← holding [v] (eval (.Name x p) X.env)
      let iv ← holding [v, ov] (eval k X.env)
      standAt spos
      holding [v, ov, iv] (setItem ov iv v)
      release [v, ov, iv] []) := by intro _; rfl) : SX X P L O O (.Assign [.Subscript (.Name x p) k spos] e pos) (stT i Tk Te) := by
  refine ps_mono (ps_asg he (pg_sub (pe_var hN hv hd hcd) hk set_list ha) hs hw h1) fun E σ H ⟨ρ, G, F, r, h⟩ => ?_
  refine ⟨ρ, G, F, r, Fin.imp (FinS.ofE (R := rE X.K) hex h) fun v H1 ⟨d, ρ1, G1, r1, e1, dv, f1⟩ => ?_⟩
  cases z : getS i ρ1 with
  | none => rw [z] at f1; exact f1.elim
  | some d0 =>
    rw [z] at f1
    obtain ⟨a, qa⟩ := r1.bound z n
    refine ⟨.ref a, qa, ?_⟩
    refine ⟨ρ1, G1, F, r1, Fin.imp (FinS.ofE (R := rE X.K) hex f1) fun kv H2 ⟨kd, ρ2, G2, r2, e2, dk, f2⟩ => ?_⟩
    cases z2 : getS i ρ2 with
    | none => rw [z2] at f2; exact f2.elim
    | some d2 =>
      obtain ⟨a', xs, ds, ea, rfl, hH, hd2, _⟩ := r2.list z2 n qa
      cases ea
      rw [z2] at f2
      cases kd with
      | int m =>
        cases dk
        simp only at f2
        cases z3 : ixN ds.length m with
        | none => rw [z3] at f2; exact f2.elim
        | some j =>
          rw [z3] at f2
          refine ⟨a, xs, m, j, rfl, rfl, hH, by rw [DpAll.len hd2]; exact z3, ?_⟩
          exact f2 σ _ G2 (r2.mutate (getS_some z2) n qa ⟨_, _, rfl, upd_same, hd2.set j (dp_mono e2.1 dv)⟩) (Ext.refl _ _)
      | _ => exact f2.elim

/-! ### chains -/
def chainT (g g' : D → D → Option D) (Ta Tb Tc : Rho → Out Rho D) : Rho → Out Rho D := fun ρ => (Ta ρ).bind fun a ρ1 => (Tb ρ1).bind fun b ρ2 => match g a b with
  | some (.bool true) => (Tc ρ2).bind fun c ρ3 => .of (g' b c) ρ3
  | some (.bool false) => .ok (.bool false) ρ2
  | _ => .bad
theorem tx_chainZ {g g' : D → D → Option D} (hg' : ∀ d e f, g' d e = some f → ∃ v, flatD f = some v) {Ta Tb Tc : Rho → Out Rho D} {σ : L2.St} {H : Hp} {Q : VK} (h : tX X P O (rE X.K) (chainT g g' Ta Tb Tc) σ H Q) :
    tChain (rD X.K g) (rD X.K g') (tX X P O (rE X.K) Ta) (tX X P O (rE X.K) Tb) (tX X P O (rE X.K) Tc) σ H Q := by
  obtain ⟨ρ, G, F, rr, h⟩ := h
  refine tX_bind' (R := rE X.K) rr h fun x H1 d ρ1 G1 r1 e1 p1 h1 => ?_
  refine tX_bind' (R := rE X.K) r1 h1 fun y H2 e ρ2 G2 r2 e2 p2 h2 => ?_
  cases z : g d e with
  | none => rw [z] at h2; exact h2.elim
  | some f =>
    rw [z] at h2
    cases f with
    | bool b =>
      refine ⟨d, e, .bool b, .bl b, dp_mono r2.gr (dp_mono e2.1 p1), dp_mono r2.gr p2, z, rfl, b, rfl, ?_⟩
      cases b with
      | true =>
        rw [if_pos rfl]
        refine tX_bind' (R := rE X.K) r2 h2 fun w H3 c ρ3 G3 r3 e3 p3 h3 => ?_
        cases z' : g' e c with
        | none => rw [z'] at h3; exact h3.elim
        | some f =>
          rw [z'] at h3
          obtain ⟨v, hv⟩ := hg' _ _ f z'
          exact ⟨e, c, f, v, dp_mono r3.gr (dp_mono e3.1 p2), dp_mono r3.gr p3, z', hv, h3 v H3 G3 r3 (Ext.refl _ _) (flat_dp hv)⟩
      | false =>
        rw [if_neg Bool.false_ne_true]
        exact h2 _ H2 G2 r2 (Ext.refl _ _) (.bl false)
    | _ => exact h2.elim
theorem ex_chain {op op' : CmpOp} {g g' : D → D → Option D} (ho : OpR X (compareOp op) (rD X.K g)) (ho' : OpR X (compareOp op') (rD X.K g')) (hg' : ∀ d e f, g' d e = some f → ∃ v, flatD f = some v) {a b c : Expr} {Ta Tb Tc : Rho → Out Rho D} {pos : Pos} (ha : EX X P O a Ta) (hb : EX X P O b Tb) (hc : EX X P O c Tc)
    (hm : lastMarks [op, op'] [b, c] = false := by with_unfolding_all rfl) : EX X P O (.Compare a [op, op'] [b, c] pos) (chainT g g' Ta Tb Tc) :=
  pe_mono (pe_chain ho ho' ha hb hc hm) fun _ _ _ h => tx_chainZ hg' h
theorem tx_chain {op op' : CmpOp} {g g' : D → D → Option D} (ho : OpR X (compareOp op) (rD X.K g)) (ho' : OpR X (compareOp op') (rD X.K g')) (hg' : ∀ d e f, g' d e = some f → ∃ v, flatD f = some v) {a b c : Expr} {Ta Tb Tc : Rho → Out Rho D} {pos : Pos} (ha : EX X P O a Ta) (hb : EX X P O b Tb) (hc : EX X P O c Tc)
    (hm : lastMarks [op, op'] [b, c] = false := by with_unfolding_all rfl) : TX X P O (.Compare a [op, op'] [b, c] pos) (isB (chainT g g' Ta Tb Tc)) :=
  pt_mono (pt_chain ho ho' ha hb hc hm) fun _ _ _ h => tx_chainZ hg' (tT_of h)

/-! ### isinstance -/
def tyD : D → Option String
  | .none => some "NoneType"
  | .bool _ => some "bool"
  | .int _ => some "int"
  | .str _ => some "str"
  | .list _ => some "list"
  | .tuple _ => some "tuple"
  | .dict _ => none
theorem dp_ty {K : PySem.W.Frag} {H : Hp} {v : V} {d : D} {t : String} (h : Dp K H v d) (e : tyD d = some t) : TyX K H v (.type t) := by
  cases h with
  | non => cases e; exact .base .non
  | bl b => cases e; exact .base (.bl b)
  | int b => cases e; exact .base (.int b)
  | str b => cases e; exact .base (.str b)
  | lst q _ =>
    cases e
    rcases q with (q | ⟨o, q⟩) | ⟨o, its, n, q, c, _⟩
    · exact .base (.lst q)
    · exact .base (.frz q)
    · exact .kList q c
  | tup q _ =>
    cases e
    rcases q with (q | ⟨o, q⟩) | ⟨o, its, n, q, c, _⟩
    · exact .base (.tup q)
    · exact .fTuple q
    · exact .kTuple q c
  | dct q _ => cases e
/-- which types are instances of which (of the built-in ones that the trees know) -/
def subTy (a b : String) : Bool := a == b || (a == "bool" && b == "int") || b == "object"
def knownTy : List String := ["NoneType", "bool", "int", "str", "list", "tuple"]
omit [PgW] in
theorem kitB_known : ∀ a ∈ knownTy, ∀ b ∈ knownTy.tail, kitB a b = some (subTy a b) := by decide +kernel
omit [PgW] in
theorem tyD_known {d : D} {t : String} (h : tyD d = some t) : t ∈ knownTy := by
  cases d <;> simp [tyD] at h <;> subst h <;> decide
/-- isinstance(x, t) for one of bool, int, str, list, tuple -/
def isiD (b : String) (d : D) : Option D := (tyD d).map fun t => .bool (subTy t b)
def isiT (b : String) (T : Rho → Out Rho D) : Rho → Out Rho D := fun ρ => (T ρ).bind fun d ρ1 => .of (isiD b d) ρ1
theorem ex_isi {b : String} {e : Expr} {T : Rho → Out Rho D} {x : Str} {p p2 pos : Pos} (he : EX X P O e T) (hb : b ∈ knownTy.tail) (hm : X.mg "isinstance" = none) (hm2 : X.mg x = none) (hv2 : bootBuiltins x = some (.type b)) (hg2 : Gl X x := by rfl)
    (hg : Gl X "isinstance" := by rfl) (hdb2 : (x == ("__debug__" : Str)) = false := by decide) (hnn2 : x ≠ "__name__" := by decide)
    (hs : starEach [e, .Name x p2] X.env = (false, eval e X.env) :: starEach [.Name x p2] X.env := by rfl) (hs2 : starEach [.Name x p2] X.env = (false, eval (.Name x p2) X.env) :: starEach [] X.env := by rfl) (hpl : (backTo pos (starEach [.Name x p2] X.env)).any (·.1) = false := by rfl) :
    EX X P O (.Call (.Name "isinstance" p) [e, .Name x p2] [] pos) (isiT b T) := by
  have hty : PE X (.Name x p2) (tC (.ty b)) := pe_bltn hg2 hm2 hv2 (show L2.RelV (.ty b) (.type b) from rfl) hnn2 hdb2
  refine pe_mono (pe_callB call_isi hg hm (by rfl) (pa_cons he (pa_cons hty pa_nil hs2) hs) (by decide) (by decide) hs hpl) fun σ H Q ⟨ρ, G, F, rr, h⟩ => ?_
  refine tX_bind' (R := rE X.K) rr h fun v H1 d ρ1 G1 r1 e1 p1 h1 => ?_
  show rIsi X.K [v, .ty b] H1 Q
  unfold isiD at h1
  cases z : tyD d with
  | none => rw [z] at h1; exact h1.elim
  | some t =>
    rw [z] at h1
    exact ⟨v, .ty b, .type t, .type b, subTy t b, rfl, .ty b, dp_ty (dp_mono r1.gr p1) z, kit_ty (kitB_known t (tyD_known z) b hb), h1 _ H1 G1 r1 (Ext.refl _ _) (.bl _)⟩

/-! ### sum -/
def sumD : List D → Option D
  | [.list ds] => (intsOf ds).map fun ns => .int ns.sum
  | [.tuple ds] => (intsOf ds).map fun ns => .int ns.sum
  | _ => none
omit [PgW] in
theorem sumD_flat (ds : List D) (f : D) (h : sumD ds = some f) : ∃ v, flatD f = some v := by
  unfold sumD at h
  split at h
  · obtain ⟨b, _, e⟩ := Option.map_eq_some_iff.mp h
    subst e; exact ⟨_, rfl⟩
  · obtain ⟨b, _, e⟩ := Option.map_eq_some_iff.mp h
    subst e; exact ⟨_, rfl⟩
  · cases h
theorem call_sumZ (hc : X.calm = true) : CallR X (.builtin "sum") (rDN X.K sumD) := by
  intro pins s σ H xs us Q I r ⟨ds, f, v, hd, hf, hv, q⟩
  unfold sumD at hf
  split at hf
  · obtain ⟨ns, hb, e⟩ := Option.map_eq_some_iff.mp hf
    subst e; cases hv
    obtain ⟨x, rfl, hx⟩ := dpAll1 hd
    cases hx with
    | lst a b =>
      rw [intsOf_eq hb] at b
      exact cr_sum hc pins s σ H _ us Q I r ⟨_, ns, rfl, by rw [← DpAll.ints b]; exact a, q⟩
  · obtain ⟨ns, hb, e⟩ := Option.map_eq_some_iff.mp hf
    subst e; cases hv
    obtain ⟨x, rfl, hx⟩ := dpAll1 hd
    cases hx with
    | tup a b =>
      rw [intsOf_eq hb] at b
      obtain ⟨its, rv, hl, _⟩ := I.tuple a
      rw [DpAll.ints b] at rv
      rw [Vals.ref1 r]
      have hi := rv.ints
      obtain ⟨ys, hx⟩ := hi.allInts.items
      have hn : numsOf its.toArray.toList = ns := by rw [show its.toArray.toList = its from rfl, hi.numsOf]
      rw [hx] at hl hn
      rw [nums_intItems] at hn
      refine PySem.W.ktm_sumG (I.ok.hd hc) hl fun h' tk t' hk => ?_
      rw [preSum_eq, List.take_of_length_le (by simp), hn]
      exact ⟨.int _, H, I.kept hk, ⟨_, rfl⟩, q⟩
  · cases hf
/-! ### list(x), fresh -/
def lstC : D → Option D
  | .list ds => some (.list ds)
  | .tuple ds => some (.list ds)
  | _ => none
theorem fx_list {e : Expr} {T : Rho → Out Rho D} {p pos : Pos} (he : EX X P O e T) (hm : X.mg "list" = none) (hg : Gl X "list" := by rfl) (hs : starEach [e] X.env = (false, eval e X.env) :: starEach [] X.env := by rfl) (hpl : (backTo pos (starEach [] X.env)).any (·.1) = false := by rfl) :
    FX X P O .lst (.Call (.Name "list" p) [e] [] pos) (fun ρ => (T ρ).bind fun d ρ1 => .of (lstC d) ρ1) := by
  refine pe_mono (pe_callTy call_list_of hg hm (by rfl) (pa_cons he pa_nil hs) (by decide) (by decide) hs hpl) fun σ H Q ⟨ρ, G, F, rr, h⟩ => ?_
  refine tX_bind' (R := rE X.K) rr h fun v H1 d ρ1 G1 r1 e1 p1 h1 => ?_
  show ∃ p ys, [v] = [V.ref p] ∧ _
  cases d with
  | list ds =>
    cases p1 with
    | lst q p => exact ⟨_, _, rfl, .inl (sqL_mono r1.gr q), fun l hl => h1 _ _ _ (r1.side hl) (Ext.refl _ _) (fresh_at r1 hl p)⟩
  | tuple ds =>
    cases p1 with
    | tup q p => exact ⟨_, _, rfl, .inr (sqT_mono r1.gr q), fun l hl => h1 _ _ _ (r1.side hl) (Ext.refl _ _) (fresh_at r1 hl p)⟩
  | _ => exact h1.elim
end
end Z

/-! file ZCall -/
set_option Elab.async false
set_option linter.all false
set_option autoImplicit false
set_option maxRecDepth 100000
set_option maxHeartbeats 4000000
/-! defs: what they promise over trees; calls -/
namespace Z
open PySem PySem.Spec PyProof.Rows L2
variable [PgW]

/-- the arguments of a promise -/
structure ArgZ (K : PySem.W.Frag) (H G F : Hp) (ks : List (Option OKd)) (vs : List V) (ds : List D) : Prop where
  l1 : ks.length = vs.length
  l2 : vs.length = ds.length
  sh : ∀ (i : Nat) (d : D), ks[i]? = some none → ds[i]? = some d → ∃ v, vs[i]? = some v ∧ Dp K G v d
  ow : ∀ (i : Nat) (k : OKd) (d : D), ks[i]? = some (some k) → ds[i]? = some d → ∃ a : Addr, vs[i]? = some (.ref a) ∧ OwnAt K H G k a d ∧ F a = none ∧ G a = none
  dj : ∀ (i j : Nat) (k l : OKd) (a : Addr), ks[i]? = some (some k) → ks[j]? = some (some l) → vs[i]? = some (.ref a) → vs[j]? = some (.ref a) → i = j
/-- what the owned ones are behind a call -/
def OutZ (K : PySem.W.Frag) (H G : Hp) : List (Option OKd) → List V → List D → Prop
  | [], [], [] => True
  | none :: ks, _ :: vs, os => OutZ K H G ks vs os
  | some k :: ks, v :: vs, o :: os => (∃ a, v = .ref a ∧ OwnAt K H G k a o ∧ G a = none) ∧ OutZ K H G ks vs os
  | _, _, _ => False
/-- what is returned -/
def RetZ (K : PySem.W.Frag) (rk : Option OKd) (F H G : Hp) (ks : List (Option OKd)) (vs : List V) (v : V) (d : D) : Prop := match rk with
  | none => Dp K G v d
  | some k => ∃ p, v = .ref p ∧ OwnAt K H G k p d ∧ F p = none ∧ G p = none ∧ ∀ (i : Nat) (l : OKd), ks[i]? = some (some l) → vs[i]? ≠ some (V.ref p)
def PostZ (K : PySem.W.Frag) (mg : Str → Option Value) (ks : List (Option OKd)) (rk : Option OKd) (F G : Hp) (vs : List V) (o : Out (List D) D) (Q : VK) (E : XK) : Prop := match o with
  | .ok d os => ∀ v H' G', (∀ a o, F a = some o → H' a = some o) → (∀ a o, G' a = some o → H' a = some o) → Ext F G G' → OutZ K H' G' ks vs os → RetZ K rk F H' G' ks vs v d → Q v H'
  | .exc c fs os => ∀ cls de H' G', (∀ a o, F a = some o → H' a = some o) → (∀ a o, G' a = some o → H' a = some o) → Ext F G G' → OutZ K H' G' ks vs os → ExcR K mg G' c fs cls de → E cls de H'
  | .bad => False
def spZ (K : PySem.W.Frag) (mg : Str → Option Value) (ks : List (Option OKd)) (rk : Option OKd) (S : List D → Out (List D) D) : Sp := fun vs H Q E =>
  ∃ ds G F, (∀ a o, F a = some o → H a = some o) ∧ (∀ a o, G a = some o → H a = some o) ∧ ArgZ K H G F ks vs ds ∧ PostZ K mg ks rk F G vs (S ds) Q E

/-! ### the caller -/
def JAll (K : PySem.W.Frag) (σ : L2.St) (G : Hp) : List (Option Nat) → List V → List D → Prop
  | [], [], [] => True
  | none :: js, v :: vs, d :: ds => Dp K G v d ∧ JAll K σ G js vs ds
  | some i :: js, v :: vs, _ :: ds => σ[i]? = some (some v) ∧ JAll K σ G js vs ds
  | _, _, _ => False
def rJ (K : PySem.W.Frag) (js : List (Option Nat)) : RR (List V) (List D) := fun _ σ _ _ G vs ds => JAll K σ G js vs ds
def AJ (X : Cx) (P : Pm) (O : Own) (es : List Expr) (js : List (Option Nat)) (T : Rho → Out Rho (List D)) : Prop := PA X es (tX X P O (rJ X.K js) T)
theorem JAll.mono {K : PySem.W.Frag} {σ : L2.St} {G G' : Hp} (h : ∀ a o, G a = some o → G' a = some o) : ∀ {js : List (Option Nat)} {vs : List V} {ds : List D}, JAll K σ G js vs ds → JAll K σ G' js vs ds
  | [], [], [], _ => trivial
  | none :: js, v :: vs, d :: ds, ⟨a, b⟩ => ⟨dp_mono h a, JAll.mono h b⟩
  | some i :: js, v :: vs, d :: ds, ⟨a, b⟩ => ⟨a, JAll.mono (js := js) h b⟩
  | [], [], _ :: _, q | [], _ :: _, _, q | none :: _, [], _, q | none :: _, _ :: _, [], q | some _ :: _, [], _, q | some _ :: _, _ :: _, [], q => q.elim
/-- the trees of owned arguments are read last -/
def fillJ : List (Option Nat) → List D → Rho → Option (List D)
  | [], [], _ => some []
  | none :: js, d :: ds, ρ => (fillJ js ds ρ).map (d :: ·)
  | some i :: js, _ :: ds, ρ => (getS i ρ).bind fun d => (fillJ js ds ρ).map (d :: ·)
  | _, _, _ => none
def putJ : List (Option Nat) → List D → Rho → Rho
  | none :: js, os, ρ => putJ js os ρ
  | some i :: js, o :: os, ρ => putJ js os (ρ.set i (some o))
  | _, _, ρ => ρ
def distinctJ : List (Option Nat) → Bool
  | [] => true
  | none :: js => distinctJ js
  | some i :: js => !js.contains (some i) && distinctJ js
omit [PgW] in
theorem distinctJ_at : ∀ {js : List (Option Nat)} {m m' i : Nat}, distinctJ js = true → js[m]? = some (some i) → js[m']? = some (some i) → m = m'
  | [], m, m', i, _, h, _ => by simp at h
  | j :: js, 0, 0, i, _, _, _ => rfl
  | none :: js, 0, m' + 1, i, _, h, _ => by simp at h
  | none :: js, m + 1, 0, i, _, _, h => by simp at h
  | none :: js, m + 1, m' + 1, i, hd, h, h' => congrArg (· + 1) (distinctJ_at (js := js) hd (by simpa using h) (by simpa using h'))
  | some k :: js, 0, m' + 1, i, hd, h, h' => by
    simp at h h'
    subst h
    simp [distinctJ] at hd
    exact absurd (List.mem_iff_getElem?.mpr ⟨_, h'⟩) hd.1
  | some k :: js, m + 1, 0, i, hd, h, h' => by
    simp at h h'
    subst h'
    simp [distinctJ] at hd
    exact absurd (List.mem_iff_getElem?.mpr ⟨_, h⟩) hd.1
  | some k :: js, m + 1, m' + 1, i, hd, h, h' => by
    simp [distinctJ] at hd
    exact congrArg (· + 1) (distinctJ_at (js := js) hd.2 (by simpa using h) (by simpa using h'))
section
variable {X : Cx} {P : Pm} {L : Lp} {O O' O1 : Own}
theorem aj_nil : AJ X P O [] [] nilT := pa_mono pa_nil fun σ H Q ⟨ρ, G, F, r, h⟩ => h [] H G r (Ext.refl _ _) trivial
theorem aj_cons {e : Expr} {es : List Expr} {js : List (Option Nat)} {Ta : Rho → Out Rho D} {Tb : Rho → Out Rho (List D)} (ha : EX X P O e Ta) (hb : AJ X P O es js Tb) (hs : starEach (e :: es) X.env = (false, eval e X.env) :: starEach es X.env := by rfl) : AJ X P O (e :: es) (none :: js) (consT Ta Tb) := by
  refine pa_mono (pa_cons ha hb hs) fun σ H Q ⟨ρ, G, F, rr, h⟩ => ?_
  refine tX_bind' (R := rE X.K) rr h fun x H1 d ρ1 G1 r1 e1 p1 h1 => ?_
  refine tX_bind' (R := rJ X.K js) r1 h1 fun xs H2 ds ρ2 G2 r2 e2 p2 h2 => ?_
  exact h2 (x :: xs) H2 G2 r2 (Ext.refl _ _) ⟨dp_mono e2.1 p1, p2⟩
def ownT (i : Nat) (Tb : Rho → Out Rho (List D)) : Rho → Out Rho (List D) := fun ρ => match getS i ρ with
  | none => .bad
  | some _ => (Tb ρ).bind fun ds ρ2 => .ok (.none :: ds) ρ2
theorem aj_own (i : Nat) {k : OKd} {x : Str} {p : Pos} {es : List Expr} {js : List (Option Nat)} {Tb : Rho → Out Rho (List D)} (hb : AJ X P O es js Tb) (n : ok O i = some k := by rfl)
    (hN : X.N[i]? = some x := by rfl) (hv : Vis X.env.scope x := by first | exact Or.inl rfl | exact Or.inr (Or.inl rfl) | exact Or.inr (Or.inr rfl)) (hd : (x == ("__debug__" : Str)) = false := by decide) (hcd : (x == ("__classdict__" : Str)) = false := by decide)
    (hs : starEach (.Name x p :: es) X.env = (false, eval (.Name x p) X.env) :: starEach es X.env := by rfl) : AJ X P O (.Name x p :: es) (some i :: js) (ownT i Tb) := by
  refine pa_mono (pa_cons (pe_var hN hv hd hcd) hb hs) fun σ H Q ⟨ρ, G, F, rr, h⟩ => ?_
  unfold ownT at h
  cases z : getS i ρ with
  | none => rw [z] at h; exact h.elim
  | some d0 =>
    rw [z] at h
    obtain ⟨a, qa⟩ := rr.bound z n
    refine ⟨.ref a, qa, ?_⟩
    refine tX_bind' (R := rJ X.K js) rr h fun xs H2 ds ρ2 G2 r2 e2 p2 h2 => ?_
    exact h2 (.ref a :: xs) H2 G2 r2 (Ext.refl _ _) ⟨qa, p2⟩
/-- which kinds stand where -/
def kindsJ (O : Own) (js : List (Option Nat)) : List (Option (Option OKd)) := js.map fun j => j.map (ok O)
def kindsK (ks : List (Option OKd)) : List (Option (Option OKd)) := ks.map (Option.map some)
omit [PgW] in
theorem kinds_at {ks : List (Option OKd)} {js : List (Option Nat)} (h : kindsJ O js = kindsK ks) {m : Nat} : (js[m]?).map (fun j => j.map (ok O)) = (ks[m]?).map (Option.map some) := by
  have := congrArg (fun l => l[m]?) h
  simpa [kindsJ, kindsK] using this
omit [PgW] in
theorem kinds_own {ks : List (Option OKd)} {js : List (Option Nat)} (h : kindsJ O js = kindsK ks) {m : Nat} {k : OKd} (e : ks[m]? = some (some k)) : ∃ i : Nat, js[m]? = some (some i) ∧ ok O i = some k := by
  have q := kinds_at h (m := m)
  rw [e] at q
  cases z : js[m]? with
  | none => rw [z] at q; cases q
  | some j =>
    rw [z] at q
    cases j with
    | none => cases q
    | some i => exact ⟨i, rfl, Option.some.inj (Option.some.inj q)⟩
omit [PgW] in
theorem kinds_none {ks : List (Option OKd)} {js : List (Option Nat)} (h : kindsJ O js = kindsK ks) {m : Nat} (e : ks[m]? = some none) : js[m]? = some none := by
  have q := kinds_at h (m := m)
  rw [e] at q
  cases z : js[m]? with
  | none => rw [z] at q; cases q
  | some j =>
    rw [z] at q
    cases j with
    | none => rfl
    | some i => cases q
omit [PgW] in
theorem kinds_slot {ks : List (Option OKd)} {js : List (Option Nat)} (h : kindsJ O js = kindsK ks) {i : Nat} (e : some i ∈ js) : ∃ (m : Nat) (k : OKd), js[m]? = some (some i) ∧ ks[m]? = some (some k) ∧ ok O i = some k := by
  obtain ⟨m, hm⟩ := List.mem_iff_getElem?.mp e
  have q := kinds_at h (m := m)
  rw [hm] at q
  cases z : ks[m]? with
  | none => rw [z] at q; cases q
  | some u =>
    rw [z] at q
    cases u with
    | none => cases q
    | some k => exact ⟨m, k, hm, z, Option.some.inj (Option.some.inj q)⟩
theorem JAll.at {K : PySem.W.Frag} {σ : L2.St} {G : Hp} : ∀ {js : List (Option Nat)} {vs : List V} {ds ds' : List D} {ρ : Rho}, JAll K σ G js vs ds → fillJ js ds ρ = some ds' → js.length = vs.length ∧ vs.length = ds'.length ∧
    ∀ (m : Nat) (d : D), ds'[m]? = some d → ∃ v, vs[m]? = some v ∧ (js[m]? = some none → Dp K G v d) ∧ ∀ i, js[m]? = some (some i) → σ[i]? = some (some v) ∧ getS i ρ = some d
  | [], [], [], ds', ρ, _, h => by
    cases h
    exact ⟨rfl, rfl, fun m d e => by simp at e⟩
  | none :: js, v :: vs, d :: ds, ds', ρ, ⟨a, b⟩, h => by
    obtain ⟨es, h1, h2⟩ := Option.map_eq_some_iff.mp (show (fillJ js ds ρ).map (d :: ·) = some ds' from h)
    subst h2
    obtain ⟨l1, l2, q⟩ := JAll.at b h1
    refine ⟨congrArg (· + 1) l1, congrArg (· + 1) l2, fun m d' e => ?_⟩
    cases m with
    | zero =>
      simp at e
      subst e
      exact ⟨v, rfl, fun _ => a, fun i z => by simp at z⟩
    | succ m => simpa using q m d' (by simpa using e)
  | some i :: js, v :: vs, d :: ds, ds', ρ, ⟨a, b⟩, h => by
    obtain ⟨d0, h0, h⟩ := Option.bind_eq_some_iff.mp (show (getS i ρ).bind (fun d => (fillJ js ds ρ).map (d :: ·)) = some ds' from h)
    obtain ⟨es, h1, h2⟩ := Option.map_eq_some_iff.mp h
    subst h2
    obtain ⟨l1, l2, q⟩ := JAll.at b h1
    refine ⟨congrArg (· + 1) l1, congrArg (· + 1) l2, fun m d' e => ?_⟩
    cases m with
    | zero =>
      simp at e
      subst e
      exact ⟨v, rfl, fun z => by simp at z, fun j z => by simp at z; subst z; exact ⟨a, h0⟩⟩
    | succ m => simpa using q m d' (by simpa using e)
  | [], [], _ :: _, _, _, q, _ | [], _ :: _, _, _, _, q, _ | none :: _, [], _, _, _, q, _ | none :: _, _ :: _, [], _, _, q, _ | some _ :: _, [], _, _, _, q, _ | some _ :: _, _ :: _, [], _, _, q, _ => q.elim
omit [PgW] in
theorem putJ_len : ∀ (js : List (Option Nat)) (os : List D) (ρ : Rho), (putJ js os ρ).length = ρ.length
  | [], _, _ => rfl
  | none :: js, os, ρ => putJ_len js os ρ
  | some i :: js, [], ρ => rfl
  | some i :: js, o :: os, ρ => by
    show (putJ js os (ρ.set i (some o))).length = _
    rw [putJ_len js os, List.length_set]
omit [PgW] in
theorem putJ_bound {i : Nat} : ∀ {js : List (Option Nat)} {os : List D} {ρ : Rho}, (∃ d, ρ[i]? = some (some d)) → ∃ d, (putJ js os ρ)[i]? = some (some d)
  | [], _, _, h => h
  | none :: js, os, ρ, h => putJ_bound (js := js) h
  | some j :: js, [], ρ, h => h
  | some j :: js, o :: os, ρ, ⟨d, h⟩ => by
    refine putJ_bound (js := js) (os := os) (ρ := ρ.set j (some o)) ?_
    by_cases z : j = i
    · subst z; exact ⟨o, List.getElem?_set_self (List.getElem?_eq_some_iff.mp h).1⟩
    · exact ⟨d, by rw [List.getElem?_set_ne z]; exact h⟩
/-- the slots behind a call -/
theorem putJ_at {K : PySem.W.Frag} {σ : L2.St} {H' G G' : Hp} {i : Nat} {d : D} : ∀ {js : List (Option Nat)} {ks : List (Option OKd)} {vs : List V} {ds os : List D} {ρ : Rho}, kindsJ O js = kindsK ks → JAll K σ G js vs ds → OutZ K H' G' ks vs os → (putJ js os ρ)[i]? = some (some d) →
    (ρ[i]? = some (some d) ∧ some i ∉ js) ∨ (some i ∈ js ∧ ∃ a k, σ[i]? = some (some (.ref a)) ∧ ok O i = some k ∧ OwnAt K H' G' k a d ∧ G' a = none)
  | [], ks, vs, ds, os, ρ, _, _, _, h => .inl ⟨h, by simp⟩
  | none :: js, [], _, _, _, _, hk, _, _, _ => by cases hk
  | some _ :: js, [], _, _, _, _, hk, _, _, _ => by cases hk
  | none :: js, some k :: ks, _, _, _, _, hk, _, _, _ => by simp [kindsJ, kindsK] at hk
  | none :: js, none :: ks, v :: vs, d0 :: ds, os, ρ, hk, ⟨_, b⟩, ho, h => by
    have hk' : kindsJ O js = kindsK ks := by simpa [kindsJ, kindsK] using hk
    rcases putJ_at hk' b ho h with ⟨h1, h2⟩ | ⟨h1, h2⟩
    · exact .inl ⟨h1, by simpa using h2⟩
    · exact .inr ⟨by simp [h1], h2⟩
  | some j :: js, none :: ks, _, _, _, _, hk, _, _, _ => by simp [kindsJ, kindsK] at hk
  | some j :: js, some k :: ks, v :: vs, d0 :: ds, o :: os, ρ, hk, ⟨a0, b⟩, ⟨⟨a, ev, w, g⟩, ho⟩, h => by
    have hk' : ok O j = some k ∧ kindsJ O js = kindsK ks := by simpa [kindsJ, kindsK] using hk
    rcases putJ_at hk'.2 b ho (show (putJ js os (ρ.set j (some o)))[i]? = some (some d) from h) with ⟨h1, h2⟩ | ⟨h1, h2⟩
    · by_cases z : j = i
      · subst z
        have hl : j < ρ.length := by
          have := (List.getElem?_eq_some_iff.mp h1).1
          simpa using this
        rw [List.getElem?_set_self hl] at h1
        cases h1
        subst ev
        exact .inr ⟨by simp, a, k, a0, hk'.1, w, g⟩
      · rw [List.getElem?_set_ne z] at h1
        refine .inl ⟨h1, ?_⟩
        simp only [List.mem_cons, not_or]
        exact ⟨fun e => z (Option.some.inj e).symm, h2⟩
    · exact .inr ⟨by simp [h1], h2⟩
  | some j :: js, some k :: ks, v :: vs, d0 :: ds, [], ρ, hk, _, ho, h => ho.elim
  | none :: _, none :: _, [], _, _, _, _, q, _, _ | none :: _, none :: _, _ :: _, [], _, _, _, q, _, _ | some _ :: _, some _ :: _, [], _, _, _, _, q, _, _ | some _ :: _, some _ :: _, _ :: _, [], _, _, _, q, _, _ => q.elim
open Classical in
/-- the caller's heap without what is handed over -/
noncomputable def lessJ (σ : L2.St) (js : List (Option Nat)) (H : Hp) : Hp := fun a => if (∃ i, some i ∈ js ∧ σ[i]? = some (some (.ref a))) then none else H a
omit [PgW] in
theorem less_some {σ : L2.St} {js : List (Option Nat)} {H : Hp} {a : Addr} {o : HO} (h : lessJ σ js H a = some o) : H a = some o := by
  unfold lessJ at h
  split at h
  · cases h
  · exact h
omit [PgW] in
theorem less_in {σ : L2.St} {js : List (Option Nat)} {H : Hp} {a : Addr} {i : Nat} (h : some i ∈ js) (q : σ[i]? = some (some (.ref a))) : lessJ σ js H a = none := by
  unfold lessJ
  rw [if_pos ⟨i, h, q⟩]
omit [PgW] in
theorem less_out {σ : L2.St} {js : List (Option Nat)} {H : Hp} {a : Addr} (h : ∀ i, some i ∈ js → σ[i]? ≠ some (some (.ref a))) : lessJ σ js H a = H a := by
  unfold lessJ
  rw [if_neg (fun ⟨i, h1, h2⟩ => h i h1 h2)]
section
variable {K : PySem.W.Frag} {F H G : Hp} {fx : List (Nat × Addr)} {σ : L2.St} {ρ : Rho} {js : List (Option Nat)} {ks : List (Option OKd)} {vs : List V} {ds ds' : List D}
theorem argZ_of (r : Rel K F fx O σ H ρ G) (hk : kindsJ O js = kindsK ks) (hj : distinctJ js = true) (ha : JAll K σ G js vs ds) (hf : fillJ js ds ρ = some ds') : ArgZ K H G (lessJ σ js H) ks vs ds' := by
  obtain ⟨l1, l2, q⟩ := ha.at hf
  have lk : ks.length = js.length := by
    have := congrArg List.length hk
    simpa [kindsJ, kindsK] using this.symm
  refine ⟨lk.trans l1, l2, fun m d e ed => ?_, fun m k d e ed => ?_, fun m m' k l a e e' h h' => ?_⟩
  · obtain ⟨v, hv, h1, _⟩ := q m d ed
    exact ⟨v, hv, h1 (kinds_none hk e)⟩
  · obtain ⟨v, hv, _, h2⟩ := q m d ed
    obtain ⟨i, hi, ho⟩ := kinds_own hk e
    obtain ⟨h3, h4⟩ := h2 i hi
    obtain ⟨a, qa, w, f, g⟩ := r.ow i d k (getS_some h4) ho
    rw [h3] at qa
    cases qa
    exact ⟨a, hv, w, less_in (List.mem_iff_getElem?.mpr ⟨_, hi⟩) h3, g⟩
  · obtain ⟨i, hi, ho⟩ := kinds_own hk e
    obtain ⟨i', hi', ho'⟩ := kinds_own hk e'
    have t1 : ∃ d, ds'[m]? = some d := by
      have : m < ds'.length := by have := (List.getElem?_eq_some_iff.mp h).1; omega
      exact ⟨_, List.getElem?_eq_getElem this⟩
    have t2 : ∃ d, ds'[m']? = some d := by
      have : m' < ds'.length := by have := (List.getElem?_eq_some_iff.mp h').1; omega
      exact ⟨_, List.getElem?_eq_getElem this⟩
    obtain ⟨d, hd⟩ := t1
    obtain ⟨d', hd'⟩ := t2
    obtain ⟨v, hv, _, h2⟩ := q m d hd
    obtain ⟨v', hv', _, h2'⟩ := q m' d' hd'
    rw [h] at hv; cases hv
    rw [h'] at hv'; cases hv'
    obtain ⟨s1, s2⟩ := h2 i hi
    obtain ⟨s1', s2'⟩ := h2' i' hi'
    have ei := r.dj i i' d d' k l a (getS_some s2) (getS_some s2') ho ho' s1 s1'
    subst ei
    exact distinctJ_at hj hi hi'
/-- behind a call -/
theorem Rel.behind (r : Rel K F fx O σ H ρ G) (hk : kindsJ O js = kindsK ks) (ha : JAll K σ G js vs ds) (hf : fillJ js ds ρ = some ds') {H' G' : Hp} {os : List D} (hF : ∀ a o, lessJ σ js H a = some o → H' a = some o) (hG : ∀ a o, G' a = some o → H' a = some o)
    (e : Ext (lessJ σ js H) G G') (ho : OutZ K H' G' ks vs os) : Rel K F fx O σ H' (putJ js os ρ) G' ∧ Ext F G G' := by
  obtain ⟨l1, l2, q⟩ := ha.at hf
  -- a slot that is handed over is bound
  have bnd : ∀ i, some i ∈ js → ∃ d, ρ[i]? = some (some d) := fun i hi => by
    obtain ⟨m, hm⟩ := List.mem_iff_getElem?.mp hi
    have : m < ds'.length := by have := (List.getElem?_eq_some_iff.mp hm).1; omega
    obtain ⟨v, _, _, h2⟩ := q m _ (List.getElem?_eq_getElem this)
    exact ⟨_, getS_some (h2 i hm).2⟩
  have kin : ∀ i, some i ∈ js → ∃ k, ok O i = some k := fun i hi => by
    obtain ⟨_, k, _, _, h⟩ := kinds_slot hk hi
    exact ⟨k, h⟩
  -- what is not handed over stays
  have stay : ∀ a, (∀ i, some i ∈ js → σ[i]? ≠ some (some (.ref a))) → lessJ σ js H a = H a := fun a h => less_out h
  have outF : ∀ a, F a ≠ none → ∀ i, some i ∈ js → σ[i]? ≠ some (some (.ref a)) := fun a h i hi z => by
    obtain ⟨d, hd⟩ := bnd i hi
    obtain ⟨k, hk'⟩ := kin i hi
    obtain ⟨b, qb, _, f, _⟩ := r.ow i d k hd hk'
    rw [z] at qb; cases qb
    exact h f
  have back : ∀ i d, (putJ js os ρ)[i]? = some (some d) → ∃ d0, ρ[i]? = some (some d0) := fun i d h => by
    rcases putJ_at hk ha ho h with ⟨h1, _⟩ | ⟨h1, _⟩
    · exact ⟨d, h1⟩
    · exact bnd i h1
  have e' : Ext F G G' := ⟨e.1, fun a h n => e.2 a (by
    rw [stay a (outF a h)]
    cases z : F a with
    | none => exact absurd z h
    | some o => rw [r.fr a o z]; exact fun x => by cases x) n⟩
  refine ⟨⟨fun a o h => hF a o (by rw [stay a (outF a (by rw [h]; exact fun x => by cases x))]; exact r.fr a o h), hG, fun i d h n => ?_, fun i d k h n => ?_, fun i j d d' k l a h h' n n' s s' => ?_, fun p hp => ?_, ?_⟩, e'⟩
  · rcases putJ_at hk ha ho h with ⟨h1, _⟩ | ⟨_, a, k, _, z, _⟩
    · obtain ⟨v, h2, h3⟩ := r.sh i d h1 n
      exact ⟨v, h2, dp_mono e.1 h3⟩
    · rw [n] at z; cases z
  · rcases putJ_at hk ha ho h with ⟨h1, h2⟩ | ⟨hi, a, k', s, z, w, g⟩
    · obtain ⟨a, qa, w, f, g⟩ := r.ow i d k h1 n
      have ho' : ∀ j, some j ∈ js → σ[j]? ≠ some (some (.ref a)) := fun j hj s => by
        obtain ⟨d', hd'⟩ := bnd j hj
        obtain ⟨l, hl⟩ := kin j hj
        have := r.dj i j d d' k l a h1 hd' n hl qa s
        subst this
        exact h2 hj
      have hs := stay a ho'
      obtain ⟨o, hoa⟩ := w.there
      have hH' : H' a = H a := by rw [hoa]; exact hF a o (by rw [hs]; exact hoa)
      exact ⟨a, qa, w.mono e.1 hH', f, e.2 a (by rw [hs, hoa]; exact fun x => by cases x) g⟩
    · rw [n] at z; cases z
      obtain ⟨d0, hd0⟩ := bnd i hi
      obtain ⟨b, qb, _, f, _⟩ := r.ow i d0 k hd0 n
      rw [s] at qb; cases qb
      exact ⟨a, s, w, f, g⟩
  · obtain ⟨d0, h0⟩ := back i d h
    obtain ⟨d0', h0'⟩ := back j d' h'
    exact r.dj i j d0 d0' k l a h0 h0' n n' s s'
  · obtain ⟨h1, h2, h3⟩ := r.fx p hp
    exact ⟨h1, putJ_bound h2, h3⟩
  · rw [putJ_len]; exact r.len
end
/-- a call over trees -/
def callT (js : List (Option Nat)) (S : List D → Out (List D) D) (Ta : Rho → Out Rho (List D)) : Rho → Out Rho D := fun ρ => (Ta ρ).bind fun ds ρ1 => match fillJ js ds ρ1 with
  | none => .bad
  | some ds' => match S ds' with
    | .ok d os => .ok d (putJ js os ρ1)
    | .exc c fs os => .exc c fs (putJ js os ρ1)
    | .bad => .bad
/-- the promise holds at the call -/
theorem sp_call {js : List (Option Nat)} {ks : List (Option OKd)} {rk : Option OKd} {S : List D → Out (List D) D} {σ : L2.St} {H G F : Hp} {ρ : Rho} {vs : List V} {ds : List D} {Q : VK}
    (hk : kindsJ O js = kindsK ks) (hj : distinctJ js = true) (r : Rel X.K F P.fx O σ H ρ G) (ha : JAll X.K σ G js vs ds)
    (h : Fin X.K X.mg P O σ F (RetR X.K O rk) G (match fillJ js ds ρ with | none => .bad | some ds' => match S ds' with | .ok d os => .ok d (putJ js os ρ) | .exc c fs os => .exc c fs (putJ js os ρ) | .bad => .bad) Q) :
    spZ X.K X.mg ks rk S vs H Q (WE P.W σ) := by
  cases hf : fillJ js ds ρ with
  | none => rw [hf] at h; exact h.elim
  | some ds' =>
    rw [hf] at h
    refine ⟨ds', G, lessJ σ js H, fun a o e => less_some e, r.gr, argZ_of r hk hj ha hf, ?_⟩
    cases hS : S ds' with
    | ok d os =>
      simp only [hS] at h
      intro v H' G' hF hG e ho hr
      obtain ⟨r', e'⟩ := r.behind hk ha hf hF hG e ho
      refine h v H' G' r' e' ?_
      cases rk with
      | none => exact hr
      | some k =>
        obtain ⟨p, rfl, w, f, g, hn⟩ := hr
        have nin : ∀ i, some i ∈ js → σ[i]? ≠ some (some (.ref p)) := fun i hi s => by
          obtain ⟨m, l, hm, hl, _⟩ := kinds_slot hk hi
          obtain ⟨l1, l2, q⟩ := ha.at hf
          have lt : m < ds'.length := by have := (List.getElem?_eq_some_iff.mp hm).1; omega
          obtain ⟨v, hv, _, h2⟩ := q m _ (List.getElem?_eq_getElem lt)
          have := (h2 i hm).1
          rw [s] at this
          cases this
          exact hn m l hl hv
        have hs := less_out (H := H) nin
        rw [hs] at f
        refine ⟨p, rfl, w, ?_, g, fun j x l hb hl s => ?_⟩
        · cases z : F p with
          | none => rfl
          | some o => rw [r.fr p o z] at f; cases f
        · rcases putJ_at hk ha ho hb with ⟨h1, _⟩ | ⟨h1, _⟩
          · exact r.own_ne f h1 hl s rfl
          · exact nin j h1 s
    | exc c fs os =>
      simp only [hS] at h
      intro cls de H' G' hF hG e ho hr
      obtain ⟨r', e'⟩ := r.behind hk ha hf hF hG e ho
      exact h cls de H' G' r' e' hr
    | bad => simp only [hS] at h; exact h.elim
section
variable {k : Nat} {f : Addr} {fd : FuncData} {ps : List Str} {x : Str} {p pos : Pos} {e : Expr} {es : List Expr} {js : List (Option Nat)} {ks : List (Option OKd)} {S : List D → Out (List D) D} {T : Rho → Out Rho (List D)}
theorem px_call {rk : Option OKd} (Fn : FnOk X.prog X.w X.K X.mg X.base (L2.CX X.prog X.w) k f fd ps (spZ X.K X.mg ks rk S)) (hr : Room k X.A) (hm : X.mg x = some (.ref f)) (hkp : PySem.W.keepIn X.K (.ref f) = true) (hb : Binds X.K fd ps []) (tk : Takes X P.W)
    (ha : AJ X P O (e :: es) js T) (hk : kindsJ O js = kindsK ks := by rfl) (hj : distinctJ js = true := by rfl) (hg : Gl X x := by rfl) (hdb : (x == ("__debug__" : Str)) = false := by decide) (he : starEach (e :: es) X.env = (false, eval e X.env) :: starEach es X.env := by rfl) (hpl : (backTo pos (starEach es X.env)).any (·.1) = false := by rfl) :
    PE X (.Call (.Name x p) (e :: es) [] pos) (tX X P O (RetR X.K O rk) (callT js S T)) := by
  refine pe_mono (pe_callS (E := WE P.W) Fn hr hg hm hkp hb (fun σ => passAt tk σ) ha hdb he hpl) fun σ H Q ⟨ρ, G, F, rr, h⟩ => ?_
  refine tX_bind' (R := rJ X.K js) rr h fun vs H1 ds ρ1 G1 r1 e1 p1 h1 => ?_
  exact sp_call hk hj r1 p1 h1
theorem ex_call (Fn : FnOk X.prog X.w X.K X.mg X.base (L2.CX X.prog X.w) k f fd ps (spZ X.K X.mg ks none S)) (hr : Room k X.A) (hm : X.mg x = some (.ref f)) (hkp : PySem.W.keepIn X.K (.ref f) = true) (hb : Binds X.K fd ps []) (tk : Takes X P.W)
    (ha : AJ X P O (e :: es) js T) (hk : kindsJ O js = kindsK ks := by rfl) (hj : distinctJ js = true := by rfl) (hg : Gl X x := by rfl) (hdb : (x == ("__debug__" : Str)) = false := by decide) (he : starEach (e :: es) X.env = (false, eval e X.env) :: starEach es X.env := by rfl) (hpl : (backTo pos (starEach es X.env)).any (·.1) = false := by rfl) :
    EX X P O (.Call (.Name x p) (e :: es) [] pos) (callT js S T) := px_call Fn hr hm hkp hb tk ha hk hj hg hdb he hpl
theorem fx_call {kd : OKd} (Fn : FnOk X.prog X.w X.K X.mg X.base (L2.CX X.prog X.w) k f fd ps (spZ X.K X.mg ks (some kd) S)) (hr : Room k X.A) (hm : X.mg x = some (.ref f)) (hkp : PySem.W.keepIn X.K (.ref f) = true) (hb : Binds X.K fd ps []) (tk : Takes X P.W)
    (ha : AJ X P O (e :: es) js T) (hk : kindsJ O js = kindsK ks := by rfl) (hj : distinctJ js = true := by rfl) (hg : Gl X x := by rfl) (hdb : (x == ("__debug__" : Str)) = false := by decide) (he : starEach (e :: es) X.env = (false, eval e X.env) :: starEach es X.env := by rfl) (hpl : (backTo pos (starEach es X.env)).any (·.1) = false := by rfl) :
    FX X P O kd (.Call (.Name x p) (e :: es) [] pos) (callT js S T) := px_call Fn hr hm hkp hb tk ha hk hj hg hdb he hpl
end
end
end Z

/-! file ZFun -/
set_option Elab.async false
set_option linter.all false
set_option autoImplicit false
set_option maxRecDepth 100000
set_option maxHeartbeats 4000000
/-! from a body to its def's promise -/
namespace Z
open PySem PySem.Spec PyProof.Rows L2
variable [PgW]

def rho0 (n : Nat) (ds : List D) : Rho := ds.map some ++ List.replicate (n - ds.length) none
def own0 (n : Nat) (ks : List (Option OKd)) : Own := ks ++ List.replicate (n - ks.length) none
/-- where the owned ones stand -/
def ownIx : Nat → List (Option OKd) → List Nat
  | _, [] => []
  | i, none :: ks => ownIx (i + 1) ks
  | i, some _ :: ks => i :: ownIx (i + 1) ks
def fxOf : Nat → List (Option OKd) → List V → List (Nat × Addr)
  | i, none :: ks, _ :: vs => fxOf (i + 1) ks vs
  | i, some _ :: ks, .ref a :: vs => (i, a) :: fxOf (i + 1) ks vs
  | i, some _ :: ks, _ :: vs => fxOf (i + 1) ks vs
  | _, _, _ => []
def outsOf (is : List Nat) (ρ : Rho) : List D := is.map fun i => (getS i ρ).getD .none
/-- what a def computes -/
def runF (is : List Nat) (n : Nat) (T : Rho → Out Rho Flw) : List D → Out (List D) D := fun ds => match T (rho0 n ds) with
  | .ok (.rt d) ρ => .ok d (outsOf is ρ)
  | .ok .nx ρ => .ok .none (outsOf is ρ)
  | .ok .bk _ => .bad
  | .ok .ct _ => .bad
  | .exc c fs ρ => .exc c fs (outsOf is ρ)
  | .bad => .bad
omit [PgW] in
theorem fxOf_at : ∀ {ks : List (Option OKd)} {vs : List V} {i : Nat} {p : Nat × Addr}, p ∈ fxOf i ks vs → ∃ (m : Nat) (k : OKd), p.1 = i + m ∧ ks[m]? = some (some k) ∧ vs[m]? = some (.ref p.2)
  | [], vs, i, p, h => by cases vs <;> simp [fxOf] at h
  | none :: ks, [], i, p, h => by simp [fxOf] at h
  | some _ :: ks, [], i, p, h => by simp [fxOf] at h
  | none :: ks, v :: vs, i, p, h => by
    obtain ⟨m, k, h1, h2, h3⟩ := fxOf_at (show p ∈ fxOf (i + 1) ks vs from h)
    exact ⟨m + 1, k, by omega, h2, h3⟩
  | some k0 :: ks, v :: vs, i, p, h => by
    have back : p ∈ fxOf (i + 1) ks vs → ∃ (m : Nat) (k : OKd), p.1 = i + m ∧ (some k0 :: ks)[m]? = some (some k) ∧ (v :: vs)[m]? = some (.ref p.2) := fun h => by
      obtain ⟨m, k, h1, h2, h3⟩ := fxOf_at h
      exact ⟨m + 1, k, by omega, h2, h3⟩
    cases v with
    | ref a =>
      rcases List.mem_cons.mp (show p ∈ (i, a) :: fxOf (i + 1) ks vs from h) with h | h
      · subst h
        exact ⟨0, k0, rfl, rfl, rfl⟩
      · exact back h
    | _ => exact back h
omit [PgW] in
theorem fxOf_in : ∀ {ks : List (Option OKd)} {vs : List V} {i m : Nat} {k : OKd} {a : Addr}, ks[m]? = some (some k) → vs[m]? = some (.ref a) → (i + m, a) ∈ fxOf i ks vs
  | [], vs, i, m, k, a, h, _ => by simp at h
  | _ :: _, [], i, m, k, a, _, h => by simp at h
  | none :: ks, v :: vs, i, 0, k, a, h, h' => by simp at h
  | none :: ks, v :: vs, i, m + 1, k, a, h, h' => by
    have q := fxOf_in (i := i + 1) (show ks[m]? = some (some k) from h) (show vs[m]? = some (.ref a) from h')
    rw [show i + (m + 1) = i + 1 + m by omega]
    exact q
  | some k0 :: ks, v :: vs, i, 0, k, a, h, h' => by
    simp at h'
    subst h'
    exact List.mem_cons_self
  | some k0 :: ks, v :: vs, i, m + 1, k, a, h, h' => by
    have q := fxOf_in (i := i + 1) (show ks[m]? = some (some k) from h) (show vs[m]? = some (.ref a) from h')
    rw [show i + (m + 1) = i + 1 + m by omega]
    cases v with
    | ref b => exact List.mem_cons_of_mem _ q
    | _ => exact q
omit [PgW] in
theorem rho0_get {n : Nat} {ds : List D} {i : Nat} {d : D} (h : (rho0 n ds)[i]? = some (some d)) : ds[i]? = some d := by
  unfold rho0 at h
  by_cases hl : i < ds.length
  · rw [List.getElem?_append_left (by simpa using hl), List.getElem?_map] at h
    cases e : ds[i]? with
    | none => rw [e] at h; cases h
    | some u => rw [e] at h; cases h; rfl
  · rw [List.getElem?_append_right (by simpa using hl), List.getElem?_replicate] at h
    split at h <;> cases h
omit [PgW] in
theorem rho0_in {n : Nat} {ds : List D} {i : Nat} {d : D} (h : ds[i]? = some d) : (rho0 n ds)[i]? = some (some d) := by
  unfold rho0
  have hl := (List.getElem?_eq_some_iff.mp h).1
  rw [List.getElem?_append_left (by simpa using hl), List.getElem?_map, h] <;> rfl
omit [PgW] in
theorem start_in {N : List Str} {vs : List V} {i : Nat} {v : V} (h : vs[i]? = some v) : (start N vs)[i]? = some (some v) := by
  unfold L2.start
  have hl := (List.getElem?_eq_some_iff.mp h).1
  rw [List.getElem?_append_left (by simpa using hl), List.getElem?_map, h] <;> rfl
omit [PgW] in
theorem start_get {N : List Str} {vs : List V} {i : Nat} {v : V} (h : (start N vs)[i]? = some (some v)) : vs[i]? = some v := by
  unfold L2.start at h
  by_cases hl : i < vs.length
  · rw [List.getElem?_append_left (by simpa using hl), List.getElem?_map] at h
    cases e : vs[i]? with
    | none => rw [e] at h; cases h
    | some u => rw [e] at h; cases h; rfl
  · rw [List.getElem?_append_right (by simpa using hl), List.getElem?_replicate] at h
    split at h <;> cases h
omit [PgW] in
theorem own0_at {n : Nat} {ks : List (Option OKd)} {i : Nat} {k : OKd} (h : ok (own0 n ks) i = some k) : ks[i]? = some (some k) := by
  unfold ok own0 at h
  by_cases hl : i < ks.length
  · rw [List.getElem?_append_left hl] at h
    cases e : ks[i]? with
    | none => rw [e] at h; cases h
    | some u => rw [e] at h; exact congrArg some h
  · rw [List.getElem?_append_right (by omega), List.getElem?_replicate] at h
    split at h <;> cases h
omit [PgW] in
theorem own0_in {n : Nat} {ks : List (Option OKd)} {i : Nat} {k : OKd} (h : ks[i]? = some (some k)) : ok (own0 n ks) i = some k := by
  unfold ok own0
  rw [List.getElem?_append_left (List.getElem?_eq_some_iff.mp h).1, h] <;> rfl
section
variable {K : PySem.W.Frag} {F H G : Hp} {ks : List (Option OKd)} {vs : List V} {ds : List D} {N : List Str}
/-- the state at a body's start -/
theorem start_rel (hF : ∀ a o, F a = some o → H a = some o) (hG : ∀ a o, G a = some o → H a = some o) (A : ArgZ K H G F ks vs ds) : Rel K F (fxOf 0 ks vs) (own0 N.length ks) (start N vs) H (rho0 N.length ds) G where
  fr := hF
  gr := hG
  sh := fun i d h n => by
    have hd := rho0_get h
    have hk : ks[i]? = some none := by
      have hl : i < ks.length := by have := (List.getElem?_eq_some_iff.mp hd).1; rw [A.l1, A.l2]; exact this
      cases e : ks[i]? with
      | none => rw [List.getElem?_eq_getElem hl] at e; cases e
      | some u =>
        cases u with
        | none => rfl
        | some k => rw [own0_in e] at n; cases n
    obtain ⟨v, hv, p⟩ := A.sh i d hk hd
    exact ⟨v, start_in hv, p⟩
  ow := fun i d k h n => by
    obtain ⟨a, hv, w, f, g⟩ := A.ow i k d (own0_at n) (rho0_get h)
    exact ⟨a, start_in hv, w, f, g⟩
  dj := fun i j d e k l a h h' n n' s s' => A.dj i j k l a (own0_at n) (own0_at n') (start_get s) (start_get s')
  fx := fun p hp => by
    obtain ⟨m, k, h1, h2, h3⟩ := fxOf_at hp
    have hm : p.1 = m := by omega
    rw [hm]
    have hl : m < ds.length := by have := (List.getElem?_eq_some_iff.mp h2).1; rw [← A.l2, ← A.l1]; exact this
    exact ⟨⟨k, own0_in h2⟩, ⟨_, rho0_in (List.getElem?_eq_getElem hl)⟩, start_in h3⟩
  len := by unfold rho0 L2.start; simp [A.l2]
theorem outZ_of {G' H' : Hp} {ρ : Rho} : ∀ {ks : List (Option OKd)} {vs : List V} {i : Nat}, ks.length = vs.length → (∀ m k, ks[m]? = some (some k) → ∃ a d, vs[m]? = some (.ref a) ∧ getS (i + m) ρ = some d ∧ OwnAt K H' G' k a d ∧ G' a = none) → OutZ K H' G' ks vs (outsOf (ownIx i ks) ρ)
  | [], [], i, _, _ => trivial
  | [], _ :: _, i, h, _ => by cases h
  | _ :: _, [], i, h, _ => by cases h
  | none :: ks, v :: vs, i, hl, h => by
    show OutZ K H' G' ks vs (outsOf (ownIx (i + 1) ks) ρ)
    refine outZ_of (Nat.succ.inj hl) fun m k e => ?_
    obtain ⟨a, d, h1, h2, h3⟩ := h (m + 1) k e
    exact ⟨a, d, h1, by rw [show i + 1 + m = i + (m + 1) by omega]; exact h2, h3⟩
  | some k0 :: ks, v :: vs, i, hl, h => by
    show (∃ a, v = .ref a ∧ OwnAt K H' G' k0 a ((getS i ρ).getD .none) ∧ G' a = none) ∧ OutZ K H' G' ks vs (outsOf (ownIx (i + 1) ks) ρ)
    refine ⟨?_, outZ_of (Nat.succ.inj hl) fun m k e => ?_⟩
    · obtain ⟨a, d, h1, h2, h3⟩ := h 0 k0 rfl
      rw [show i + 0 = i by omega] at h2
      rw [h2]
      simp at h1
      exact ⟨a, h1, h3⟩
    · obtain ⟨a, d, h1, h2, h3⟩ := h (m + 1) k e
      exact ⟨a, d, h1, by rw [show i + 1 + m = i + (m + 1) by omega]; exact h2, h3⟩
/-- the parameters that own, at an end -/
def exOf (ks : List (Option OKd)) (O : Own) : Prop := ∀ (m : Nat) (k : OKd), ks[m]? = some (some k) → ok O m = some k
theorem outs_end {G' H' : Hp} {ρ : Rho} {σ : L2.St} {Ox : Own} (A : ArgZ K H G F ks vs ds) (hx : exOf ks Ox) (r : Rel K F (fxOf 0 ks vs) Ox σ H' ρ G') : OutZ K H' G' ks vs (outsOf (ownIx 0 ks) ρ) ∧ ∀ (i : Nat) (l : OKd), ks[i]? = some (some l) → ∃ d, ρ[i]? = some (some d) ∧ ok Ox i = some l ∧ ∃ a, vs[i]? = some (.ref a) ∧ σ[i]? = some (some (.ref a)) := by
  have at_ : ∀ (i : Nat) (l : OKd), ks[i]? = some (some l) → ∃ d, ρ[i]? = some (some d) ∧ ok Ox i = some l ∧ ∃ a, vs[i]? = some (.ref a) ∧ σ[i]? = some (some (.ref a)) := fun i l h => by
    have hl : i < ds.length := by have := (List.getElem?_eq_some_iff.mp h).1; rw [← A.l2, ← A.l1]; exact this
    obtain ⟨a, hv, _⟩ := A.ow i l _ h (List.getElem?_eq_getElem hl)
    have hp := fxOf_in (i := 0) h hv
    obtain ⟨_, ⟨d, hd⟩, hs⟩ := r.fx _ hp
    simp only [Nat.zero_add] at hd hs
    exact ⟨d, hd, hx i l h, a, hv, hs⟩
  refine ⟨outZ_of A.l1 fun m k e => ?_, at_⟩
  obtain ⟨d, hd, ho, a, hv, hs⟩ := at_ m k e
  obtain ⟨b, qb, w, _, g⟩ := r.ow m d k hd ho
  rw [hs] at qb; cases qb
  refine ⟨a, d, hv, ?_, w, g⟩
  rw [Nat.zero_add]; unfold getS; rw [hd]; rfl
end
section
variable {P : Program} {w : World} {K : PySem.W.Frag} {mg : Str → Option Value} {base : Heap}
/-- the state a body is proved in -/
structure Bod (X : Cx) (k : Nat) (W : WX) : Prop where
  room : Room k X.A
  calm : X.calm = true
  own : PassesOwn (model X.prog X.w) X.A X.env X.xe
  tk : Takes X W
omit [PgW] in
theorem Bod.hu {X : Cx} {k : Nat} {W : WX} (b : Bod X k W) : X.A.units + 64 < cLine := b.room.units
/-- THE RULE for a def -/
theorem fnZr {x qual : Str} {st : Stmt} {f : Addr} {fd : FuncData} {N ps : List Str} {k : Nat} {ks : List (Option OKd)} {rk : Option OKd} {lp O' : Own} {T : Rho → Out Rho Flw} (F : Fun K x qual st f fd) (S : FnScope N ps (defScope st)) (hl : ks.length = ps.length)
    (hb : ∀ (cdv : Value) (A : Around) (outer : List Env) (s : Shared) (H : Hp) (E : XK) (vs : List V), (∀ (i : Nat) (k : OKd), ks[i]? = some (some k) → ∃ a : Addr, vs[i]? = some (.ref a)) → Bod (cxOf (L2.CX P w) P w K mg base N qual (defScope st) f cdv A outer s H E) k (fun cls d _ H => E cls d H) →
      BX (cxOf (L2.CX P w) P w K mg base N qual (defScope st) f cdv A outer s H E) ⟨fxOf 0 ks vs, fun cls d _ H => E cls d H⟩ ⟨lp, exOf ks, rk⟩ (own0 N.length ks) O' (defBody st) T)
    (hx : rk = none ∨ ∀ ρ0 ρ, T ρ0 ≠ .ok .nx ρ) (hO' : exOf ks O') : FnOk P w K mg base (L2.CX P w) (k + 1) f fd ps (spZ K mg ks rk (runF (ownIx 0 ks) N.length T)) := by
  refine F.okX S (fun vs H Q E ⟨ds, G, F, _, _, A, _⟩ => by rw [← A.l1, hl]) fun cdv A outer s H vs Q E hr ⟨ds, G, F0, hF, hG, AZ, hp⟩ => ?_
  refine ⟨_, hb cdv A outer s H E vs (fun i l h => by
    have hl : i < ds.length := by have := (List.getElem?_eq_some_iff.mp h).1; rw [← AZ.l2, ← AZ.l1]; exact this
    obtain ⟨a, ha, _⟩ := AZ.ow i l _ h (List.getElem?_eq_getElem hl)
    exact ⟨a, ha⟩) ⟨hr, rfl, passes_of rfl, takes_of rfl rfl rfl rfl⟩, rho0 N.length ds, G, F0, start_rel hF hG AZ, ?_⟩
  unfold runF at hp
  cases z : T (rho0 N.length ds) with
  | ok fl ρ' =>
    rw [z] at hp
    cases fl with
    | nx =>
      intro σ' H' G' r e
      obtain ⟨o1, o2⟩ := outs_end AZ hO' r
      refine hp .non H' G' r.fr r.gr e o1 ?_
      rcases hx with rfl | hx
      · exact .non
      · exact absurd z (hx _ _)
    | bk => exact hp.elim
    | ct => exact hp.elim
    | rt d =>
      intro v σ' H' G' Or hxr r e hv
      obtain ⟨o1, o2⟩ := outs_end AZ hxr r
      refine hp v H' G' r.fr r.gr e o1 ?_
      cases rk with
      | none => exact hv
      | some k =>
        obtain ⟨p, rfl, w, f, g, hn⟩ := hv
        refine ⟨p, rfl, w, f, g, fun i l h z => ?_⟩
        obtain ⟨d', hd, ho, a, hva, hs⟩ := o2 i l h
        rw [hva] at z; cases z
        exact hn i d' l hd ho hs
  | exc c fs ρ' =>
    rw [z] at hp
    intro σ' cls de H' G' Ox hxr r e hv
    obtain ⟨o1, _⟩ := outs_end AZ hxr r
    exact hp cls de H' G' r.fr r.gr e o1 hv
  | bad => rw [z] at hp; exact hp.elim
theorem fnZ {x qual : Str} {st : Stmt} {f : Addr} {fd : FuncData} {N ps : List Str} {k : Nat} {ks : List (Option OKd)} {rk : Option OKd} {lp O' : Own} {T : Rho → Out Rho Flw} (F : Fun K x qual st f fd) (S : FnScope N ps (defScope st)) (hl : ks.length = ps.length)
    (hb : ∀ (cdv : Value) (A : Around) (outer : List Env) (s : Shared) (H : Hp) (E : XK) (vs : List V), True → Bod (cxOf (L2.CX P w) P w K mg base N qual (defScope st) f cdv A outer s H E) k (fun cls d _ H => E cls d H) →
      BX (cxOf (L2.CX P w) P w K mg base N qual (defScope st) f cdv A outer s H E) ⟨fxOf 0 ks vs, fun cls d _ H => E cls d H⟩ ⟨lp, exOf ks, rk⟩ (own0 N.length ks) O' (defBody st) T)
    (hx : rk = none ∨ ∀ ρ0 ρ, T ρ0 ≠ .ok .nx ρ) (hO' : exOf ks O') : FnOk P w K mg base (L2.CX P w) (k + 1) f fd ps (spZ K mg ks rk (runF (ownIx 0 ks) N.length T)) :=
  fnZr F S hl (fun cdv A outer s H E vs _ b => hb cdv A outer s H E vs trivial b) hx hO'
/-- a promise told by another function -/
theorem spZ_congr {k : Nat} {f : Addr} {fd : FuncData} {ps : List Str} {ks : List (Option OKd)} {rk : Option OKd} {S S' : List D → Out (List D) D} (F : FnOk P w K mg base (L2.CX P w) k f fd ps (spZ K mg ks rk S)) (h : ∀ ds, S' ds = .bad ∨ S ds = S' ds) : FnOk P w K mg base (L2.CX P w) k f fd ps (spZ K mg ks rk S') :=
  F.imp fun vs H Q E ⟨ds, G, F0, hF, hG, A, p⟩ => ⟨ds, G, F0, hF, hG, A, by
    rcases h ds with e | e
    · rw [e] at p; exact p.elim
    · rw [e]; exact p⟩
end
omit [PgW] in
theorem exOf_none {n : Nat} {O : Own} : exOf (List.replicate n none) O := fun m k h => by
  rw [List.getElem?_replicate] at h
  split at h <;> cases h
end Z

/-! file ZPar -/
set_option Elab.async false
set_option linter.all false
set_option autoImplicit false
set_option maxRecDepth 100000
set_option maxHeartbeats 4000000
/-! a, b = x, y; *a, b = x -/
namespace Z
open PySem PySem.Spec PyProof.Rows L2
variable [PgW]

/-! ### values, some of them fresh -/
def AFs (K : PySem.W.Frag) (O : Own) (σ : L2.St) (ρ : Rho) (H G : Hp) : List (Option OKd) → Hp → List V → List D → Prop
  | [], _, [], [] => True
  | none :: ks, F, v :: vs, d :: ds => Dp K G v d ∧ AFs K O σ ρ H G ks F vs ds
  | some k :: ks, F, v :: vs, d :: ds => rF K O k F σ ρ H G v d ∧ ∃ p o, v = .ref p ∧ H p = some o ∧ AFs K O σ ρ H G ks (upd F p o) vs ds
  | _, _, _, _ => False
def rAF (K : PySem.W.Frag) (O : Own) (ks : List (Option OKd)) : RR (List V) (List D) := fun F σ ρ H G vs ds => AFs K O σ ρ H G ks F vs ds
def AFX (X : Cx) (P : Pm) (O : Own) (es : List Expr) (ks : List (Option OKd)) (T : Rho → Out Rho (List D)) : Prop := PA X es (tX X P O (rAF X.K O ks) T)
section
variable {K : PySem.W.Frag} {F H G : Hp} {fx : List (Nat × Addr)} {O : Own} {σ : L2.St} {ρ : Rho}
theorem Rel.widen (r : Rel K F fx O σ H ρ G) {p : Addr} {o : HO} (hp : H p = some o) (hn : ∀ j e l, ρ[j]? = some (some e) → ok O j = some l → σ[j]? ≠ some (some (.ref p))) : Rel K (upd F p o) fx O σ H ρ G where
  fr := fun a u h => by
    by_cases z : a = p
    · subst z; rw [upd_same] at h; cases h; exact hp
    · rw [upd_ne z] at h; exact r.fr a u h
  gr := r.gr
  sh := r.sh
  ow := fun i d k h n => by
    obtain ⟨a, q, w, f, g⟩ := r.ow i d k h n
    have ne : a ≠ p := fun z => by subst z; exact hn i d k h n q
    exact ⟨a, q, w, by rw [upd_ne ne]; exact f, g⟩
  dj := r.dj
  fx := r.fx
  len := r.len
omit [PgW] in
theorem upd_frame {F : Hp} {p : Addr} {o : HO} (hF : F p = none) : ∀ a u, F a = some u → upd F p o a = some u := fun a u h => by rw [upd_ne (ne_of_none h hF)]; exact h
omit [PgW] in
theorem upd_some {F : Hp} {p : Addr} {o : HO} : ∀ a, F a ≠ none → upd F p o a ≠ none := fun a h => by
  by_cases z : a = p
  · subst z; rw [upd_same]; exact fun x => by cases x
  · rw [upd_ne z]; exact h
theorem rF_less {F F' : Hp} (h : ∀ a, F a ≠ none → F' a ≠ none) {k : OKd} {v : V} {d : D} (f : rF K O k F' σ ρ H G v d) : rF K O k F σ ρ H G v d := by
  obtain ⟨p, e, w, f, g, n⟩ := f
  refine ⟨p, e, w, ?_, g, n⟩
  cases z : F p with
  | none => rfl
  | some u => exact absurd f (h p (by rw [z]; exact fun x => by cases x))
theorem AFs.less {F F' : Hp} (h : ∀ a, F a ≠ none → F' a ≠ none) : ∀ {ks : List (Option OKd)} {F F' : Hp} {vs : List V} {ds : List D}, (∀ a, F a ≠ none → F' a ≠ none) → AFs K O σ ρ H G ks F' vs ds → AFs K O σ ρ H G ks F vs ds
  | [], _, _, [], [], _, _ => trivial
  | none :: ks, F, F', v :: vs, d :: ds, h, ⟨a, b⟩ => ⟨a, AFs.less (ks := ks) h h b⟩
  | some k :: ks, F, F', v :: vs, d :: ds, h, ⟨a, p, o, e, hp, b⟩ => ⟨rF_less h a, p, o, e, hp, AFs.less (ks := ks) h (fun x hx => by
      by_cases z : x = p
      · subst z; rw [upd_same]; exact fun x => by cases x
      · rw [upd_ne z] at hx ⊢; exact h x hx) b⟩
  | [], _, _, [], _ :: _, _, q | [], _, _, _ :: _, _, _, q | none :: _, _, _, [], _, _, q | none :: _, _, _, _ :: _, [], _, q | some _ :: _, _, _, [], _, _, q | some _ :: _, _, _, _ :: _, [], _, q => q.elim
/-- a value is stored; k: fresh, or not -/
theorem Rel.put (r : Rel K F fx O σ H ρ G) {i : Nat} {k : Option OKd} {v : V} {d : D} (hO : i < O.length) (hfx : ∀ p ∈ fx, p.1 ≠ i) (h : match k with | none => Dp K G v d | some k => rF K O k F σ ρ H G v d) : Rel K F fx (O.set i k) (σ.set i (some v)) H (ρ.set i (some d)) G := by
  cases k with
  | none => exact r.setAny hO hfx h
  | some k =>
    obtain ⟨p, rfl, w, f, g, n⟩ := h
    exact r.setOwn hO hfx w f g fun j e l _ h1 h2 => n j e l h1 h2
/-- what is to be stored next is still there -/
theorem AFs.put {i : Nat} {k : Option OKd} {v : V} {d : D} (hO : i < O.length) (hl : ρ.length = σ.length) : ∀ {ks : List (Option OKd)} {F : Hp} {vs : List V} {ds : List D}, (k ≠ none → ∃ p o, v = .ref p ∧ F p = some o) → AFs K O σ ρ H G ks F vs ds → AFs K (O.set i k) (σ.set i (some v)) (ρ.set i (some d)) H G ks F vs ds
  | [], _, [], [], _, _ => trivial
  | none :: ks, F, w :: vs, e :: ds, hk, ⟨a, b⟩ => ⟨a, AFs.put hO hl (ks := ks) hk b⟩
  | some l :: ks, F, w :: vs, e :: ds, hk, ⟨⟨q, ew, a1, a2, a3, a4⟩, p, o, e1, e2, b⟩ => by
    refine ⟨⟨q, ew, a1, a2, a3, fun j x m hx hm => ?_⟩, p, o, e1, e2, AFs.put hO hl (ks := ks) (fun n => ?_) b⟩
    · rw [ok_set hO] at hm
      by_cases z : i = j
      · subst z
        rw [if_pos rfl] at hm
        rw [List.getElem?_set_self (by have := (List.getElem?_eq_some_iff.mp hx).1; simp at this; omega)]
        obtain ⟨p', o', e', f'⟩ := hk (by rw [hm]; exact fun x => by cases x)
        subst e'
        intro y
        cases y
        rw [a2] at f'
        cases f'
      · rw [if_neg z] at hm
        rw [List.getElem?_set_ne z] at hx ⊢
        exact a4 j x m hx hm
    · obtain ⟨p', o', e', f'⟩ := hk n
      by_cases z : p' = p
      · subst z; exact ⟨p', o, e', upd_same⟩
      · exact ⟨p', o', e', by rw [upd_ne z]; exact f'⟩
  | [], _, [], _ :: _, _, q | [], _, _ :: _, _, _, q | none :: _, _, [], _, _, q | none :: _, _, _ :: _, [], _, q | some _ :: _, _, [], _, _, q | some _ :: _, _, _ :: _, [], _, q => q.elim
/-- one after the other -/
theorem Rel.puts2 (r : Rel K F fx O σ H ρ G) {i j : Nat} {k l : Option OKd} {v w : V} {d e : D} (hi : i < O.length) (hj : j < O.length) (fi : ∀ p ∈ fx, p.1 ≠ i) (fj : ∀ p ∈ fx, p.1 ≠ j) (h : AFs K O σ ρ H G [k, l] F [v, w] [d, e]) :
    Rel K F fx ((O.set i k).set j l) ((σ.set i (some v)).set j (some w)) H ((ρ.set i (some d)).set j (some e)) G := by
  cases k with
  | none =>
    obtain ⟨h1, h2⟩ := h
    have q := AFs.put (O := O) (d := d) (v := v) (k := none) hi r.len (fun n => absurd rfl n) h2
    refine (r.put (k := none) hi fi h1).put (k := l) (by simpa using hj) fj ?_
    cases l with
    | none => exact q.1
    | some l => exact q.1
  | some k =>
    obtain ⟨h1, p, o, rfl, hp, h2⟩ := h
    have hF : F p = none := by obtain ⟨p', e', _, f, _⟩ := h1; cases e'; exact f
    have q := AFs.put (O := O) (d := d) (v := .ref p) (k := some k) hi r.len (fun n => ⟨p, o, rfl, upd_same⟩) h2
    refine (r.put (k := some k) hi fi h1).put (k := l) (by simpa using hj) fj ?_
    cases l with
    | none => exact q.1
    | some l => exact rF_less (fun a => upd_some a) q.1
end
section
variable {X : Cx} {P : Pm} {L : Lp} {O O' O1 : Own}
theorem af_nil : AFX X P O [] [] nilT := pa_mono pa_nil fun σ H Q ⟨ρ, G, F, r, h⟩ => h [] H G r (Ext.refl _ _) trivial
theorem af_cons {e : Expr} {es : List Expr} {ks : List (Option OKd)} {Ta : Rho → Out Rho D} {Tb : Rho → Out Rho (List D)} (ha : EX X P O e Ta) (hb : AFX X P O es ks Tb) (hs : starEach (e :: es) X.env = (false, eval e X.env) :: starEach es X.env := by rfl) : AFX X P O (e :: es) (none :: ks) (consT Ta Tb) := by
  refine pa_mono (pa_cons ha hb hs) fun σ H Q ⟨ρ, G, F, rr, h⟩ => ?_
  refine tX_bind' (R := rE X.K) rr h fun x H1 d ρ1 G1 r1 e1 p1 h1 => ?_
  refine tX_bind' (R := rAF X.K O ks) r1 h1 fun xs H2 ds ρ2 G2 r2 e2 p2 h2 => ?_
  exact h2 (x :: xs) H2 G2 r2 (Ext.refl _ _) ⟨dp_mono e2.1 p1, p2⟩
theorem af_new {e : Expr} {es : List Expr} {k : OKd} {ks : List (Option OKd)} {Ta : Rho → Out Rho D} {Tb : Rho → Out Rho (List D)} (ha : FX X P O k e Ta) (hb : AFX X P O es ks Tb) (hs : starEach (e :: es) X.env = (false, eval e X.env) :: starEach es X.env := by rfl) : AFX X P O (e :: es) (some k :: ks) (consT Ta Tb) := by
  refine pa_mono (pa_cons ha hb hs) fun σ H Q ⟨ρ, G, F, rr, h⟩ => ?_
  refine tX_bind' (R := rF X.K O k) rr h fun x H1 d ρ1 G1 r1 e1 p1 h1 => ?_
  obtain ⟨p, rfl, w, hF, hG, hn⟩ := p1
  obtain ⟨o, ho⟩ := w.there
  refine ⟨ρ1, G1, upd F p o, r1.widen ho hn, ?_⟩
  cases z : Tb ρ1 with
  | ok ds ρ2 =>
    rw [z] at h1
    intro vs H2 G2 r2 e2 a2
    refine h1 (.ref p :: vs) H2 G2 (r2.frame (upd_frame hF)) (e2.frame upd_some) ⟨⟨p, rfl, ?_, hF, ?_, fun j x l hx hl s => ?_⟩, p, o, rfl, r2.fr p o upd_same, a2⟩
    · exact w.mono e2.1 ((r2.fr p o upd_same).trans ho.symm)
    · exact e2.2 p (by rw [upd_same]; exact fun x => by cases x) hG
    · obtain ⟨a, q, _, f, _⟩ := r2.ow j x l hx hl
      rw [s] at q; cases q
      rw [upd_same] at f; cases f
  | exc c fs ρ2 =>
    rw [z] at h1
    intro cls de H2 G2 r2 e2 q
    exact h1 cls de H2 G2 (r2.frame (upd_frame hF)) (e2.frame upd_some) q
  | bad => rw [z] at h1; exact h1.elim
def par2T (i j : Nat) (Ta : Rho → Out Rho (List D)) : Rho → Out Rho Flw := fun ρ => (Ta ρ).bind fun ds ρ1 => match ds with
  | [d, e] => .ok .nx ((ρ1.set i (some d)).set j (some e))
  | _ => .bad
theorem AFs.len {K : PySem.W.Frag} {σ : L2.St} {ρ : Rho} {H G : Hp} : ∀ {ks : List (Option OKd)} {F : Hp} {vs : List V} {ds : List D}, AFs K O σ ρ H G ks F vs ds → vs.length = ds.length ∧ ks.length = vs.length
  | [], _, [], [], _ => ⟨rfl, rfl⟩
  | none :: ks, F, v :: vs, d :: ds, ⟨_, b⟩ => by
    obtain ⟨h1, h2⟩ := AFs.len (ks := ks) b
    exact ⟨congrArg (· + 1) h1, congrArg (· + 1) h2⟩
  | some k :: ks, F, v :: vs, d :: ds, ⟨_, p, o, _, _, b⟩ => by
    obtain ⟨h1, h2⟩ := AFs.len (ks := ks) b
    exact ⟨congrArg (· + 1) h1, congrArg (· + 1) h2⟩
  | [], _, [], _ :: _, q | [], _, _ :: _, _, q | none :: _, _, [], _, q | none :: _, _, _ :: _, [], q | some _ :: _, _, [], _, q | some _ :: _, _, _ :: _, [], q => q.elim
theorem sx_par2 (i j : Nat) {x y : Str} {a b : Expr} {k l : Option OKd} {Ta : Rho → Out Rho (List D)} {px py pt pos : Pos} {kt k2 pt2} (hc : X.calm = true) (hN : X.N.Nodup) (ha : AFX X P O [a, b] [k, l] Ta) (hex : L.ex O)
    (hw : swappedStores [.Tuple [.Name x px, .Name y py] kt pt] (.Tuple [a, b] k2 pt2) X.env = pure (some [x, y])) (hO' : O' = (O.set i k).set j l := by rfl) (hO : i < O.length := by exact Nat.le_of_ble_eq_true rfl) (hO2 : j < O.length := by exact Nat.le_of_ble_eq_true rfl) (hij : i ≠ j := by decide)
    (hfx : (P.fx.map (·.1)).contains i = false := by rfl) (hfx2 : (P.fx.map (·.1)).contains j = false := by rfl) (hi : X.N[i]? = some x := by rfl) (hj : X.N[j]? = some y := by rfl) (hx : X.env.scope.names.lookup x = some .local := by rfl) (hy : X.env.scope.names.lookup y = some .local := by rfl)
    (hs : swapsWithSole [.Tuple [.Name x px, .Name y py] kt pt] (.Tuple [a, b] k2 pt2) pos.line X.env = pure false := by rfl) :
    SX X P L O O' (.Assign [.Tuple [.Name x px, .Name y py] kt pt] (.Tuple [a, b] k2 pt2) pos) (par2T i j Ta) := by
  subst hO'
  refine ps_mono (ps_par hc hN hi hj hij hx hy ha hw hs) fun E σ H h => ?_
  refine tX_stmt (R := rAF X.K O [k, l]) hex h fun vs H1 ds ρ1 G1 F r1 p1 f1 => ?_
  obtain ⟨l1, l2⟩ := AFs.len p1
  match vs, ds, l1, l2 with
  | [v, w], [d, e], _, _ =>
    refine ⟨v, w, rfl, ?_⟩
    exact f1 _ H1 G1 (r1.puts2 hO hO2 (hfx_of hfx) (hfx_of hfx2) p1) (Ext.refl _ _)

/-! ### *a, b = x -/
omit [PgW] in
theorem raw_star {prog : Program} {w : World} {A : Around} {E : Value → Shared → Prop} {s : Shared} {l : Addr} {items : Array Value} {n i : Nat} {Q : List Value → Shared → Prop} (hl : IsTup s.heap l items) (hh : A.handled = none) (hi : i < n) (hn : n ≤ items.size + 1) (hz : items.size ≤ sizeLine)
    (h : ∀ (h' : Heap) (tk : Nat), (∀ b o, s.heap.get? b = some o → h'.get? b = some o) → Q (items.toList.take i ++ [.ref h'.objs.size] ++ (items.toList.drop i).drop (items.size + 1 - n)) { s with heap := h'.push { cls := .type "list", data := .seq ((items.toList.drop i).take (items.size + 1 - n)).toArray }, toks := tk }) :
    wpAny (model prog w) A (unpackItems (.ref l) n (some i)) Q E s := by
  have hlt : l ≠ s.heap.objs.size := by obtain ⟨o, ho, _⟩ := hl; exact Nat.ne_of_lt (Heap.lt_size ho)
  have hll : l < s.heap.objs.size := by obtain ⟨o, ho, _⟩ := hl; exact Heap.lt_size ho
  unfold unpackItems
  refine wpAny_bind ?_
  unfold notIterableAtAll
  refine wpAny_bind (wpAny_specialOf hl.typeIs slot_tuple_iter.lookup ?_)
  refine wpAny_pure ?_
  simp only [Bool.false_eq_true, if_false]
  refine wpAny_bind (wpAny_holding (iter_tuple hl ?_))
  refine wpAny_bind (wpAny_holding (draw_tuple hlt i 0 _ _ ⟨_, Heap.get?_push_size _ rfl, rfl, rfl⟩ (hl.push _) (by omega) fun h₁ hit₁ hs₁ => ?_))
  have hl₁ : IsTup h₁ l items := (hl.push _).extBut hs₁.extBut hlt
  rw [Nat.zero_add] at hit₁
  have hit₁' := hit₁
  obtain ⟨oi, hoi, _⟩ := hit₁'
  have hl₁' := hl₁
  obtain ⟨ol, hol, _⟩ := hl₁'
  rw [List.drop_zero]
  have hfl : (items.toList.take i).length = i := by rw [List.length_take, Array.length_toList]; omega
  rw [if_neg (show ¬ ((items.toList.take i).length < i) by rw [hfl]; omega)]
  refine wpAny_bind (wpAny_holding (PySem.W.kun_collect (s := { s with heap := h₁ }) (T := "tuple_iterator") (.inr (.inr (.inr rfl))) (Walks.tuple (A := A.in1) hh s.heap.objs.size l hlt items) (fun j u st => st.1.typeIs) (k := i) (by omega) ⟨hit₁, hl₁⟩ (Heap.lt_size hoi) (Heap.lt_size hol) (fun h₂ tk hk => ?_) hz))
  have hrl : (items.toList.drop i).length = items.size - i := by rw [List.length_drop, Array.length_toList]
  have hmid : (items.toList.drop i).length - (n - 1 - i) = items.size + 1 - n := by rw [hrl]; omega
  show wpAny _ _ (if (items.toList.drop i).length < n - 1 - i then _ else _) _ _ _
  rw [if_neg (by rw [hrl]; omega)]
  show wpAny _ _ (newList ((items.toList.drop i).take ((items.toList.drop i).length - (n - 1 - i))) >>= fun d => pure (items.toList.take i ++ [d] ++ (items.toList.drop i).drop ((items.toList.drop i).length - (n - 1 - i)))) _ _ _
  rw [hmid]
  have he : ∀ b o, s.heap.get? b = some o → h₂.get? b = some o := fun b o e => by
    have hb : b ≠ s.heap.objs.size := Nat.ne_of_lt (Heap.lt_size e)
    exact hk b o hb (hs₁.extBut b o hb (Heap.get?_push_of_some _ e))
  refine wpAny_bind (wpAny_newList (wpAny_pure (h h₂ tk he)) (by rw [List.length_take, hrl]; omega))
def gStar (K : PySem.W.Frag) (n i : Nat) (t : TGs) : TG := fun v σ H Q => ∃ a xs, v = .ref a ∧ SqT K H a xs ∧ n ≤ xs.length + 1 ∧ ∀ p, H p = none → t (xs.take i ++ [.ref p] ++ (xs.drop i).drop (xs.length + 1 - n)) σ (upd H p (.lst ((xs.drop i).take (xs.length + 1 - n)))) Q
omit [PgW] in
theorem vals_take {xs : List V} {us : List Value} (h : Vals xs us) : ∀ n : Nat, Vals (xs.take n) (us.take n) := by
  induction h with
  | nil => intro n; simp; exact .nil
  | cons r t ih => intro n; cases n with
    | zero => exact .nil
    | succ n => exact .cons r (ih n)
omit [PgW] in
theorem vals_drop {xs : List V} {us : List Value} (h : Vals xs us) : ∀ n : Nat, Vals (xs.drop n) (us.drop n) := by
  induction h with
  | nil => intro n; simp; exact .nil
  | cons r t ih => intro n; cases n with
    | zero => exact .cons r t
    | succ n => exact ih n
omit [PgW] in
theorem pg_star {es : List Expr} {k n i : Nat} {t : TGs} {pos : Pos} (hc : X.calm = true) (h : PGs X es t) (hn : (assignEach es X.env).length = n := by rfl) (hst : (assignEach es X.env).findIdx? (·.1) = some i := by rfl) (hi : i < n := by decide) : PG X (.Tuple es k pos) (gStar X.K n i t) := by
  refine ⟨fun pins s σ H v u Q I r hw => ?_⟩
  obtain ⟨a, xs, e1, hq, hl, hw⟩ := hw
  subst e1
  cases r
  obtain ⟨its, rv, ht, hz⟩ := I.tuple hq
  have hlen := rv.length
  rw [assign_Tuple]
  refine wpAny_bind (wpAny_standAt ?_)
  unfold unpack
  rw [hn, hst]
  refine wpAny_bind (wpAny_holding (raw_star ht (I.ok.hd hc) hi (by simp; omega) (by simp; omega) fun h' tk hk => ?_))
  have I1 : Inv X pins σ H { s with heap := h', toks := tk } := I.kept hk
  have vm : Vals ((xs.drop i).take (xs.length + 1 - n)) ((its.drop i).take (its.length + 1 - n)) := by rw [hlen]; exact vals_take (vals_drop rv i) _
  have I2 := I1.lnew (t' := tk) vm (by rw [List.length_take, List.length_drop]; omega)
  have q := hw h'.objs.size (I1.hok.fresh (Nat.le_refl _))
  have fin := h.run pins _ σ _ _ (its.take i ++ [.ref h'.objs.size] ++ (its.drop i).drop (its.length + 1 - n)) Q I2 ?_ q
  · simpa using fin
  · refine Vals.append (Vals.append (vals_take rv i) (.cons rfl .nil)) ?_
    rw [hlen]
    exact vals_drop (vals_drop rv i) _
omit [PgW] in
theorem pgs_star {e : Expr} {es : List Expr} {t : TG} {u : TGs} {p : Pos} (h1 : PG X e t) (h2 : PGs X es u) : PGs X (.Starred e p :: es) (gCons t u) := by
  refine ⟨fun pins s σ H vs us Q I r h => ?_⟩
  obtain ⟨v, vr, e1, h⟩ := h
  subst e1
  cases r with
  | cons r rr =>
    show wpAny _ _ (assignInOrder (assign e X.env :: (assignEach es X.env).map (·.2)) _) _ _ _
    refine assignInOrder_cons (thn (h1.run pins s σ H _ _ _ I r h) fun _ s1 ⟨σ1, H1, I1, q1⟩ => ?_)
    exact h2.run pins s1 σ1 H1 _ _ Q I1 rr q1
theorem gxs_star {e : Expr} {es : List Expr} {p : Pos} {g : D → Rho → Option Rho} {gs : List D → Rho → Option Rho} {is js : List Nat} (h1 : GX X P O e g is) (h2 : GXs X P O es gs js) : GXs X P O (.Starred e p :: es) (consG g gs) (is ++ js) := by
  refine pgs_mono (pgs_star h1 h2) fun vs σ H Q ⟨ρ, G, F, ds, ρ', r, hd, ee, q⟩ => ?_
  cases hd with
  | nil => cases ee
  | cons a b =>
    obtain ⟨ρ1, h3, h4⟩ := Option.bind_eq_some_iff.mp ee
    refine ⟨_, _, rfl, ρ, G, F, _, ρ1, r, a, h3, fun σ' k l r' => ?_⟩
    refine ⟨ρ1, G, F, _, ρ', r', b, h4, fun σ2 k2 l2 r2 => ?_⟩
    exact q σ2 (fun j hj => by
      rw [k2 j (fun z => hj (List.mem_append_right _ z)), k j (fun z => hj (List.mem_append_left _ z))]) (l2.trans l) r2
def starG (n i : Nat) (gs : List D → Rho → Option Rho) : D → Rho → Option Rho
  | .tuple ds, ρ => if n ≤ ds.length + 1 then gs (ds.take i ++ [.list ((ds.drop i).take (ds.length + 1 - n))] ++ (ds.drop i).drop (ds.length + 1 - n)) ρ else none
  | _, _ => none
theorem sx_star {es : List Expr} {k n i : Nat} {e : Expr} {T : Rho → Out Rho D} {gs : List D → Rho → Option Rho} {is : List Nat} {tpos pos : Pos} (hc : X.calm = true) (he : EX X P O e T) (hg : GXs X P O es gs is) (hex : L.ex O)
    (hn : (assignEach es X.env).length = n := by rfl) (hst : (assignEach es X.env).findIdx? (·.1) = some i := by rfl) (hi : i < n := by decide)
    (hs : swapsWithSole [.Tuple es k tpos] e pos.line X.env = pure false := by rfl) (hw : swappedStores [.Tuple es k tpos] e X.env = pure none := by rfl)
    (h1 : (assignEach [.Tuple es k tpos] X.env).map (·.2) = [assign (.Tuple es k tpos) X.env] := by rfl) : SX X P L O O (.Assign [.Tuple es k tpos] e pos) (tgtT (starG n i gs) T) := by
  refine ps_mono (ps_asg he (pg_star hc hg hn hst hi) hs hw h1) fun E σ H h => ?_
  refine tX_stmt (R := rE X.K) hex h fun v H' a ρ' G' F r e f => ?_
  cases e with
  | @tup aa xs ds q p =>
    unfold starG at f
    dsimp only at f
    by_cases hl : n ≤ ds.length + 1
    · rw [if_pos hl] at f
      refine ⟨_, _, rfl, sqT_mono r.gr q, by rw [DpAll.len p]; exact hl, fun b hb => ?_⟩
      obtain ⟨r2, e2⟩ := r.alloc (o := .lst ((xs.drop i).take (xs.length + 1 - n))) hb
      cases z : gs (ds.take i ++ [.list ((ds.drop i).take (ds.length + 1 - n))] ++ (ds.drop i).drop (ds.length + 1 - n)) ρ' with
      | none => rw [z] at f; exact f.elim
      | some ρ2 =>
        rw [z] at f
        have p' := dpAll_mono e2.1 p
        refine ⟨ρ', _, F, _, ρ2, r2, ?_, z, fun σ' _ _ r' => f σ' _ _ r' e2⟩
        have hl' := DpAll.len p
        rw [hl'] at p' ⊢
        exact ((p'.take i).append (.cons (.lst (SqL.of upd_same) ((p'.drop i).take _)) .nil)).append ((p'.drop i).drop _)
    · rw [if_neg hl] at f; exact f.elim
  | _ => exact f.elim
end
end Z

/-! file ZObj -/
set_option Elab.async false
set_option linter.all false
set_option autoImplicit false
set_option maxRecDepth 100000
set_option maxHeartbeats 4000000
/-! objects that a slot owns: their attributes, their making, calls of them, properties -/
namespace Z
open PySem PySem.Spec PyProof.Rows L2
variable [PgW]

def getF (f : Str) : List (D × D) → Option D
  | [] => none
  | (.str g, d) :: r => if g = f then some d else getF f r
  | _ :: r => getF f r
def putD (f : Str) (d : D) : List (D × D) → List (D × D)
  | [] => [(.str f, d)]
  | (.str g, e) :: r => if g = f then (.str g, d) :: r else (.str g, e) :: putD f d r
  | q :: r => q :: putD f d r
section
variable {K : PySem.W.Frag} {G : Hp}
theorem fsR_get {f : Str} {d : D} : ∀ {fs : List (Str × V)} {kvs : List (D × D)}, FsR K G fs kvs → getF f kvs = some d → ∃ v, fs.lookup f = some v ∧ Dp K G v d
  | _, _, .nil, h => by cases h
  | (g, v) :: fs, (k, e) :: kvs, .cons a b, h => by
    obtain ⟨a1, a2⟩ := a
    simp only at a1 a2
    subst a1
    unfold getF at h
    by_cases z : g = f
    · subst z
      rw [if_pos rfl] at h
      cases h
      exact ⟨v, by simp [List.lookup], a2⟩
    · rw [if_neg z] at h
      obtain ⟨w, h1, h2⟩ := fsR_get b h
      have q : (f == g) = false := beq_eq_false_iff_ne.mpr fun x => z x.symm
      exact ⟨w, by simp [List.lookup, q, h1], h2⟩
theorem fsR_put {f : Str} {v : V} {d : D} (hd : Dp K G v d) : ∀ {fs : List (Str × V)} {kvs : List (D × D)}, FsR K G fs kvs → FsR K G (putF f v fs) (putD f d kvs)
  | _, _, .nil => .cons ⟨rfl, hd⟩ .nil
  | (g, w) :: fs, (k, e) :: kvs, .cons a b => by
    obtain ⟨a1, a2⟩ := a
    simp only at a1 a2
    subst a1
    unfold putF putD
    by_cases z : g = f
    · rw [if_pos z, if_pos z]
      exact .cons ⟨rfl, hd⟩ b
    · rw [if_neg z, if_neg z]
      exact .cons ⟨rfl, a2⟩ (fsR_put hd b)
theorem fsR_len : ∀ {fs : List (Str × V)} {kvs : List (D × D)}, FsR K G fs kvs → fs.length = kvs.length
  | _, _, .nil => rfl
  | _, _, .cons _ b => congrArg (· + 1) (fsR_len b)
end
section
variable {X : Cx} {P : Pm} {L : Lp} {O O' O1 : Own}
theorem Rel.inst {K : PySem.W.Frag} {F H G : Hp} {fx : List (Nat × Addr)} {σ : L2.St} {ρ : Rho} (r : Rel K F fx O σ H ρ G) {i : Nat} {d : D} {C : Addr} {v : V} (h : getS i ρ = some d) (n : ok O i = some (.ins C)) (q : σ[i]? = some (some v)) :
    ∃ a dx fs kvs, v = .ref a ∧ d = .dict kvs ∧ H a = some (.ins C dx fs) ∧ FsR K G fs kvs := by
  obtain ⟨a, q', ⟨dx, fs, kvs, e, hH, hd⟩, _, _⟩ := r.ow i d (.ins C) (getS_some h) n
  rw [q] at q'
  injection q' with q1
  injection q1 with q2
  subst q2
  exact ⟨a, dx, fs, kvs, rfl, e, hH, hd⟩
def fldT (i : Nat) (f : Str) : Rho → Out Rho D := fun ρ => match getS i ρ with
  | some (.dict kvs) => .of (getF f kvs) ρ
  | _ => .bad
theorem ex_fld (i : Nat) {C : Addr} {x f : Str} {p pos : Pos} (c : Cls X.K C) (nf : NoAttr X.K C f) (n : ok O i = some (.ins C) := by rfl) (hN : X.N[i]? = some x := by rfl) (hv : Vis X.env.scope x := by first | exact Or.inl rfl | exact Or.inr (Or.inl rfl) | exact Or.inr (Or.inr rfl))
    (hd : (x == ("__debug__" : Str)) = false := by decide) (hcd : (x == ("__classdict__" : Str)) = false := by decide) (hb : attributeBase (.Name x p) f X.env (eval (.Name x p) X.env) = eval (.Name x p) X.env := by rfl) : EX X P O (.Attribute (.Name x p) f pos) (fldT i f) := by
  refine pe_mono (pe_fld (pe_var hN hv hd hcd) hb) fun σ H Q ⟨ρ, G, F, r, h⟩ => ?_
  unfold fldT at h
  cases z : getS i ρ with
  | none => rw [z] at h; exact h.elim
  | some d =>
    obtain ⟨a, qa⟩ := r.bound z n
    obtain ⟨a', dx, fs, kvs, ea, rfl, hH, hf⟩ := r.inst z n qa
    cases ea
    rw [z] at h
    simp only at h
    cases z2 : getF f kvs with
    | none => rw [z2] at h; exact h.elim
    | some e =>
      rw [z2] at h
      obtain ⟨v, h1, h2⟩ := fsR_get hf z2
      exact ⟨.ref a, qa, a, C, dx, fs, v, rfl, hH, c, nf, h1, h v H G r (Ext.refl _ _) h2⟩
def sfldT (i : Nat) (f : Str) (Te : Rho → Out Rho D) : Rho → Out Rho Flw := fun ρ => (Te ρ).bind fun d ρ1 => match getS i ρ1 with
  | some (.dict kvs) => if kvs.length < 1000 then .ok .nx (ρ1.set i (some (.dict (putD f d kvs)))) else .bad
  | _ => .bad
theorem sx_fld (i : Nat) {C : Addr} {x f : Str} {e : Expr} {p pos' pos : Pos} {Te : Rho → Out Rho D} (c : Cls X.K C) (nf : NoAttr X.K C f) (he : EX X P O e Te) (hex : L.ex O) (n : ok O i = some (.ins C) := by rfl) (hN : X.N[i]? = some x := by rfl) (hv : Vis X.env.scope x := by first | exact Or.inl rfl | exact Or.inr (Or.inl rfl) | exact Or.inr (Or.inr rfl))
    (hd : (x == ("__debug__" : Str)) = false := by decide) (hcd : (x == ("__classdict__" : Str)) = false := by decide) (hs : swapsWith e (some (.Attribute (.Name x p) f pos')) pos.line X.env = pure false := by rfl) : SX X P L O O (.Assign [.Attribute (.Name x p) f pos'] e pos) (sfldT i f Te) := by
  refine ps_mono (ps_fld (pe_var hN hv hd hcd) he hs) fun E σ H ⟨ρ, G, F, r, h⟩ => ?_
  refine ⟨ρ, G, F, r, Fin.imp (FinS.ofE (R := rE X.K) hex h) fun v H1 ⟨d, ρ1, G1, r1, e1, dv, f1⟩ => ?_⟩
  cases z : getS i ρ1 with
  | none => rw [z] at f1; exact f1.elim
  | some d0 =>
    obtain ⟨a, qa⟩ := r1.bound z n
    obtain ⟨a', dx, fs, kvs, ea, rfl, hH, hf⟩ := r1.inst z n qa
    cases ea
    rw [z] at f1
    simp only at f1
    by_cases hl : kvs.length < 1000
    · rw [if_pos hl] at f1
      refine ⟨.ref a, qa, a, C, dx, fs, rfl, hH, c, nf, by rw [fsR_len hf]; exact hl, ?_⟩
      exact f1 σ _ G1 (r1.mutate (getS_some z) n qa ⟨dx, _, _, rfl, upd_same, fsR_put dv hf⟩) (Ext.refl _ _)
    · rw [if_neg hl] at f1; exact f1.elim

/-! ### calls that may not raise -/
def callQ (js : List (Option Nat)) (S : List D → Out (List D) D) (Ta : Rho → Out Rho (List D)) : Rho → Out Rho D := fun ρ => (Ta ρ).bind fun ds ρ1 => match fillJ js ds ρ1 with
  | none => .bad
  | some ds' => match S ds' with
    | .ok d os => .ok d (putJ js os ρ1)
    | _ => .bad
theorem sp_callQ {js : List (Option Nat)} {ks : List (Option OKd)} {S : List D → Out (List D) D} {σ : L2.St} {H G F : Hp} {ρ : Rho} {vs : List V} {ds : List D} {Q : VK}
    (hk : kindsJ O js = kindsK ks) (hj : distinctJ js = true) (r : Rel X.K F P.fx O σ H ρ G) (ha : JAll X.K σ G js vs ds)
    (h : Fin X.K X.mg P O σ F (rE X.K) G (match fillJ js ds ρ with | none => .bad | some ds' => match S ds' with | .ok d os => .ok d (putJ js os ρ) | _ => .bad) Q) :
    spZ X.K X.mg ks none S vs H Q E0 := by
  refine sp_call (P := P.quiet) (rk := none) hk hj r ha ?_
  cases hf : fillJ js ds ρ with
  | none => rw [hf] at h; exact h.elim
  | some ds' =>
    rw [hf] at h
    cases hS : S ds' with
    | ok d os => simp only [hS] at h ⊢; exact h
    | exc c fs os => simp only [hS] at h; exact h.elim
    | bad => simp only [hS] at h; exact h.elim
omit [PgW] in
theorem fnR_of {k : Nat} {f : Addr} {fd : FuncData} {ps : List Str} {sp : Sp} (Fn : FnOk X.prog X.w X.K X.mg X.base (L2.CX X.prog X.w) k f fd ps sp) (hb : Binds X.K fd ps []) : FnR X.prog X.w X.K X.mg X.base (L2.CX X.prog X.w) k f sp := by
  intro A outer s H us vs Q E hr e0 r h
  have hl : us.length = ps.length := by rw [← r.length]; exact Fn.len _ _ _ _ h
  have b := hb s us (e0.mod.kin.keeps fun b o e => (e0.bs b o e).1) (by rw [List.append_nil]; exact hl)
  rw [List.append_nil] at b
  exact Fn.run A outer s H ⟨us, []⟩ us vs Q E hr e0 b r h
section
variable {k : Nat} {f g C : Addr} {fd : FuncData} {ps : List Str} {x : Str} {p pos : Pos} {e : Expr} {es : List Expr} {js : List (Option Nat)} {ks : List (Option OKd)} {S : List D → Out (List D) D} {T : Rho → Out Rho (List D)}
/-- x(..), x an instance that a slot owns -/
theorem ex_callI (i : Nat) (c : StX.CallO X.K C g) (Fn : FnOk X.prog X.w X.K X.mg X.base (L2.CX X.prog X.w) k g fd ps (spZ X.K X.mg ks none S)) (hr : Room k X.A) (hb : Binds X.K fd ps [])
    (ha : AJ X P O (e :: es) js T) (n : ok O i = some (.ins C) := by rfl) (hk : kindsJ O (some i :: js) = kindsK ks := by rfl) (hj : distinctJ (some i :: js) = true := by rfl) (hN : X.N[i]? = some x := by rfl) (hv : Vis X.env.scope x := by first | exact Or.inl rfl | exact Or.inr (Or.inl rfl) | exact Or.inr (Or.inr rfl))
    (hd : (x == ("__debug__" : Str)) = false := by decide) (hcd : (x == ("__classdict__" : Str)) = false := by decide)
    (ht : eval (.Call (.Name x p) (e :: es) [] pos) X.env = (do callWith pos (← eval (.Name x p) X.env) [] (backTo pos (starEach (e :: es) X.env)) (backToKw pos (keywordEach [] X.env))) := by rfl)
    (he : starEach (e :: es) X.env = (false, eval e X.env) :: starEach es X.env := by rfl) (hpl : (backTo pos (starEach es X.env)).any (·.1) = false := by rfl) : EX X P O (.Call (.Name x p) (e :: es) [] pos) (callQ (some i :: js) S (ownT i T)) := by
  refine pe_mono (StX.pe_callO (pe_var hN hv hd hcd) c (fnR_of Fn hb) hr passL ha ht he hpl) fun σ H Q ⟨ρ, G, F, rr, h⟩ => ?_
  unfold callQ ownT at h
  cases z : getS i ρ with
  | none => rw [z] at h; exact h.elim
  | some d0 =>
    rw [z] at h
    obtain ⟨a, qa⟩ := rr.bound z n
    refine ⟨.ref a, qa, a, rfl, ?_⟩
    have h' : Fin X.K X.mg P O σ F (rE X.K) G ((T ρ).bind fun ds ρ2 => (match fillJ (some i :: js) (.none :: ds) ρ2 with | none => .bad | some ds' => match S ds' with | .ok d os => .ok d (putJ (some i :: js) os ρ2) | _ => .bad)) Q := by
      cases w : T ρ with
      | ok ds ρ2 => simp only [w] at h ⊢; exact h
      | exc c fs ρ2 => simp only [w] at h ⊢; exact h
      | bad => simp only [w] at h; exact h.elim
    refine tX_bind' (R := rJ X.K js) rr h' fun vs H1 ds ρ1 G1 r1 e1 p1 h1 => ?_
    refine ⟨.inr ?_, sp_callQ hk hj r1 (show JAll X.K σ G1 (some i :: js) (.ref a :: vs) (.none :: ds) from ⟨qa, p1⟩) h1⟩
    cases z1 : getS i ρ1 with
    | none => simp only [fillJ, z1, Option.bind_none] at h1; exact h1.elim
    | some d1 =>
      obtain ⟨a', dx, fs, kvs, ea, _, hH, _⟩ := r1.inst z1 n qa
      cases ea
      exact ⟨dx, fs, hH⟩
/-- x.f, a property of an instance that a slot owns -/
theorem ex_prop (i : Nat) {f : Str} {pr : Addr} (c : Cls X.K C) (hp : PropOf X.K C f pr g) (Fn : FnOk X.prog X.w X.K X.mg X.base (L2.CX X.prog X.w) k g fd ps (spZ X.K X.mg ks none S)) (hr : Room (k + 1) X.A) (hb : Binds X.K fd ps [])
    (n : ok O i = some (.ins C) := by rfl) (hk : kindsJ O [some i] = kindsK ks := by rfl) (hj : distinctJ [some i] = true := by rfl) (hN : X.N[i]? = some x := by rfl) (hv : Vis X.env.scope x := by first | exact Or.inl rfl | exact Or.inr (Or.inl rfl) | exact Or.inr (Or.inr rfl))
    (hd : (x == ("__debug__" : Str)) = false := by decide) (hcd : (x == ("__classdict__" : Str)) = false := by decide) (hab : attributeBase (.Name x p) f X.env (eval (.Name x p) X.env) = eval (.Name x p) X.env := by rfl) : EX X P O (.Attribute (.Name x p) f pos) (callQ [some i] S (ownT i nilT)) := by
  refine pe_mono (pe_prop (pe_var hN hv hd hcd) c hp Fn hr hb .nil passL hab) fun σ H Q ⟨ρ, G, F, rr, h⟩ => ?_
  unfold callQ ownT at h
  cases z : getS i ρ with
  | none => rw [z] at h; exact h.elim
  | some d0 =>
    obtain ⟨a, qa⟩ := rr.bound z n
    obtain ⟨a', dx, fs, kvs, ea, _, hH, _⟩ := rr.inst z n qa
    cases ea
    refine ⟨.ref a, qa, a, dx, fs, rfl, hH, ?_⟩
    rw [z] at h
    exact sp_callQ hk hj rr (show JAll X.K σ G [some i] [.ref a] [.none] from ⟨qa, trivial⟩) h
def makeT (S : List D → Out (List D) D) (Ta : Rho → Out Rho (List D)) : Rho → Out Rho D := fun ρ => (Ta ρ).bind fun ds ρ1 => match S (.dict [] :: ds) with
  | .ok .none [o] => .ok o ρ1
  | _ => .bad
theorem outZ_none {K : PySem.W.Frag} {H G : Hp} : ∀ {m : Nat} {vs : List V} {os : List D}, OutZ K H G (List.replicate m none) vs os → True := fun _ => trivial
/-- C(..) -/
theorem fx_make {m : Nat} (M : Mk X.K C f) (Fn : FnOk X.prog X.w X.K X.mg X.base (L2.CX X.prog X.w) k f fd ps (spZ X.K X.mg (some (.ins C) :: List.replicate m none) none S)) (hr : Room (k + 1) X.A) (hm : X.mg x = some (.ref C)) (hb : Binds X.K fd ps []) (hps : ps.length = m + 1)
    (ha : AX X P O (e :: es) T) (hg : Gl X x := by rfl) (hdb : (x == ("__debug__" : Str)) = false := by decide) (he : starEach (e :: es) X.env = (false, eval e X.env) :: starEach es X.env := by rfl) (hpl : (backTo pos (starEach es X.env)).any (·.1) = false := by rfl) (hm2 : m = (e :: es).length := by rfl) :
    FX X P O (.ins C) (.Call (.Name x p) (e :: es) [] pos) (fun ρ => (T ρ).bind fun ds ρ1 => if ds.length = m then makeT S (fun r => .ok ds r) ρ1 else .bad) := by
  refine pe_mono (pe_make M Fn hr hg hm hb .nil passL ha hdb he hpl) fun σ H Q ⟨ρ, G, F, rr, h⟩ => ?_
  refine tX_bind' (R := rA X.K) rr h fun vs H1 ds ρ1 G1 r1 e1 p1 h1 => ?_
  by_cases hl : ds.length = m
  · rw [if_pos hl] at h1
    intro y dx hy hdx hne
    unfold makeT at h1
    simp only [bind_ok] at h1
    rw [List.append_nil]
    have vl := DpAll.len p1
    have ne_of : ∀ a o, H1 a = some o → a ≠ y ∧ a ≠ dx := fun a o h => ⟨ne_of_none h hy, ne_of_none h hdx⟩
    have hH : ∀ a o, H1 a = some o → upd (upd H1 dx (.own y)) y (.ins C dx []) a = some o := fun a o h => by
      rw [upd_ne (ne_of a o h).1, upd_ne (ne_of a o h).2]; exact h
    refine ⟨.dict [] :: ds, G1, H1, hH, fun a o h => hH a o (r1.gr a o h), ⟨?_, ?_, fun i d hi hd => ?_, fun i k d hi hd => ?_, fun i j k l a hi hj _ _ => ?_⟩, ?_⟩
    · simp [vl, hl]
    · simp [vl]
    · cases i with
      | zero => simp at hi
      | succ i =>
        obtain ⟨v, h1, h2⟩ := DpAll.get' p1 (show ds[i]? = some d from by simpa using hd)
        exact ⟨v, by simpa using h1, h2⟩
    · cases i with
      | zero =>
        simp at hi hd
        subst hi hd
        exact ⟨y, rfl, ⟨dx, [], [], rfl, upd_same, .nil⟩, hy, by
          cases z : G1 y with
          | none => rfl
          | some o => rw [r1.gr y o z] at hy; cases hy⟩
      | succ i => simp [List.getElem?_replicate] at hi
    · cases i with
      | zero => cases j with
        | zero => rfl
        | succ j => simp [List.getElem?_replicate] at hj
      | succ i => simp [List.getElem?_replicate] at hi
    · split at h1
      · rename_i o heq
        rw [heq]
        intro v H' G' hF hG e ho hv
        cases hv
        refine ⟨rfl, ?_⟩
        obtain ⟨⟨a, ea, w, g⟩, _⟩ := (show (∃ a, V.ref y = .ref a ∧ OwnAt X.K H' G' (.ins C) a o ∧ G' a = none) ∧ OutZ X.K H' G' (List.replicate m none) vs [] from ho)
        cases ea
        have keep : Rel X.K F P.fx O σ H' ρ1 G' := r1.next (fun a o h => hF a o (r1.fr a o h)) e.1 hG fun i d k a hd hk hs => by
          obtain ⟨b, qb, w, f, g⟩ := r1.ow i d k hd hk
          rw [hs] at qb; cases qb
          obtain ⟨o', ho'⟩ := w.there
          exact ⟨(hF a o' ho').trans ho'.symm, e.2 a (by rw [ho']; exact fun x => by cases x) g⟩
        refine h1 (.ref y) H' G' keep (e.frame fun a n => ?_) ⟨y, rfl, w, ?_, g, fun j d l hd hl' s => ?_⟩
        · cases z : F a with
          | none => exact absurd z n
          | some o => rw [r1.fr a o z]; exact fun x => by cases x
        · cases z : F y with
          | none => rfl
          | some o => rw [r1.fr y o z] at hy; cases hy
        · exact r1.own_ne hy hd hl' s rfl
      · exact h1.elim
  · rw [if_neg hl] at h1; exact h1.elim
end
end
end Z

/-! file ZHead -/
set_option Elab.async false
set_option linter.all false
set_option autoImplicit false
set_option maxRecDepth 100000
set_option maxHeartbeats 4000000
/-! the head: defs by places, constants; calls by names -/
namespace Z
open PySem PySem.Spec PyProof.Rows L2
variable [PgW]

/-- a def of the text, called by its name: its promise -/
def FnZ (P : Program) (w : World) (K : PySem.W.Frag) (mg : Str → Option Value) (base : Heap) (x : Str) (k : Nat) (ks : List (Option OKd)) (rk : Option OKd) (S : List D → Out (List D) D) : Prop :=
  ∃ (f : Addr) (fd : FuncData) (ps : List Str), mg x = some (.ref f) ∧ PySem.W.keepIn K (.ref f) = true ∧ Binds K fd ps [] ∧ FnOk P w K mg base (L2.CX P w) k f fd ps (spZ K mg ks rk S)
/-- a def of the text by its object -/
def FaZ (P : Program) (w : World) (K : PySem.W.Frag) (mg : Str → Option Value) (base : Heap) (f : Addr) (k : Nat) (m : Nat) (ks : List (Option OKd)) (rk : Option OKd) (S : List D → Out (List D) D) : Prop :=
  ∃ (fd : FuncData) (ps : List Str), ps.length = m ∧ PySem.W.keepIn K (.ref f) = true ∧ Binds K fd ps [] ∧ FnOk P w K mg base (L2.CX P w) k f fd ps (spZ K mg ks rk S)
/-- how its arguments bind -/
def BindsW (x qual : Str) (st : Stmt) (ps : List Str) : Prop := ∀ (kV doc pm : Value) (an : Option Addr) (cdv ct : Value) (us : List Value), us.length = ps.length → bindArgs (PySem.W.fnOf x qual (defArgs st) (defBody st) (defScope st) .none kV doc pm an cdv ct) ⟨us, []⟩ = pure (ps.zip us)
section
variable {P : Program} {w : World} {K : PySem.W.Frag} {mg : Str → Option Value} {base : Heap}
theorem FnZ.of {x y qual : Str} {st : Stmt} {f : Addr} {fd : FuncData} {ps : List Str} {k : Nat} {ks : List (Option OKd)} {rk : Option OKd} {S : List D → Out (List D) D} (F : Fun K x qual st f fd) (hm : mg y = some (.ref f)) (hb : BindsW x qual st ps)
    (h : FnOk P w K mg base (L2.CX P w) k f fd ps (spZ K mg ks rk S)) : FnZ P w K mg base y k ks rk S := ⟨f, fd, ps, hm, F.kp, F.binds hb, h⟩
theorem FaZ.of {x qual : Str} {st : Stmt} {f : Addr} {fd : FuncData} {ps : List Str} {k : Nat} {ks : List (Option OKd)} {rk : Option OKd} {S : List D → Out (List D) D} (F : Fun K x qual st f fd) (hb : BindsW x qual st ps)
    (h : FnOk P w K mg base (L2.CX P w) k f fd ps (spZ K mg ks rk S)) : FaZ P w K mg base f k ps.length ks rk S := ⟨fd, ps, rfl, F.kp, F.binds hb, h⟩
theorem FnZ.mono {x : Str} {j k : Nat} {ks : List (Option OKd)} {rk : Option OKd} {S : List D → Out (List D) D} (F : FnZ P w K mg base x j ks rk S) (h : j ≤ k) : FnZ P w K mg base x k ks rk S := by
  obtain ⟨f, fd, ps, a, b, c, d⟩ := F
  exact ⟨f, fd, ps, a, b, c, d.mono h⟩
/-- told by another function where the first one ends well -/
theorem FnZ.congr {x : Str} {k : Nat} {ks : List (Option OKd)} {rk : Option OKd} {S S' : List D → Out (List D) D} (F : FnZ P w K mg base x k ks rk S) (h : ∀ ds, S' ds = .bad ∨ S ds = S' ds) : FnZ P w K mg base x k ks rk S' := by
  obtain ⟨f, fd, ps, a, b, c, d⟩ := F
  exact ⟨f, fd, ps, a, b, c, spZ_congr d h⟩
theorem FaZ.congr {f : Addr} {m : Nat} {k : Nat} {ks : List (Option OKd)} {rk : Option OKd} {S S' : List D → Out (List D) D} (F : FaZ P w K mg base f k m ks rk S) (h : ∀ ds, S' ds = .bad ∨ S ds = S' ds) : FaZ P w K mg base f k m ks rk S' := by
  obtain ⟨fd, ps, a, b, c, d⟩ := F
  exact ⟨fd, ps, a, b, c, spZ_congr d h⟩
/-- nothing promised -/
theorem FnZ.none {x y qual : Str} {st : Stmt} {f : Addr} {fd : FuncData} {ps : List Str} {ks : List (Option OKd)} {rk : Option OKd} (F : Fun K x qual st f fd) (hm : mg y = some (.ref f)) (hb : BindsW x qual st ps) : FnZ P w K mg base y 0 ks rk (fun _ => .bad) :=
  ⟨f, fd, ps, hm, F.kp, F.binds hb, ⟨fun _ _ _ _ ⟨_, _, _, _, _, _, h⟩ => h.elim, fun _ _ _ _ _ _ _ _ _ _ _ _ _ ⟨_, _, _, _, _, _, h⟩ => h.elim⟩⟩
end
section
variable {X : Cx} {P : Pm} {L : Lp} {O : Own} {k : Nat} {x : Str} {p pos : Pos} {e : Expr} {es : List Expr} {js : List (Option Nat)} {ks : List (Option OKd)} {S : List D → Out (List D) D} {T : Rho → Out Rho (List D)}
theorem ex_fn (Fn : FnZ X.prog X.w X.K X.mg X.base x k ks none S) (hr : Room k X.A) (tk : Takes X P.W)
    (ha : AJ X P O (e :: es) js T) (hk : kindsJ O js = kindsK ks := by rfl) (hj : distinctJ js = true := by rfl) (hg : Gl X x := by rfl) (hdb : (x == ("__debug__" : Str)) = false := by decide) (he : starEach (e :: es) X.env = (false, eval e X.env) :: starEach es X.env := by rfl) (hpl : (backTo pos (starEach es X.env)).any (·.1) = false := by rfl) :
    EX X P O (.Call (.Name x p) (e :: es) [] pos) (callT js S T) := by
  obtain ⟨f, fd, ps, a, b, c, d⟩ := Fn
  exact ex_call d hr a b c tk ha hk hj hg hdb he hpl
theorem fx_fn {kd : OKd} (Fn : FnZ X.prog X.w X.K X.mg X.base x k ks (some kd) S) (hr : Room k X.A) (tk : Takes X P.W)
    (ha : AJ X P O (e :: es) js T) (hk : kindsJ O js = kindsK ks := by rfl) (hj : distinctJ js = true := by rfl) (hg : Gl X x := by rfl) (hdb : (x == ("__debug__" : Str)) = false := by decide) (he : starEach (e :: es) X.env = (false, eval e X.env) :: starEach es X.env := by rfl) (hpl : (backTo pos (starEach es X.env)).any (·.1) = false := by rfl) :
    FX X P O kd (.Call (.Name x p) (e :: es) [] pos) (callT js S T) := by
  obtain ⟨f, fd, ps, a, b, c, d⟩ := Fn
  exact fx_call d hr a b c tk ha hk hj hg hdb he hpl
theorem ex_inst (i : Nat) {C g : Addr} {m : Nat} (c : StX.CallO X.K C g) (Fn : FaZ X.prog X.w X.K X.mg X.base g k m ks none S) (hr : Room k X.A)
    (ha : AJ X P O (e :: es) js T) (n : ok O i = some (.ins C) := by rfl) (hk : kindsJ O (some i :: js) = kindsK ks := by rfl) (hj : distinctJ (some i :: js) = true := by rfl) (hN : X.N[i]? = some x := by rfl) (hv : Vis X.env.scope x := by first | exact Or.inl rfl | exact Or.inr (Or.inl rfl) | exact Or.inr (Or.inr rfl))
    (hd : (x == ("__debug__" : Str)) = false := by decide) (hcd : (x == ("__classdict__" : Str)) = false := by decide)
    (ht : eval (.Call (.Name x p) (e :: es) [] pos) X.env = (do callWith pos (← eval (.Name x p) X.env) [] (backTo pos (starEach (e :: es) X.env)) (backToKw pos (keywordEach [] X.env))) := by rfl)
    (he : starEach (e :: es) X.env = (false, eval e X.env) :: starEach es X.env := by rfl) (hpl : (backTo pos (starEach es X.env)).any (·.1) = false := by rfl) : EX X P O (.Call (.Name x p) (e :: es) [] pos) (callQ (some i :: js) S (ownT i T)) := by
  obtain ⟨fd, ps, _, b, c', d⟩ := Fn
  exact ex_callI i c d hr c' ha n hk hj hN hv hd hcd ht he hpl
theorem ex_propZ (i : Nat) {C pr g : Addr} {m : Nat} {f : Str} (c : Cls X.K C) (hp : PropOf X.K C f pr g) (Fn : FaZ X.prog X.w X.K X.mg X.base g k m ks none S) (hr : Room (k + 1) X.A)
    (n : ok O i = some (.ins C) := by rfl) (hk : kindsJ O [some i] = kindsK ks := by rfl) (hj : distinctJ [some i] = true := by rfl) (hN : X.N[i]? = some x := by rfl) (hv : Vis X.env.scope x := by first | exact Or.inl rfl | exact Or.inr (Or.inl rfl) | exact Or.inr (Or.inr rfl))
    (hd : (x == ("__debug__" : Str)) = false := by decide) (hcd : (x == ("__classdict__" : Str)) = false := by decide) (hab : attributeBase (.Name x p) f X.env (eval (.Name x p) X.env) = eval (.Name x p) X.env := by rfl) : EX X P O (.Attribute (.Name x p) f pos) (callQ [some i] S (ownT i nilT)) := by
  obtain ⟨fd, ps, _, b, c', d⟩ := Fn
  exact ex_prop i c hp d hr c' n hk hj hN hv hd hcd hab
theorem fx_makeZ {C f : Addr} {m : Nat} {T : Rho → Out Rho (List D)} (M : Mk X.K C f) (Fn : FaZ X.prog X.w X.K X.mg X.base f k (m + 1) (some (.ins C) :: List.replicate m none) none S) (hr : Room (k + 1) X.A) (hm : X.mg x = some (.ref C))
    (ha : AX X P O (e :: es) T) (hg : Gl X x := by rfl) (hdb : (x == ("__debug__" : Str)) = false := by decide) (he : starEach (e :: es) X.env = (false, eval e X.env) :: starEach es X.env := by rfl) (hpl : (backTo pos (starEach es X.env)).any (·.1) = false := by rfl) (hm2 : m = (e :: es).length := by rfl) :
    FX X P O (.ins C) (.Call (.Name x p) (e :: es) [] pos) (fun ρ => (T ρ).bind fun ds ρ1 => if ds.length = m then makeT S (fun r => .ok ds r) ρ1 else .bad) := by
  obtain ⟨fd, ps, h, b, c', d⟩ := Fn
  exact fx_make M d hr hm c' h ha hg hdb he hpl hm2
end

/-! ### constants -/
theorem kon_str {K : PySem.W.Frag} {h : Heap} {mg : Str → Option Value} {x z : Str} (X : K.In h) (G : h.Ns mainGlobals mg) (c : (He.Fa.str x z).ok K = true) : Kon K mg x (.str z) := by
  obtain ⟨t, e⟩ := He.str_ok X G c
  exact ⟨_, .str z, e, ⟨t, rfl⟩, fun _ => .str z⟩
theorem kon_int {K : PySem.W.Frag} {h : Heap} {mg : Str → Option Value} {x : Str} {z : Int} (X : K.In h) (G : h.Ns mainGlobals mg) (c : (He.Fa.int x z).ok K = true) : Kon K mg x (.int z) := by
  obtain ⟨t, e⟩ := He.int_ok X G c
  exact ⟨_, .int z, e, ⟨t, rfl⟩, fun _ => .int z⟩
def dvD : He.Dv → Option D
  | .non => some .none
  | .bl b => some (.bool b)
  | .int i => some (.int i)
  | .str x => some (.str x)
  | _ => none
def dvDs : List He.Dv → Option (List D)
  | [] => some []
  | d :: ds => (dvD d).bind fun e => (dvDs ds).map (e :: ·)
theorem dvDs_dp {K : PySem.W.Frag} {G : Hp} : ∀ {vs : List He.Dv} {ds : List D}, dvDs vs = some ds → DpAll K G (vs.map (He.Dv.v K)) ds
  | [], _, h => by cases h; exact .nil
  | d :: vs, ds, h => by
    obtain ⟨e, h1, h2⟩ := Option.bind_eq_some_iff.mp (show (dvD d).bind (fun e => (dvDs vs).map (e :: ·)) = some ds from h)
    obtain ⟨es, h3, h4⟩ := Option.map_eq_some_iff.mp h2
    subst h4
    refine .cons ?_ (dvDs_dp h3)
    cases d with
    | non => cases h1; exact .non
    | bl b => cases h1; exact .bl b
    | int b => cases h1; exact .int b
    | str b => cases h1; exact .str b
    | _ => cases h1
theorem kon_tup {K : PySem.W.Frag} {h : Heap} {mg : Str → Option Value} {x : Str} {vs : List He.Dv} {ds : List D} (X : K.In h) (G : h.Ns mainGlobals mg) (c : (He.Fa.glo x).ok K = true) (t : He.tupB K x vs = true) (hd : dvDs vs = some ds) : Kon K mg x (.tuple ds) :=
  ⟨_, .ref (He.ga K x), He.glo_ok X G c, rfl, fun G' => .tup (He.tupB_ok t G') (dvDs_dp hd)⟩
theorem kon_lst {K : PySem.W.Frag} {h : Heap} {mg : Str → Option Value} {x : Str} {vs : List He.Dv} {ds : List D} (X : K.In h) (G : h.Ns mainGlobals mg) (c : (He.Fa.glo x).ok K = true) (t : He.lstB K x vs = true) (hd : dvDs vs = some ds) : Kon K mg x (.list ds) :=
  ⟨_, .ref (He.ga K x), He.glo_ok X G c, rfl, fun G' => .lst (He.lstB_ok t G') (dvDs_dp hd)⟩

/-! ### the Hook -/
def dfZ (at_ : PySem.W.Frag → Addr) (x qual : Str) (st : Stmt) : He5.DefA := ⟨at_, x, qual, defArgs st, defBody st, defScope st, [], []⟩
def obsZ (fn : List He5.DefA) (ex : PySem.W.Frag → Bool) (K : PySem.W.Frag) : He.AlD := (ex K && fn.all fun d => d.ok K, fn.map fun d => He5.fnA K (d.at_ K))
def valZ (fn : List He5.DefA) : He.AlD := (true, fn.map He5.DefA.val)
def SaysZ (fn : List He5.DefA) (ex : PySem.W.Frag → Bool) (K : PySem.W.Frag) : Prop := obsZ fn ex K = valZ fn
/-- what an object names, as far as the defs' facts want it -/
def refsZ (o : Obj) : List Addr := match o.data with
  | .func fd => He.refV fd.code
  | .cls cd => [cd.ns]
  | .seq vs _ => (match o.cls with
    | .type "tuple" => vs.toList.flatMap He.refV
    | _ => [])
  | .dict es _ => es.toList.flatMap fun e => He.refV e.val
  | .fields vs => (match o.cls with
    | .type "property" => vs.toList.flatMap He.refV
    | _ => [])
  | _ => []
def frontZ (g : Addr → Option Obj) (as : List Addr) : List Addr := as.flatMap fun a => match g a with
  | some o => refsZ o
  | none => []
def asZ (g : Addr → Option Obj) : Nat → List Addr → List Addr
  | 0, as => as
  | n + 1, as => as ++ asZ g n (frontZ g as)
def obsZG (n : Nat) (fn : List He5.DefA) (ex : PySem.W.Frag → Bool) (g : Addr → Option Obj) : He.AlD := obsZ fn ex (He.frG g (asZ g n [mainGlobals]))
def hookZ (n : Nat) (fn : List He5.DefA) (ex : PySem.W.Frag → Bool) : PySem.W.Hook where
  α := He.AlD
  obs := fun s => obsZG n fn ex s.heap.get?
  val := fun _ => valZ fn
  says := fun _ h => ∃ K : PySem.W.Frag, K.In h ∧ SaysZ fn ex K
  of := fun _ _ e => ⟨_, He.frG_in, e⟩
  keeps := fun _ _ _ ⟨K, hK, c⟩ k => ⟨K, PySem.W.Frag.In.keeps hK k, c⟩
omit [PgW] in
theorem obsZG_eq {n : Nat} {fn : List He5.DefA} {ex : PySem.W.Frag → Bool} {g : Addr → Option Obj} {s : Shared} (h : ∀ a, g a = s.heap.get? a) : obsZG n fn ex g = (hookZ n fn ex).obs s := by
  have e : g = s.heap.get? := funext h
  rw [e] <;> rfl
section
variable {fn : List He5.DefA} {ex : PySem.W.Frag → Bool} {K : PySem.W.Frag}
omit [PgW] in
theorem SaysZ.more (c : SaysZ fn ex K) : ex K = true := (He.ba (show (ex K && fn.all fun d => d.ok K) = true from congrArg (fun z : He.AlD => z.1) c)).1
omit [PgW] in
theorem SaysZ.def_ (c : SaysZ fn ex K) (i : Nat) {at_ : PySem.W.Frag → Addr} {x qual : Str} {st : Stmt} (h : fn[i]? = some (dfZ at_ x qual st) := by rfl) : ∃ fd, Fun K x qual st (at_ K) fd := by
  have c2 := (He.ba (show (ex K && fn.all fun d => d.ok K) = true from congrArg (fun z : He.AlD => z.1) c)).2
  have e : fn.map (fun d => He5.fnA K (d.at_ K)) = fn.map He5.DefA.val := congrArg (fun z : He.AlD => z.2) c
  have e2 : (fn.map fun d => He5.fnA K (d.at_ K))[i]? = (fn.map He5.DefA.val)[i]? := by rw [e]
  rw [List.getElem?_map, List.getElem?_map, h] at e2
  obtain ⟨fd, F⟩ := He5.DefA.funD (Option.some.inj e2) (List.all_eq_true.mp c2 _ (List.mem_of_getElem? h))
  exact ⟨fd, He5.fun_of F⟩
end
omit [PgW] in
/-- several facts of a list of Bools -/
theorem all_at {α : Type} {p : α → Bool} {l : List α} (h : l.all p = true) (i : Nat) {a : α} (e : l[i]? = some a := by rfl) : p a = true := List.all_eq_true.mp h a (List.mem_of_getElem? e)

/-! ### the law's end -/
theorem law_sp {K : PySem.W.Frag} {mg : Str → Option Value} {S : List D → Out (List D) D} {ns : List Int} {H : Hp} {a : Addr} {E : XK} {os : List D} (hS : SqL K H a (ns.map V.int)) (h : S [.list (ns.map .int)] = .ok (.bool true) os) :
    spZ K mg [none] none S [.ref a] H (fun v _ => v = .bl true) E := by
  refine ⟨[.list (ns.map .int)], H, H, fun _ _ h => h, fun _ _ h => h, ⟨rfl, rfl, fun i d hi hd => ?_, fun i k d hi _ => ?_, fun i j k l b hi _ _ _ => ?_⟩, ?_⟩
  · cases i with
    | zero =>
      simp at hd
      subst hd
      exact ⟨_, rfl, .lst hS (dpAll_ints ns)⟩
    | succ i => simp at hd
  · cases i with
    | zero => simp at hi
    | succ i => simp at hi
  · cases i with
    | zero => simp at hi
    | succ i => simp at hi
  · rw [h]
    intro v H' G' _ _ _ _ hv
    cases hv
    rfl
end Z

/-! file ZMore -/
set_option Elab.async false
set_option linter.all false
set_option autoImplicit false
set_option maxRecDepth 100000
set_option maxHeartbeats 4000000
/-! more rules -/
namespace Z
open PySem PySem.Spec PyProof.Rows L2
variable [PgW]
omit [PgW] in
theorem exOf_nil {O : Own} : exOf [] O := fun m k h => by simp at h
omit [PgW] in
theorem exOf_no {ks : List (Option OKd)} {o : Option OKd} {O : Own} (h : exOf ks O) : exOf (none :: ks) (o :: O) := fun m k e => by
  cases m with
  | zero => simp at e
  | succ m => exact h m k (by simpa using e)
omit [PgW] in
theorem exOf_yes {ks : List (Option OKd)} {o : OKd} {O : Own} (h : exOf ks O) : exOf (some o :: ks) (some o :: O) := fun m k e => by
  cases m with
  | zero => simp at e; subst e; rfl
  | succ m => exact h m k (by simpa using e)
section
variable {X : Cx} {P : Pm} {L : Lp} {O O' O1 : Own}
/-! ### isinstance(x, (a, b)) -/
def isi2D (a b : String) (d : D) : Option D := (tyD d).map fun t => .bool (subTy t a || subTy t b)
def isi2T (a b : String) (T : Rho → Out Rho D) : Rho → Out Rho D := fun ρ => (T ρ).bind fun d ρ1 => .of (isi2D a b d) ρ1
theorem ex_isi2 {a b : String} {e : Expr} {T : Rho → Out Rho D} {x y : Str} {p p2 p3 tp pos : Pos} {kt : Nat} (he : EX X P O e T) (ha : a ∈ knownTy.tail) (hb : b ∈ knownTy.tail) (hm : X.mg "isinstance" = none) (hm2 : X.mg x = none) (hv2 : bootBuiltins x = some (.type a)) (hm3 : X.mg y = none) (hv3 : bootBuiltins y = some (.type b)) (hg2 : Gl X x := by rfl) (hg3 : Gl X y := by rfl)
    (hg : Gl X "isinstance" := by rfl) (hdb2 : (x == ("__debug__" : Str)) = false := by decide) (hnn2 : x ≠ "__name__" := by decide) (hdb3 : (y == ("__debug__" : Str)) = false := by decide) (hnn3 : y ≠ "__name__" := by decide)
    (hs : starEach [e, .Tuple [.Name x p2, .Name y p3] kt tp] X.env = (false, eval e X.env) :: starEach [.Tuple [.Name x p2, .Name y p3] kt tp] X.env := by rfl) (hs2 : starEach [.Tuple [.Name x p2, .Name y p3] kt tp] X.env = (false, eval (.Tuple [.Name x p2, .Name y p3] kt tp) X.env) :: starEach [] X.env := by rfl)
    (hs3 : starEach [.Name x p2, .Name y p3] X.env = (false, eval (.Name x p2) X.env) :: starEach [.Name y p3] X.env := by rfl) (hs4 : starEach [.Name y p3] X.env = (false, eval (.Name y p3) X.env) :: starEach [] X.env := by rfl)
    (hpl : (backTo pos (starEach [.Tuple [.Name x p2, .Name y p3] kt tp] X.env)).any (·.1) = false := by rfl) :
    EX X P O (.Call (.Name "isinstance" p) [e, .Tuple [.Name x p2, .Name y p3] kt tp] [] pos) (isi2T a b T) := by
  have h1 : PE X (.Name x p2) (tC (.ty a)) := pe_bltn hg2 hm2 hv2 (show L2.RelV (.ty a) (.type a) from rfl) hnn2 hdb2
  have h2 : PE X (.Name y p3) (tC (.ty b)) := pe_bltn hg3 hm3 hv3 (show L2.RelV (.ty b) (.type b) from rfl) hnn3 hdb3
  have ht := pe_tup (x1 := kt) (pos := tp) (pa_cons h1 (pa_cons h2 pa_nil hs4) hs3)
  refine pe_mono (pe_callB call_isiT hg hm (by rfl) (pa_cons he (pa_cons ht pa_nil hs2) hs) (by decide) (by decide) hs hpl) fun σ H Q ⟨ρ, G, F, rr, h⟩ => ?_
  refine tX_bind' (R := rE X.K) rr h fun v H1 d ρ1 G1 r1 e1 p1 h1 => ?_
  unfold isi2D at h1
  cases z : tyD d with
  | none => rw [z] at h1; exact h1.elim
  | some t =>
    rw [z] at h1
    refine ⟨(by decide : 2 ≤ sizeLine), fun q hq => ?_⟩
    obtain ⟨r2, e2⟩ := r1.alloc (o := .tup [.ty a, .ty b]) hq
    refine ⟨v, q, [.ty a, .ty b], .type t, [.type a, .type b], subTy t a || subTy t b, rfl, upd_same, .cons (.ty a) (.cons (.ty b) .nil), dp_ty (dp_mono r2.gr (dp_mono e2.1 p1)) z, ?_, h1 _ _ _ r2 e2 (.bl _)⟩
    refine kitAny_cons (kit_ty (kitB_known t (tyD_known z) a ha)) (fun hf => ?_) (fun ht => by rw [ht]; rfl)
    rw [hf]
    exact kitAny_cons (kit_ty (kitB_known t (tyD_known z) b hb)) (fun hf => by rw [hf]; exact kitAny_nil) (fun ht => by rw [ht]; rfl)

/-! ### parallel stores from the left -/
omit [PgW] in
theorem ps_parG {es tgs : List Expr} {ta : TA} {g : TGs} {pt pt2 pos : Pos} {kt k2 : Nat} (hc : X.calm = true) (ha : PA X es ta) (hg : PGs X tgs g) (hlen : (assignEach tgs X.env).length = es.length := by rfl) (hst : (assignEach tgs X.env).findIdx? (·.1) = none := by rfl)
    (hw : swappedStores [.Tuple tgs kt pt] (.Tuple es k2 pt2) X.env = pure none := by rfl) (hs : swapsWithSole [.Tuple tgs kt pt] (.Tuple es k2 pt2) pos.line X.env = pure false := by rfl)
    (h1 : (assignEach [.Tuple tgs kt pt] X.env).map (·.2) = [assign (.Tuple tgs kt pt) X.env] := by rfl) :
    PS X (.Assign [.Tuple tgs kt pt] (.Tuple es k2 pt2) pos) (fun D σ H => ta σ H fun vs H1 => vs.length = es.length ∧ es.length ≤ sizeLine ∧ g vs σ H1 D.nx) := by
  refine ⟨fun pins s σ H D I h => ?_⟩
  refine wpAny_Assign_stores (Tuple_ (thn (ha.run _ pins s σ H _ I h) fun us s1 ⟨vs, H1, I1, r1, hl, hz, q1⟩ => ?_)) hs hw
  have hlu : us.length = es.length := by rw [← r1.length]; exact hl
  refine wpAny_newObj_type ?_ (by show us.toArray.size ≤ sizeLine; rw [List.size_toArray, hlu]; exact hz)
  have I2 : Inv X pins σ H1 { s1 with heap := s1.heap.push { cls := .type "tuple", data := .seq us.toArray } } := I1.kept (t' := s1.toks) fun b o e => Heap.get?_push_of_some _ e
  rw [h1]
  show wpAny (model X.prog X.w) X.A (assign (.Tuple tgs kt pt) X.env (.ref s1.heap.objs.size)) _ _ _
  refine assign_Tuple_tuple (I1.ok.hd hc) (IsTup.new s1.heap us.toArray) (by rw [List.size_toArray, hlu, hlen]) hst fun h' hx => ?_
  have I3 : Inv X pins σ H1 { s1 with heap := h' } := I2.kept (h' := h') (t' := s1.toks) fun b o e => hx b o (Nat.ne_of_lt (Heap.lt_size e)) e
  exact thn (hg.run pins _ σ H1 vs _ _ I3 (by simpa using r1) q1) fun _ s2 q => q
/-- a, b = x, y that the compiler does not turn -/
theorem sx_parL (i j : Nat) {x y : Str} {a b : Expr} {k l : Option OKd} {Ta : Rho → Out Rho (List D)} {px py pt pos : Pos} {kt k2 pt2} (hc : X.calm = true) (hN : X.N.Nodup) (ha : AFX X P O [a, b] [k, l] Ta) (hex : L.ex O)
    (hw : swappedStores [.Tuple [.Name x px, .Name y py] kt pt] (.Tuple [a, b] k2 pt2) X.env = pure none := by rfl) (hO' : O' = (O.set i k).set j l := by rfl) (hO : i < O.length := by exact Nat.le_of_ble_eq_true rfl) (hO2 : j < O.length := by exact Nat.le_of_ble_eq_true rfl)
    (hfx : (P.fx.map (·.1)).contains i = false := by rfl) (hfx2 : (P.fx.map (·.1)).contains j = false := by rfl) (hi : X.N[i]? = some x := by rfl) (hj : X.N[j]? = some y := by rfl) (hx : Loc X.env.scope x := by first | exact Or.inl rfl | exact Or.inr rfl) (hy : Loc X.env.scope y := by first | exact Or.inl rfl | exact Or.inr rfl)
    (hfn1 : X.fn x = true ∨ X.env.scope.names.lookup x = some .local := by first | exact .inl rfl | exact .inr rfl) (hfn2 : X.fn y = true ∨ X.env.scope.names.lookup y = some .local := by first | exact .inl rfl | exact .inr rfl)
    (hs : swapsWithSole [.Tuple [.Name x px, .Name y py] kt pt] (.Tuple [a, b] k2 pt2) pos.line X.env = pure false := by rfl) (h1 : (assignEach [.Tuple [.Name x px, .Name y py] kt pt] X.env).map (·.2) = [assign (.Tuple [.Name x px, .Name y py] kt pt) X.env] := by rfl)
    (hs1 : (assignEach [.Name x px, .Name y py] X.env).map (·.2) = assign (.Name x px) X.env :: (assignEach [.Name y py] X.env).map (·.2) := by rfl) (hs2 : (assignEach [.Name y py] X.env).map (·.2) = assign (.Name y py) X.env :: (assignEach [] X.env).map (·.2) := by rfl) :
    SX X P L O O' (.Assign [.Tuple [.Name x px, .Name y py] kt pt] (.Tuple [a, b] k2 pt2) pos) (par2T i j Ta) := by
  subst hO'
  refine ps_mono (ps_parG (es := [a, b]) hc ha (pgs_cons (pg_name hN hi hx hfn1) (pgs_cons (pg_name hN hj hy hfn2) pgs_nil hs2) hs1) rfl rfl hw hs h1) fun E σ H h => ?_
  refine tX_stmt (R := rAF X.K O [k, l]) hex h fun vs H1 ds ρ1 G1 F r1 p1 f1 => ?_
  obtain ⟨l1, l2⟩ := AFs.len p1
  match vs, ds, l1, l2 with
  | [v, w], [d, e], _, _ =>
    refine ⟨rfl, (by decide : 2 ≤ sizeLine), v, [w], rfl, w, [], rfl, rfl, ?_⟩
    exact f1 _ H1 G1 (r1.puts2 hO hO2 (hfx_of hfx) (hfx_of hfx2) p1) (Ext.refl _ _)
/-- a, b, c = x, y, z, nothing fresh -/
def par3T (i j l : Nat) (Ta : Rho → Out Rho (List D)) : Rho → Out Rho Flw := fun ρ => (Ta ρ).bind fun ds ρ1 => match ds with
  | [d, e, f] => .ok .nx (((ρ1.set i (some d)).set j (some e)).set l (some f))
  | _ => .bad
theorem sx_par3 (i j l : Nat) {x y z : Str} {a b c : Expr} {Ta : Rho → Out Rho (List D)} {px py pz pt pos : Pos} {kt k2 pt2} (hc : X.calm = true) (hN : X.N.Nodup) (ha : AX X P O [a, b, c] Ta) (hex : L.ex O)
    (hw : swappedStores [.Tuple [.Name x px, .Name y py, .Name z pz] kt pt] (.Tuple [a, b, c] k2 pt2) X.env = pure (some [x, y, z])) (hO' : O' = ((O.set i none).set j none).set l none := by rfl) (hO : i < O.length := by exact Nat.le_of_ble_eq_true rfl) (hO2 : j < O.length := by exact Nat.le_of_ble_eq_true rfl) (hO3 : l < O.length := by exact Nat.le_of_ble_eq_true rfl) (hij : i ≠ j := by decide) (hil : i ≠ l := by decide) (hjl : j ≠ l := by decide)
    (hfx : (P.fx.map (·.1)).contains i = false := by rfl) (hfx2 : (P.fx.map (·.1)).contains j = false := by rfl) (hfx3 : (P.fx.map (·.1)).contains l = false := by rfl) (hi : X.N[i]? = some x := by rfl) (hj : X.N[j]? = some y := by rfl) (hl : X.N[l]? = some z := by rfl)
    (hx : X.env.scope.names.lookup x = some .local := by rfl) (hy : X.env.scope.names.lookup y = some .local := by rfl) (hz : X.env.scope.names.lookup z = some .local := by rfl)
    (hs : swapsWithSole [.Tuple [.Name x px, .Name y py, .Name z pz] kt pt] (.Tuple [a, b, c] k2 pt2) pos.line X.env = pure false := by rfl) :
    SX X P L O O' (.Assign [.Tuple [.Name x px, .Name y py, .Name z pz] kt pt] (.Tuple [a, b, c] k2 pt2) pos) (par3T i j l Ta) := by
  subst hO'
  refine ps_mono (ps_par3 hc hN hi hj hl hij hil hjl hx hy hz ha hw hs) fun E σ H h => ?_
  refine tX_stmt (R := rA X.K) hex h fun vs H1 ds ρ1 G1 F r1 p1 f1 => ?_
  match ds, p1, f1 with
  | [d, e, f], .cons a1 (.cons a2 (.cons a3 .nil)), f1 =>
    exact ⟨_, _, _, rfl, f1 _ H1 G1 (((r1.setAny hO (hfx_of hfx) a1).setAny (by simpa using hO2) (hfx_of hfx2) a2).setAny (by simpa using hO3) (hfx_of hfx3) a3) (Ext.refl _ _)⟩
  | [], _, f1 => exact f1.elim
  | [_], _, f1 => exact f1.elim
  | [_, _], _, f1 => exact f1.elim
  | _ :: _ :: _ :: _ :: _, _, f1 => exact f1.elim
/-! ### an owned list on the left, as a test -/
theorem tx_cmpO (i : Nat) {op : CmpOp} {g : D → D → Option D} (ho : OpR X (compareOp op) (rD X.K g)) (hg : ∀ d e f, g d e = some f → ∃ v, flatD f = some v) {x : Str} {b : Expr} {Tb : Rho → Out Rho D} {p pos : Pos} (hb : EX X P O b Tb) (hm : behindInMarks op b = false)
    (n : ok O i = some .lst := by rfl) (hN : X.N[i]? = some x := by rfl) (hv : Vis X.env.scope x := by first | exact Or.inl rfl | exact Or.inr (Or.inl rfl) | exact Or.inr (Or.inr rfl)) (hd : (x == ("__debug__" : Str)) = false := by decide) (hcd : (x == ("__classdict__" : Str)) = false := by decide) :
    TX X P O (.Compare (.Name x p) [op] [b] pos) (isB (binO i g Tb)) :=
  pt_mono (pt_cmpR ho (pe_var hN hv hd hcd) hb hm) fun σ H Q h => tX_binO n (fun {H ρ G F a xs ds y e f} r _ _ hx hy hf h => by
    obtain ⟨v, hv⟩ := hg _ e f hf
    exact ⟨_, e, f, v, hx, dp_mono r.gr hy, hf, hv, h v H G r (Ext.refl _ _) (flat_dp hv)⟩) (tT_of h)
/-! ### list(range(a, b)) -/
def rgOkB (i j : Int) : Bool := decide (i.natAbs < 2 ^ 62 ∧ j.natAbs < 2 ^ 62 ∧ (j - i).toNat ≤ 2 ^ 24)
omit [PgW] in
theorem rgOkB_of {i j : Int} (h : rgOkB i j = true) : -(2 ^ 62) ≤ i ∧ i < 2 ^ 62 ∧ -(2 ^ 62) ≤ j ∧ j < 2 ^ 62 ∧ (j - i).toNat ≤ 2 ^ 24 := by
  unfold rgOkB at h
  have := of_decide_eq_true h
  omega
def lrgD : D → D → Option D
  | .int i, .int j => if rgOkB i j = true then some (.list (rng i j)) else none
  | _, _ => none
theorem rgV_dp {K : PySem.W.Frag} {G : Hp} (i j : Int) : DpAll K G (rgV i j) (rng i j) := by
  unfold rgV rng
  induction List.range (j - i).toNat with
  | nil => exact .nil
  | cons a r ih => exact .cons (.int _) ih
theorem fx_listRg {a b : Expr} {Ta Tb : Rho → Out Rho D} {p p2 pos2 pos : Pos} (hc : X.calm = true) (ha : EX X P O a Ta) (hb : EX X P O b Tb) (hm : X.mg "list" = none) (hm2 : X.mg "range" = none) (hg : Gl X "list" := by rfl) (hg2 : Gl X "range" := by rfl)
    (na : starEach [a, b] X.env = (false, eval a X.env) :: starEach [b] X.env := by rfl) (nb : starEach [b] X.env = (false, eval b X.env) :: starEach [] X.env := by rfl) (hp : (backTo pos2 (starEach [b] X.env)).any (·.1) = false := by rfl)
    (ns : starEach [.Call (.Name "range" p2) [a, b] [] pos2] X.env = (false, eval (.Call (.Name "range" p2) [a, b] [] pos2) X.env) :: starEach [] X.env := by rfl) :
    FX X P O .lst (.Call (.Name "list" p) [.Call (.Name "range" p2) [a, b] [] pos2] [] pos) (binT lrgD Ta Tb) := by
  refine pe_mono (pe_listRg hc hg hm (prg_2 hg2 hm2 ha hb na nb hp) ns) fun σ H Q ⟨ρ, G, F, rr, h⟩ => ?_
  refine tX_bind' (R := rE X.K) rr h fun x H1 d ρ1 G1 r1 e1 p1 h1 => ?_
  refine tX_bind' (R := rE X.K) r1 h1 fun y H2 e ρ2 G2 r2 e2 p2 h2 => ?_
  cases d with
  | int i =>
    cases e with
    | int j =>
      cases p1; cases p2
      unfold lrgD at h2
      simp only at h2
      by_cases z : rgOkB i j = true
      · rw [if_pos z] at h2
        exact ⟨i, j, rfl, rfl, rgOkB_of z, fun q hq => h2 _ _ _ (r2.side hq) (Ext.refl _ _) (fresh_at r2 hq (rgV_dp i j))⟩
      · rw [if_neg z] at h2; exact h2.elim
    | _ => exact h2.elim
  | _ => exact h2.elim
end
/-! ### bodies by shapes -/
def fuel : Nat := 2 ^ 60
omit [PgW] in
theorem fuel_eq : fuel = 2 ^ 60 := rfl
omit [PgW] in
theorem fxOf_nones : ∀ {m i : Nat} {vs : List V}, fxOf i (List.replicate m none) vs = []
  | 0, i, [] => rfl
  | 0, i, _ :: _ => rfl
  | m + 1, i, [] => rfl
  | m + 1, i, v :: vs => fxOf_nones (m := m) (i := i + 1) (vs := vs)
section
variable {P : Program} {w : World} {K : PySem.W.Frag} {mg : Str → Option Value} {base : Heap} {x qual : Str} {st : Stmt} {f : Addr} {fd : FuncData} {N ps : List Str} {k : Nat} {rk : Option OKd} {O' : Own} {T : Rho → Out Rho Flw}
/-- a def whose parameters own nothing -/
theorem fnZ0 (m : Nat) (F : Fun K x qual st f fd) (S : FnScope N ps (defScope st)) (hl : m = ps.length)
    (hb : ∀ (cdv : Value) (A : Around) (outer : List Env) (s : Shared) (H : Hp) (E : XK), Bod (cxOf (L2.CX P w) P w K mg base N qual (defScope st) f cdv A outer s H E) k (fun cls d _ H => E cls d H) →
      BX (cxOf (L2.CX P w) P w K mg base N qual (defScope st) f cdv A outer s H E) ⟨[], fun cls d _ H => E cls d H⟩ ⟨[], exOf (List.replicate m none), rk⟩ (own0 N.length (List.replicate m none)) O' (defBody st) T)
    (hx : rk = none ∨ ∀ ρ0 ρ, T ρ0 ≠ .ok .nx ρ) : FnOk P w K mg base (L2.CX P w) (k + 1) f fd ps (spZ K mg (List.replicate m none) rk (runF [] N.length T)) := by
  have h := fnZ (P := P) (w := w) (mg := mg) (base := base) (k := k) (ks := List.replicate m none) (rk := rk) (lp := []) (O' := O') (T := T) F S (by simp [hl]) (fun cdv A outer s H E vs _ b => by
    have := hb cdv A outer s H E b
    rw [fxOf_nones]
    exact this) hx exOf_none
  have e : ownIx 0 (List.replicate m none) = [] := by
    have : ∀ (m i : Nat), ownIx i (List.replicate m none) = [] := fun m => by
      induction m with
      | zero => intro i; rfl
      | succ m ih => intro i; exact ih (i + 1)
    exact this m 0
  rw [e] at h
  exact h
/-- a def whose first parameter owns -/
theorem fnZ1 (k0 : OKd) (m : Nat) (F : Fun K x qual st f fd) (S : FnScope N ps (defScope st)) (hl : m + 1 = ps.length)
    (hb : ∀ (cdv : Value) (A : Around) (outer : List Env) (s : Shared) (H : Hp) (E : XK) (a : Addr), Bod (cxOf (L2.CX P w) P w K mg base N qual (defScope st) f cdv A outer s H E) k (fun cls d _ H => E cls d H) →
      BX (cxOf (L2.CX P w) P w K mg base N qual (defScope st) f cdv A outer s H E) ⟨[(0, a)], fun cls d _ H => E cls d H⟩ ⟨[], exOf (some k0 :: List.replicate m none), rk⟩ (own0 N.length (some k0 :: List.replicate m none)) O' (defBody st) T)
    (hx : rk = none ∨ ∀ ρ0 ρ, T ρ0 ≠ .ok .nx ρ) (hO' : exOf (some k0 :: List.replicate m none) O') : FnOk P w K mg base (L2.CX P w) (k + 1) f fd ps (spZ K mg (some k0 :: List.replicate m none) rk (runF [0] N.length T)) := by
  have e : ownIx 0 (some k0 :: List.replicate m none) = [0] := by
    have : ∀ (m i : Nat), ownIx i (List.replicate m none) = [] := fun m => by
      induction m with
      | zero => intro i; rfl
      | succ m ih => intro i; exact ih (i + 1)
    show 0 :: ownIx 1 (List.replicate m none) = [0]
    rw [this m 1]
  rw [← e]
  refine fnZr (lp := []) F S (by simp [hl]) (fun cdv A outer s H E vs hv b => ?_) hx hO'
  cases vs with
  | nil => obtain ⟨a, ha⟩ := hv 0 k0 rfl; simp at ha
  | cons v vs =>
    obtain ⟨a, ha⟩ := hv 0 k0 rfl
    simp at ha
    subst ha
    show BX _ ⟨(0, a) :: fxOf 1 (List.replicate m none) vs, _⟩ _ _ _ _ _
    rw [fxOf_nones]
    exact hb cdv A outer s H E a b
end
def NoNx (T : Rho → Out Rho Flw) : Prop := ∀ ρ ρ', T ρ ≠ .ok .nx ρ'
omit [PgW] in
theorem noNx_ret {T : Rho → Out Rho D} : NoNx (retT T) := fun ρ ρ' => by
  unfold retT
  cases T ρ <;> simp [Out.bind]
omit [PgW] in
theorem noNx_sq {Ta Tb : Rho → Out Rho Flw} (h : NoNx Tb) : NoNx (sqT Ta Tb) := fun ρ ρ' => by
  unfold sqT
  cases e : Ta ρ with
  | ok f s => cases f <;> first | exact h _ _ | simp
  | exc c fs s => simp
  | bad => simp
omit [PgW] in
theorem noNx_if {Tc : Rho → Out Rho Bool} {Ta Tb : Rho → Out Rho Flw} (h : NoNx Ta) (h' : NoNx Tb) : NoNx (ifT Tc Ta Tb) := fun ρ ρ' => by
  unfold ifT
  cases e : Tc ρ with
  | ok c s => cases c <;> simp [Out.bind] <;> first | exact h _ _ | exact h' _ _
  | exc c fs s => simp [Out.bind]
  | bad => simp [Out.bind]
omit [PgW] in
theorem noNx_bad : NoNx badT := fun ρ ρ' => by simp [badT]

/-! ### a comprehension's block -/
def blkB (N : List Str) (sc scope : Scope) (own : List (Str × Nat)) : Bool :=
  decide (scope.kind = .function) && (scope.names.all (fun y => decide (scope.names.lookup y.1 = some y.2)) && (own.all (fun p => decide (N[p.2]? = some p.1)) &&
  (scope.names.all (fun y => !decide (y.2 = .free) || (decide (sc.names.lookup y.1 = some .cell) || decide (sc.names.lookup y.1 = some .free))) &&
   scope.names.all (fun y => !(decide (y.2 = .local) || decide (y.2 = .cell)) || (decide (y.1 ∈ own.map (·.1)) || !decide (y.1 ∈ N))))))
omit [PgW] in
theorem blkOk_of {N : List Str} {sc scope : Scope} {own : List (Str × Nat)} (h : blkB N sc scope own = true) : BlkOk N sc scope own := by
  unfold blkB at h
  obtain ⟨h1, h⟩ := He.ba h
  obtain ⟨h2, h⟩ := He.ba h
  obtain ⟨h3, h⟩ := He.ba h
  obtain ⟨h4, h5⟩ := He.ba h
  refine ⟨of_decide_eq_true h1, fun y hy => of_decide_eq_true (List.all_eq_true.mp h2 y hy), fun p hp => of_decide_eq_true (List.all_eq_true.mp h3 p hp), fun y hy e => ?_, fun y hy e => ?_⟩
  · have q := List.all_eq_true.mp h4 y hy
    rw [decide_eq_true e] at q
    rcases Bool.or_eq_true_iff.mp q with q | q
    · cases q
    · rcases Bool.or_eq_true_iff.mp q with q | q
      · exact .inl (of_decide_eq_true q)
      · exact .inr (of_decide_eq_true q)
  · have q := List.all_eq_true.mp h5 y hy
    have e' : (decide (y.2 = .local) || decide (y.2 = .cell)) = true := by
      rcases e with e | e
      · rw [decide_eq_true e]; rfl
      · rw [decide_eq_true e, Bool.or_true]
    rw [e'] at q
    rcases Bool.or_eq_true_iff.mp q with q | q
    · cases q
    · rcases Bool.or_eq_true_iff.mp q with q | q
      · exact .inl (of_decide_eq_true q)
      · refine .inr ?_
        have q' := q
        simp only [Bool.not_eq_true', decide_eq_false_iff_not] at q'
        exact q'
omit [PgW] in
theorem none_cons {O : Own} {i : Nat} {is : List Nat} (h : ok O i = none) (h' : ∀ j ∈ is, ok O j = none) : ∀ j ∈ i :: is, ok O j = none := fun j hj => by
  rcases List.mem_cons.mp hj with rfl | hj
  · exact h
  · exact h' j hj

/-! ### a class's facts -/
def prG (K : PySem.W.Frag) (C : Addr) (f : Str) : Addr := match PySem.W.recIn K (He.ma K C f) "property" with
  | some (.ref g :: _) => g
  | _ => 0
def propB (K : PySem.W.Frag) (C : Addr) (f : Str) : Bool := He.eqO (PySem.W.findIn K (.ref C) f) (some (some (.ref (He.ma K C f)))) && (He.eqO (PySem.W.specialIn K (.ref (He.ma K C f)) "__get__") (some (some (.builtin "property.__get__"))) &&
  (decide (PySem.W.takesIn K (.ref (He.ma K C f)) = some true) && (match PySem.W.recIn K (He.ma K C f) "property" with
    | some (.ref _ :: _) => true
    | _ => false)))
omit [PgW] in
theorem propB_ok {K : PySem.W.Frag} {C : Addr} {f : Str} (h : propB K C f = true) : PropOf K C f (He.ma K C f) (prG K C f) := by
  unfold propB at h
  obtain ⟨h1, h⟩ := He.ba h
  obtain ⟨h2, h⟩ := He.ba h
  obtain ⟨h3, h4⟩ := He.ba h
  refine ⟨He.eqO_ok h1, He.eqO_ok h2, of_decide_eq_true h3, ?_⟩
  unfold prG
  split at h4
  · rename_i g rest e
    rw [e]
    exact ⟨rest, rfl⟩
  · cases h4
def callB_ (K : PySem.W.Frag) (C : Addr) : Bool := He.eqO (PySem.W.findIn K (.ref C) "__call__") (some (some (.ref (He.ma K C "__call__")))) && (PySem.W.isFn K (.ref (He.ma K C "__call__")) && PySem.W.fnIn K (He.ma K C "__call__"))
omit [PgW] in
theorem callB_ok {K : PySem.W.Frag} {C : Addr} (h : callB_ K C = true) : StX.CallO K C (He.ma K C "__call__") := by
  unfold callB_ at h
  obtain ⟨h1, h⟩ := He.ba h
  obtain ⟨h2, h3⟩ := He.ba h
  exact ⟨He.eqO_ok h1, h2, h3⟩
end Z

/-! file ZDict -/
set_option Elab.async false
set_option linter.all false
set_option autoImplicit false
set_option maxRecDepth 100000
set_option maxHeartbeats 4000000
/-! dicts whose keys are tuples (of numbers, texts, None, tuples) -/
namespace Z
open PySem PySem.Spec PyProof.Rows L2
variable [PgW]
/-! ### keys -/
section
omit [PgW]
variable {h : Heap}
mutual
theorem is_key : ∀ {v : Value} {d : D} {as : List Addr}, Reads h v d as → ∀ k, keyD d = some k → NestedIs h k v
  | _, _, _, .none, k, e => by
    simp only [keyD, Option.some.injEq] at e
    subst e; exact .none
  | _, _, _, .bool b, k, e => by
    simp only [keyD, Option.some.injEq] at e
    subst e; exact .bool rfl
  | _, _, _, .int i t, k, e => by
    simp only [keyD, Option.some.injEq] at e
    subst e; exact .int i t
  | _, _, _, .str x t, k, e => by
    simp only [keyD, Option.some.injEq] at e
    subst e; exact .text x t
  | _, _, _, .list _ _ _ _, k, e => by simp [keyD] at e
  | _, _, _, .tuple ho hc hd ha, k, e => by
    rw [keyD] at e
    obtain ⟨ks, e1, rfl⟩ := Option.map_eq_some_iff.mp e
    exact .tup ho hc hd (is_keys ha ks e1)
  | _, _, _, .dict _ _ _ _ _, k, e => by simp [keyD] at e
theorem is_keys : ∀ {vs : List Value} {ds : List D} {as : List Addr}, ReadsAll h vs ds as → ∀ ks, keysD ds = some ks → NestedAll h ks vs
  | _, _, _, .nil, ks, e => by
    simp only [keysD, Option.some.injEq] at e
    subst e; exact .nil
  | _, _, _, .cons r rs, ks, e => by
    rw [keysD] at e
    obtain ⟨k, e1, e2⟩ := Option.bind_eq_some_iff.mp e
    obtain ⟨ks', e3, rfl⟩ := Option.map_eq_some_iff.mp e2
    exact .cons (is_key r k e1) (is_keys rs ks' e3)
end
end
/-! ### entries -/
def dgetD (kvs : List (D × D)) (k : NestedKey) : Option D := (kvs.find? fun q => decide (keyD q.1 = some k)).map (·.2)
def dputD (kvs : List (D × D)) (k : NestedKey) (kd vd : D) : List (D × D) := if (dgetD kvs k).isSome = true then kvs.map (fun q => if keyD q.1 = some k then (q.1, vd) else q) else kvs ++ [(kd, vd)]
/-- a key that may stand in a dict -/
def okKey (d : D) : Option NestedKey := match d with
  | .tuple _ => (keyD d).bind fun k => if k.depth ≤ 8 then some k else none
  | _ => none
omit [PgW] in
theorem okKey_of {d : D} {k : NestedKey} (h : okKey d = some k) : keyD d = some k ∧ k.depth ≤ 8 ∧ ∃ ds, d = .tuple ds := by
  unfold okKey at h
  split at h
  · obtain ⟨k', e1, e2⟩ := Option.bind_eq_some_iff.mp h
    split at e2
    · cases e2; exact ⟨e1, by assumption, _, rfl⟩
    · cases e2
  · cases h
section
variable {K : PySem.W.Frag} {H : Hp} {xs : List (NestedKey × Addr × Value)} {kvs : List (D × D)}
theorem dpKv_len (r : DpKv K H xs kvs) : xs.length = kvs.length := by
  have : ∀ {xs : List (NestedKey × Addr × Value)} {kvs : List (D × D)}, DpKv K H xs kvs → xs.length = kvs.length := by
    intro xs
    induction xs with
    | nil => intro kvs r; cases r; rfl
    | cons x xs ih => intro kvs r; cases r with | cons _ _ _ _ _ t => simp [ih t]
  exact this r
theorem dpKv_get (k : NestedKey) : ∀ {xs : List (NestedKey × Addr × Value)} {kvs : List (D × D)}, DpKv K H xs kvs → (∃ d p v, dgetD kvs k = some d ∧ atKey xs k = some p ∧ RelV v p.2 ∧ Dp K H v d) ∨ (dgetD kvs k = none ∧ atKey xs k = none)
  | _, _, .nil => .inr ⟨rfl, rfl⟩
  | _, _, .cons (k := k') (kvs := kvs) (xs := xs) (u := u) (v := v) (vd := vd) (b := b) e l kd r hv t => by
    by_cases hk : k' = k
    · subst hk
      exact .inl ⟨vd, (b, u), v, by simp [dgetD, e], by simp [atKey], r, hv⟩
    · rcases dpKv_get k t with ⟨d, p, v', h1, h2, h3, h4⟩ | ⟨h1, h2⟩
      · refine .inl ⟨d, p, v', ?_, ?_, h3, h4⟩
        · simpa [dgetD, e, hk] using h1
        · simpa [atKey, hk] using h2
      · refine .inr ⟨?_, ?_⟩
        · simpa [dgetD, e, hk] using h1
        · simpa [atKey, hk] using h2
theorem dpKv_some {k : NestedKey} (r : DpKv K H xs kvs) : (atKey xs k).isSome = (dgetD kvs k).isSome := by
  rcases dpKv_get k r with ⟨d, p, v, h1, h2, _⟩ | ⟨h1, h2⟩ <;> rw [h1, h2] <;> rfl
theorem dpKv_app {k : NestedKey} {b : Addr} {u : Value} {v : V} {kd vd : D} (e : keyD kd = some k) (l : k.depth ≤ 8) (hk : Dp K H (.ref b) kd) (rv : RelV v u) (hv : Dp K H v vd) : ∀ {xs : List (NestedKey × Addr × Value)} {kvs : List (D × D)}, DpKv K H xs kvs → DpKv K H (xs ++ [(k, b, u)]) (kvs ++ [(kd, vd)])
  | _, _, .nil => .cons e l hk rv hv .nil
  | _, _, .cons e' l' kd' r' hv' t => .cons e' l' kd' r' hv' (dpKv_app e l hk rv hv t)
theorem dpKv_map {k : NestedKey} {u : Value} {v : V} {vd : D} (rv : RelV v u) (hv : Dp K H v vd) : ∀ {xs : List (NestedKey × Addr × Value)} {kvs : List (D × D)}, DpKv K H xs kvs → DpKv K H (xs.map (putAt k u)) (kvs.map fun q => if keyD q.1 = some k then (q.1, vd) else q)
  | _, _, .nil => .nil
  | _, _, .cons (k := k') e l kd r hv' t => by
    have ih := dpKv_map (k := k) rv hv t
    simp only [List.map_cons, putAt, e, Option.some.injEq]
    by_cases hk : k' = k
    · rw [if_pos hk, if_pos hk]
      exact .cons e l kd rv hv ih
    · rw [if_neg hk, if_neg hk]
      exact .cons e l kd r hv' ih
theorem dpKv_put (r : DpKv K H xs kvs) {k : NestedKey} {b : Addr} {u : Value} {v : V} {kd vd : D} (e : keyD kd = some k) (l : k.depth ≤ 8) (hk : Dp K H (.ref b) kd) (rv : RelV v u) (hv : Dp K H v vd) : DpKv K H (storedH xs k b u) (dputD kvs k kd vd) := by
  unfold storedH dputD
  rw [dpKv_some r]
  split
  · exact dpKv_map rv hv r
  · exact dpKv_app e l hk rv hv r
theorem dpKv_keys : ∀ {xs : List (NestedKey × Addr × Value)} {kvs : List (D × D)}, DpKv K H xs kvs → ∀ x ∈ xs, ∃ d, Dp K H (.ref x.2.1) d ∧ keyD d = some x.1 ∧ x.1.depth ≤ 8
  | _, _, .nil, x, hx => nomatch hx
  | _, _, .cons e l kd r hv t, x, hx => by
    rcases List.mem_cons.mp hx with rfl | hx
    · exact ⟨_, kd, e, l⟩
    · exact dpKv_keys t x hx
omit [PgW] in
theorem storedH_len (xs : List (NestedKey × Addr × Value)) (k : NestedKey) (b : Addr) (u : Value) : (storedH xs k b u).length ≤ xs.length + 1 := by
  unfold storedH
  split <;> simp
end
/-! ### in the heap -/
section
variable {X : Cx} {pins : List (Addr × Obj)} {σ : L2.St} {H : Hp} {s : Shared} {a : Addr} {xs : List (NestedKey × Addr × Value)} {kvs : List (D × D)}
theorem key_at (I : Inv X pins σ H s) {b : Addr} {d : D} {k : NestedKey} (hd : Dp X.K H (.ref b) d) (e : keyD d = some k) (l : k.depth ≤ 8) : (nestedKind X.prog X.w).is s.heap k b := by
  obtain ⟨as, r⟩ := Dp.reads I hd (.ref b) rfl
  exact ⟨is_key r k e, l⟩
theorem dct_at (hp : X.prog = PgW.P) (hw : X.w = PgW.w) (I : Inv X pins σ H s) (q : H a = some (dctO PgW.P PgW.w a xs)) (kv : DpKv X.K H xs kvs) : s.heap.DictOfH (nestedKind X.prog X.w) a xs ∧ xs.length ≤ sizeLine ∧ (a == sysModules) = false := by
  obtain ⟨⟨hl, hs, o, es, ep, h1, h2, h3, h4, h5⟩, _⟩ := I.hok _ _ q
  refine ⟨⟨o, es, ep, h1, h2, h3, by rw [hp, hw]; exact h4, fun x hx => ?_, h5⟩, hl, hs⟩
  obtain ⟨d, hd, e, l⟩ := dpKv_keys kv x hx
  exact key_at I hd e l
omit [PgW] in
theorem dctO_ok {P : Program} {w : World} {h : Heap} {o : Obj} {es : Array DictEntry} {ep : Nat} (hl : xs.length ≤ sizeLine) (hs : (a == sysModules) = false) (h1 : h.get? a = some o) (h2 : o.ExactDict) (h3 : o.data = .dict es ep) (h4 : es.toList = xs.map (entryOfKey (nestedKind P w))) (h5 : (xs.map (·.1)).Nodup) (P' : Program) (w' : World) (H : Hp) : ObjOk P' w' H h a (dctO P w a xs) := by
  refine ⟨⟨hl, hs, o, es, ep, h1, h2, h3, h4, h5⟩, ⟨o, h1⟩, ?_⟩
  rintro g1 g2 ⟨l, s, o', es', ep', g, rest⟩ k
  exact ⟨l, s, o', es', ep', k _ g, rest⟩
omit [PgW] in
theorem room_k {A : Around} (hu : A.units + 64 < cLine) : (nestedKind X.prog X.w).room A.in1 := by
  show A.units + 1 + 8 < cLine
  omega
end
/-! ### d[k], k in d -/
section
variable {X : Cx} {P : Pm} {L : Lp} {O O' O1 : Own}
def rIxK (K : PySem.W.Frag) : R2 := fun x y H Q => ∃ a b xs kvs k kd p v, x = .ref a ∧ y = .ref b ∧ H a = some (dctO PgW.P PgW.w a xs) ∧ DpKv K H xs kvs ∧ Dp K H (.ref b) kd ∧ keyD kd = some k ∧ k.depth ≤ 8 ∧ atKey xs k = some p ∧ RelV v p.2 ∧ Q v H
theorem ix_dct (hp : X.prog = PgW.P) (hw : X.w = PgW.w) (hu : X.A.units + 64 < cLine) : IxR X (rIxK X.K) := by
  intro value slice pins s σ H x y v u Q I rx ry h hs
  obtain ⟨a, b, xs, kvs, k, kd, p, z, rfl, rfl, q, kv, hk, e, l, hat, rz, hq⟩ := h
  cases rx
  cases ry
  obtain ⟨dd, hl, hsm⟩ := dct_at hp hw I q kv
  have hT : s.TypeIs (.ref a) "dict" := dd.typeIs
  have got : wpAny (model X.prog X.w) X.A (getItem (.ref a) (.ref b)) (EP X pins σ Q) X.xe s :=
    wpAny_getItem_heap (room_k hu) (key_at I hk e l) dd hat ⟨z, H, I.tok _, rz, hq⟩
  have fin : wpAny (model X.prog X.w) X.A (subscripted slice false (.ref a) (.ref b)) (fun r t => wpAny (model X.prog X.w) X.A (letTemporaryGo value (.ref a) r >>= fun _ => pure r) (EP X pins σ Q) X.xe t) X.xe s := by
    rw [hs]
    refine wpAny_operating (wpAny_mono got (fun r t ht => ?_) fun _ _ y => y)
    exact wpAny_bind (wpAny_letTemporaryGo (wpAny_pure ht))
  unfold subscriptTail
  refine wpAny_bind ?_
  rw [getitemInPython_of_ne (Shared.TypeIs.not_modules hT)]
  refine wpAny_bind (wpAny_specialOf hT PySem.F.slot_dict_getitem.lookup ?_)
  first
    | exact wpAny_bind fin
    | exact wpAny_pure (wpAny_bind (Q := _) fin)
    | exact wpAny_bind (wpAny_pure (wpAny_bind (Q := _) fin))
def rInK (K : PySem.W.Frag) : R2 := fun x y H Q => ∃ a b xs kvs k kd, x = .ref b ∧ y = .ref a ∧ H a = some (dctO PgW.P PgW.w a xs) ∧ DpKv K H xs kvs ∧ Dp K H (.ref b) kd ∧ keyD kd = some k ∧ k.depth ≤ 8 ∧ Q (.bl (dgetD kvs k).isSome) H
def rNotInK (K : PySem.W.Frag) : R2 := fun x y H Q => ∃ a b xs kvs k kd, x = .ref b ∧ y = .ref a ∧ H a = some (dctO PgW.P PgW.w a xs) ∧ DpKv K H xs kvs ∧ Dp K H (.ref b) kd ∧ keyD kd = some k ∧ k.depth ≤ 8 ∧ Q (.bl (!(dgetD kvs k).isSome)) H
theorem op_inK (hp : X.prog = PgW.P) (hw : X.w = PgW.w) (hu : X.A.units + 64 < cLine) : OpR X (compareOp .In) (rInK X.K) := by
  intro pins s σ H x y v u Q I rx ry h
  obtain ⟨a, b, xs, kvs, k, kd, rfl, rfl, q, kv, hk, e, l, hq⟩ := h
  cases rx
  cases ry
  obtain ⟨dd, hl, hsm⟩ := dct_at hp hw I q kv
  refine wpAny_in_heap (room_k hu) (key_at I hk e l) hsm dd ?_
  rw [dpKv_some kv]
  exact ⟨.bl _, H, I.tok _, rfl, hq⟩
theorem op_notInK (hp : X.prog = PgW.P) (hw : X.w = PgW.w) (hu : X.A.units + 64 < cLine) : OpR X (compareOp .NotIn) (rNotInK X.K) := by
  intro pins s σ H x y v u Q I rx ry h
  obtain ⟨a, b, xs, kvs, k, kd, rfl, rfl, q, kv, hk, e, l, hq⟩ := h
  cases rx
  cases ry
  obtain ⟨dd, hl, hsm⟩ := dct_at hp hw I q kv
  refine wpAny_notIn_heap (room_k hu) (key_at I hk e l) hsm dd ?_
  rw [dpKv_some kv]
  exact ⟨.bl _, H, I.tok _, rfl, hq⟩
/-! ### upon trees -/
def idxKD (d e : D) : Option D := match d with
  | .dict kvs => (okKey e).bind (dgetD kvs)
  | _ => idxD d e
def inKD (d e : D) : Option D := match e with
  | .dict kvs => (okKey d).map fun k => .bool (dgetD kvs k).isSome
  | _ => inD d e
def notInKD (d e : D) : Option D := match e with
  | .dict kvs => (okKey d).map fun k => .bool (!(dgetD kvs k).isSome)
  | _ => notInD d e
omit [PgW] in
theorem inKD_flat (d e f : D) (h : inKD d e = some f) : ∃ v, flatD f = some v := by
  unfold inKD at h
  split at h
  · obtain ⟨k, _, rfl⟩ := Option.map_eq_some_iff.mp h
    exact ⟨_, rfl⟩
  · exact inD_flat _ _ _ h
omit [PgW] in
theorem notInKD_flat (d e f : D) (h : notInKD d e = some f) : ∃ v, flatD f = some v := by
  unfold notInKD at h
  split at h
  · obtain ⟨k, _, rfl⟩ := Option.map_eq_some_iff.mp h
    exact ⟨_, rfl⟩
  · exact notInD_flat _ _ _ h
def rIxZK (K : PySem.W.Frag) : R2 := fun x y H Q => rIxZ K x y H Q ∨ rIxK K x y H Q
theorem sem_ixK : Sem2 X (rIxZK X.K) idxKD := fun {P O σ H ρ G F x y d e f Q} r hx hy hf h => by
  unfold idxKD at hf
  split at hf
  · obtain ⟨k, hk, hg⟩ := Option.bind_eq_some_iff.mp hf
    obtain ⟨e1, l, ds, rfl⟩ := okKey_of hk
    cases hx with
    | dct q kv =>
      cases hy with
      | tup qt pt =>
        rcases dpKv_get k kv with ⟨d', p, v, h1, h2, h3, h4⟩ | ⟨h1, _⟩
        · rw [h1] at hg; cases hg
          exact .inr ⟨_, _, _, _, k, _, p, v, rfl, rfl, r.gr _ _ q, dpKv_mono r.gr kv, .tup (sqT_mono r.gr qt) (dpAll_mono r.gr pt), e1, l, h2, h3, h v H G r (Ext.refl _ _) h4⟩
        · rw [h1] at hg; cases hg
  · exact .inl (sem_ix r hx hy hf h)
theorem ex_ixK {a b : Expr} {Ta Tb : Rho → Out Rho D} {pos : Pos} (hu : X.A.units + 64 < cLine) (ha : EX X P O a Ta) (hb : EX X P O b Tb) (hp : X.prog = PgW.P := by rfl) (hw : X.w = PgW.w := by rfl) (hs : PlainIx b := by exact fun _ _ => rfl) : EX X P O (.Subscript a b pos) (binT idxKD Ta Tb) :=
  pe_mono (pe_ix ((ix_list.or ix_tup).or (ix_dct hp hw hu)) ha hb hs) fun _ _ _ h => tx_bin (r := rIxZK X.K) sem_ixK h
omit [PgW] in
theorem opR_or {o : Value → Value → Sem Value} {r r' : R2} (h : OpR X o r) (h' : OpR X o r') : OpR X o (fun x y H Q => r x y H Q ∨ r' x y H Q) := by
  intro pins s σ H x y v u Q I rx ry q
  rcases q with q | q
  · exact h pins s σ H x y v u Q I rx ry q
  · exact h' pins s σ H x y v u Q I rx ry q
theorem op_inZK (hu : X.A.units + 64 < cLine) (hp : X.prog = PgW.P := by rfl) (hw : X.w = PgW.w := by rfl) : OpR X (compareOp .In) (fun x y H Q => rD X.K inD x y H Q ∨ rInK X.K x y H Q) := opR_or (op_inZ hu) (op_inK hp hw hu)
theorem op_notInZK (hu : X.A.units + 64 < cLine) (hp : X.prog = PgW.P := by rfl) (hw : X.w = PgW.w := by rfl) : OpR X (compareOp .NotIn) (fun x y H Q => rD X.K notInD x y H Q ∨ rNotInK X.K x y H Q) := opR_or (op_notInZ hu) (op_notInK hp hw hu)
theorem sem_inK : Sem2 X (fun x y H Q => rD X.K inD x y H Q ∨ rInK X.K x y H Q) inKD := fun {P O σ H ρ G F x y d e f Q} r hx hy hf h => by
  unfold inKD at hf
  split at hf
  · obtain ⟨k, hk, rfl⟩ := Option.map_eq_some_iff.mp hf
    obtain ⟨e1, l, ds, rfl⟩ := okKey_of hk
    cases hy with
    | dct q kv =>
      cases hx with
      | tup qt pt => exact .inr ⟨_, _, _, _, k, _, rfl, rfl, r.gr _ _ q, dpKv_mono r.gr kv, .tup (sqT_mono r.gr qt) (dpAll_mono r.gr pt), e1, l, h _ H G r (Ext.refl _ _) (.bl _)⟩
  · exact .inl (sem_rD inD_flat r hx hy hf h)
theorem sem_notInK : Sem2 X (fun x y H Q => rD X.K notInD x y H Q ∨ rNotInK X.K x y H Q) notInKD := fun {P O σ H ρ G F x y d e f Q} r hx hy hf h => by
  unfold notInKD at hf
  split at hf
  · obtain ⟨k, hk, rfl⟩ := Option.map_eq_some_iff.mp hf
    obtain ⟨e1, l, ds, rfl⟩ := okKey_of hk
    cases hy with
    | dct q kv =>
      cases hx with
      | tup qt pt => exact .inr ⟨_, _, _, _, k, _, rfl, rfl, r.gr _ _ q, dpKv_mono r.gr kv, .tup (sqT_mono r.gr qt) (dpAll_mono r.gr pt), e1, l, h _ H G r (Ext.refl _ _) (.bl _)⟩
  · exact .inl (sem_rD notInD_flat r hx hy hf h)
/-! ### an owned dict -/
theorem Rel.dict {K : PySem.W.Frag} {F H G : Hp} {fx : List (Nat × Addr)} {σ : L2.St} {ρ : Rho} (r : Rel K F fx O σ H ρ G) {i : Nat} {d : D} {v : V} (h : getS i ρ = some d) (n : ok O i = some .dct) (q : σ[i]? = some (some v)) :
    ∃ a xs kvs, v = .ref a ∧ d = .dict kvs ∧ H a = some (dctO PgW.P PgW.w a xs) ∧ DpKv K G xs kvs := by
  obtain ⟨a, q', ⟨xs, kvs, e, hH, hd⟩, _, _⟩ := r.ow i d .dct (getS_some h) n
  rw [q] at q'
  injection q' with q1
  injection q1 with q2
  subst q2
  subst e
  exact ⟨a, xs, kvs, rfl, rfl, hH, hd⟩
/-- known[e] -/
def ixKO (i : Nat) (Tb : Rho → Out Rho D) : Rho → Out Rho D := fun ρ => match getS i ρ with
  | none => .bad
  | some _ => (Tb ρ).bind fun e ρ2 => match getS i ρ2, okKey e with
    | some (.dict kvs), some k => .of (dgetD kvs k) ρ2
    | _, _ => .bad
theorem ex_ixKO (i : Nat) {x : Str} {b : Expr} {Tb : Rho → Out Rho D} {p pos : Pos} (hu : X.A.units + 64 < cLine) (hb : EX X P O b Tb) (hp : X.prog = PgW.P := by rfl) (hw : X.w = PgW.w := by rfl) (hs : PlainIx b := by exact fun _ _ => rfl)
    (n : ok O i = some .dct := by rfl) (hN : X.N[i]? = some x := by rfl) (hv : Vis X.env.scope x := by first | exact Or.inl rfl | exact Or.inr (Or.inl rfl) | exact Or.inr (Or.inr rfl)) (hd : (x == ("__debug__" : Str)) = false := by decide) (hcd : (x == ("__classdict__" : Str)) = false := by decide) :
    EX X P O (.Subscript (.Name x p) b pos) (ixKO i Tb) :=
  pe_mono (pe_ix (ix_dct hp hw hu) (pe_var hN hv hd hcd) hb hs) fun σ H Q ⟨ρ, G, F, rr, h⟩ => by
    unfold ixKO at h
    cases z : getS i ρ with
    | none => rw [z] at h; exact h.elim
    | some d0 =>
      rw [z] at h
      obtain ⟨a, qa⟩ := rr.bound z n
      refine ⟨.ref a, qa, ?_⟩
      refine tX_bind' (R := rE X.K) rr h fun y H2 e ρ2 G2 r2 e2 p2 h2 => ?_
      cases z2 : getS i ρ2 with
      | none => rw [z2] at h2; exact h2.elim
      | some d =>
        obtain ⟨a', xs, kvs, ea, rfl, hH, hkv⟩ := r2.dict z2 n qa
        cases ea
        cases z3 : okKey e with
        | none => simp only [z2, z3] at h2; exact h2.elim
        | some k =>
          simp only [z2, z3] at h2
          obtain ⟨e1, l, ds, rfl⟩ := okKey_of z3
          rcases dpKv_get k hkv with ⟨d', p, v, h1, h3, h4, h5⟩ | ⟨h1, _⟩
          · rw [h1] at h2
            cases p2 with
            | tup qt pt => exact ⟨a, _, xs, kvs, k, _, p, v, rfl, rfl, hH, dpKv_mono r2.gr hkv, .tup (sqT_mono r2.gr qt) (dpAll_mono r2.gr pt), e1, l, h3, h4, h2 v H2 G2 r2 (Ext.refl _ _) h5⟩
          · rw [h1] at h2; exact h2.elim
/-- e in known, e not in known -/
def inKO (i : Nat) (neg : Bool) (Tb : Rho → Out Rho D) : Rho → Out Rho D := fun ρ => (Tb ρ).bind fun e ρ2 => match getS i ρ2, okKey e with
  | some (.dict kvs), some k => .ok (.bool (if neg = true then !(dgetD kvs k).isSome else (dgetD kvs k).isSome)) ρ2
  | _, _ => .bad
theorem tx_inKO (i : Nat) {Tb : Rho → Out Rho D} {neg : Bool} (n : ok O i = some .dct) {σ : L2.St} {H : Hp} {Q : VK} (h : tX X P O (rE X.K) (inKO i neg Tb) σ H Q) :
    tOp (if neg = true then rNotInK X.K else rInK X.K) (tX X P O (rE X.K) Tb) (tVar i) σ H Q := by
  obtain ⟨ρ, G, F, rr, h⟩ := h
  refine tX_bind' (R := rE X.K) rr h fun y H2 e ρ2 G2 r2 e2 p2 h2 => ?_
  cases z2 : getS i ρ2 with
  | none => rw [z2] at h2; exact h2.elim
  | some d =>
    obtain ⟨a, qa⟩ := r2.bound z2 n
    obtain ⟨a', xs, kvs, ea, rfl, hH, hkv⟩ := r2.dict z2 n qa
    cases ea
    refine ⟨.ref a, qa, ?_⟩
    cases z3 : okKey e with
    | none => simp only [z2, z3] at h2; exact h2.elim
    | some k =>
      simp only [z2, z3] at h2
      obtain ⟨e1, l, ds, rfl⟩ := okKey_of z3
      cases p2 with
      | tup qt pt =>
        cases neg with
        | false => exact ⟨a, _, xs, kvs, k, _, rfl, rfl, hH, dpKv_mono r2.gr hkv, .tup (sqT_mono r2.gr qt) (dpAll_mono r2.gr pt), e1, l, h2 _ H2 G2 r2 (Ext.refl _ _) (.bl _)⟩
        | true => exact ⟨a, _, xs, kvs, k, _, rfl, rfl, hH, dpKv_mono r2.gr hkv, .tup (sqT_mono r2.gr qt) (dpAll_mono r2.gr pt), e1, l, h2 _ H2 G2 r2 (Ext.refl _ _) (.bl _)⟩
theorem ex_inKO (i : Nat) {x : Str} {b : Expr} {Tb : Rho → Out Rho D} {p pos : Pos} (hu : X.A.units + 64 < cLine) (hb : EX X P O b Tb) (hp : X.prog = PgW.P := by rfl) (hw : X.w = PgW.w := by rfl) (hm : behindInMarks .In (.Name x p) = false := by with_unfolding_all rfl)
    (n : ok O i = some .dct := by rfl) (hN : X.N[i]? = some x := by rfl) (hv : Vis X.env.scope x := by first | exact Or.inl rfl | exact Or.inr (Or.inl rfl) | exact Or.inr (Or.inr rfl)) (hd : (x == ("__debug__" : Str)) = false := by decide) (hcd : (x == ("__classdict__" : Str)) = false := by decide) :
    EX X P O (.Compare b [.In] [.Name x p] pos) (inKO i false Tb) :=
  pe_mono (pe_cmpR (op_inK hp hw hu) hb (pe_var hN hv hd hcd) hm) fun σ H Q h => tx_inKO i (neg := false) n h
theorem ex_notInKO (i : Nat) {x : Str} {b : Expr} {Tb : Rho → Out Rho D} {p pos : Pos} (hu : X.A.units + 64 < cLine) (hb : EX X P O b Tb) (hp : X.prog = PgW.P := by rfl) (hw : X.w = PgW.w := by rfl) (hm : behindInMarks .NotIn (.Name x p) = false := by with_unfolding_all rfl)
    (n : ok O i = some .dct := by rfl) (hN : X.N[i]? = some x := by rfl) (hv : Vis X.env.scope x := by first | exact Or.inl rfl | exact Or.inr (Or.inl rfl) | exact Or.inr (Or.inr rfl)) (hd : (x == ("__debug__" : Str)) = false := by decide) (hcd : (x == ("__classdict__" : Str)) = false := by decide) :
    EX X P O (.Compare b [.NotIn] [.Name x p] pos) (inKO i true Tb) :=
  pe_mono (pe_cmpR (op_notInK hp hw hu) hb (pe_var hN hv hd hcd) hm) fun σ H Q h => tx_inKO i (neg := true) n h
theorem tx_inKOt (i : Nat) {x : Str} {b : Expr} {Tb : Rho → Out Rho D} {p pos : Pos} (hu : X.A.units + 64 < cLine) (hb : EX X P O b Tb) (hp : X.prog = PgW.P := by rfl) (hw : X.w = PgW.w := by rfl) (hm : behindInMarks .In (.Name x p) = false := by with_unfolding_all rfl)
    (n : ok O i = some .dct := by rfl) (hN : X.N[i]? = some x := by rfl) (hv : Vis X.env.scope x := by first | exact Or.inl rfl | exact Or.inr (Or.inl rfl) | exact Or.inr (Or.inr rfl)) (hd : (x == ("__debug__" : Str)) = false := by decide) (hcd : (x == ("__classdict__" : Str)) = false := by decide) :
    TX X P O (.Compare b [.In] [.Name x p] pos) (isB (inKO i false Tb)) :=
  pt_mono (pt_cmpR (op_inK hp hw hu) hb (pe_var hN hv hd hcd) hm) fun σ H Q h => tx_inKO i (neg := false) n (tT_of h)
theorem tx_notInKOt (i : Nat) {x : Str} {b : Expr} {Tb : Rho → Out Rho D} {p pos : Pos} (hu : X.A.units + 64 < cLine) (hb : EX X P O b Tb) (hp : X.prog = PgW.P := by rfl) (hw : X.w = PgW.w := by rfl) (hm : behindInMarks .NotIn (.Name x p) = false := by with_unfolding_all rfl)
    (n : ok O i = some .dct := by rfl) (hN : X.N[i]? = some x := by rfl) (hv : Vis X.env.scope x := by first | exact Or.inl rfl | exact Or.inr (Or.inl rfl) | exact Or.inr (Or.inr rfl)) (hd : (x == ("__debug__" : Str)) = false := by decide) (hcd : (x == ("__classdict__" : Str)) = false := by decide) :
    TX X P O (.Compare b [.NotIn] [.Name x p] pos) (isB (inKO i true Tb)) :=
  pt_mono (pt_cmpR (op_notInK hp hw hu) hb (pe_var hN hv hd hcd) hm) fun σ H Q h => tx_inKO i (neg := true) n (tT_of h)
end
end Z

/-! file ZDict2 -/
set_option Elab.async false
set_option linter.all false
set_option autoImplicit false
set_option maxRecDepth 100000
set_option maxHeartbeats 4000000
/-! dicts: get, store, displays; sorted ints, list(range(n)), -i, constants that are tuples of empty tuples -/
namespace Z
open PySem PySem.Spec PyProof.Rows L2
variable [PgW]
section
variable {X : Cx} {P : Pm} {L : Lp} {O O' O1 : Own}
/-! ### d.get(k, x) -/
def tKGet (X : Cx) (td ty tx : TE) : TE := fun σ H Q => td σ H fun x H1 => ∃ a xs1 kvs1, x = .ref a ∧ H1 a = some (dctO PgW.P PgW.w a xs1) ∧ DpKv X.K H1 xs1 kvs1 ∧ ty σ H1 fun y H2 => tx σ H2 fun z H3 => ∃ b xs kvs k kd, y = .ref b ∧ H3 a = some (dctO PgW.P PgW.w a xs) ∧ DpKv X.K H3 xs kvs ∧ Dp X.K H3 (.ref b) kd ∧ keyD kd = some k ∧ k.depth ≤ 8 ∧ ((∃ p v, atKey xs k = some p ∧ RelV v p.2 ∧ Q v H3) ∨ (atKey xs k = none ∧ Q z H3))
theorem pe_kget {o e f : Expr} {apos cpos : Pos} {td ty tx : TE} (hp : X.prog = PgW.P) (hw : X.w = PgW.w) (hu : X.A.units + 64 < cLine) (ho : PE X o td) (he : PE X e ty) (hf : PE X f tx) (m : M2 X o "get" apos e f cpos) : PE X (.Call (.Attribute o "get" apos) [e, f] [] cpos) (tKGet X td ty tx) := by
  refine ⟨fun pins s σ H Q I h => ?_⟩
  refine wpAny_Call_method m.base m.few m.line PySem.F.plainAttrs_dict PySem.F.slot_dict_get PySem.F.type_dict_get (thn (ho.run pins s σ H _ I h) fun u s1 ⟨x, H1, I1, rx, a, xs1, kvs1, ex, q, kv1, q1⟩ => ?_)
  subst ex
  obtain rfl : u = Value.ref a := rx
  obtain ⟨dd1, _, _⟩ := dct_at hp hw I1 q kv1
  refine ⟨dd1.typeIs, fun b hb => ?_, ?_⟩
  · cases hb
    obtain ⟨ob, _, _, h1, h2, _⟩ := dd1
    exact ⟨ob, h1, h2.2.1⟩
  rw [m.trees]
  refine Calls.callWith_builtin rfl (Calls.evalArgs_plain (Calls.spliced_cons (thn (he.run pins s1 σ H1 _ I1 q1) fun iv s2 ⟨y, H2, I2, ry, q2⟩ =>
    Calls.spliced_cons (thn (hf.run pins s2 σ H2 _ I2 q2) fun fv s3 ⟨z, H3, I3, rz, b, xs, kvs, k, kd, ey, qa, kv, hk, e1, l, q3⟩ => Calls.spliced_nil ?_))))
  subst ey
  obtain rfl : iv = Value.ref b := ry
  obtain ⟨dd, hl, hsm⟩ := dct_at hp hw I3 qa kv
  refine call_meetsIn PySem.F.slot_dict_get dd.typeIs PySem.F.entry_dict_get (PySem.F.args_dict_get_3 _ _ _) (meetsH_dict_get_default (nestedKind X.prog X.w) a b hsm fv) ⟨room_k hu, k, xs, key_at I3 hk e1 l, dd, ?_⟩
  rcases q3 with ⟨p, v, h1, h2, h3⟩ | ⟨h1, h3⟩
  · rw [h1]; exact ⟨v, H3, I3.tok _, h2, h3⟩
  · rw [h1]; exact ⟨z, H3, I3.tok _, rz, h3⟩
/-- known.get(e, f), an owned dict -/
def getO (i : Nat) (Te Tx : Rho → Out Rho D) : Rho → Out Rho D := fun ρ => match getS i ρ with
  | none => .bad
  | some _ => (Te ρ).bind fun e ρ1 => (Tx ρ1).bind fun x ρ2 => match getS i ρ2, okKey e with
    | some (.dict kvs), some k => .ok ((dgetD kvs k).getD x) ρ2
    | _, _ => .bad
theorem ex_getO (i : Nat) {x : Str} {e f : Expr} {apos cpos p : Pos} {Te Tx : Rho → Out Rho D} (hu : X.A.units + 64 < cLine) (he : EX X P O e Te) (hf : EX X P O f Tx) (hp : X.prog = PgW.P := by rfl) (hw : X.w = PgW.w := by rfl)
    (n : ok O i = some .dct := by rfl) (hN : X.N[i]? = some x := by rfl) (hv : Vis X.env.scope x := by first | exact Or.inl rfl | exact Or.inr (Or.inl rfl) | exact Or.inr (Or.inr rfl)) (hd : (x == ("__debug__" : Str)) = false := by decide) (hcd : (x == ("__classdict__" : Str)) = false := by decide)
    (m : M2 X (.Name x p) "get" apos e f cpos := by exact ⟨rfl, rfl, rfl, rfl⟩) : EX X P O (.Call (.Attribute (.Name x p) "get" apos) [e, f] [] cpos) (getO i Te Tx) := by
  refine pe_mono (pe_kget hp hw hu (pe_var hN hv hd hcd) he hf m) fun σ H Q ⟨ρ, G, F, rr, h⟩ => ?_
  unfold getO at h
  cases z : getS i ρ with
  | none => rw [z] at h; exact h.elim
  | some d0 =>
    rw [z] at h
    obtain ⟨a, qa⟩ := rr.bound z n
    obtain ⟨a', xs1, kvs1, ea, rfl, hH1, hkv1⟩ := rr.dict z n qa
    cases ea
    refine ⟨.ref a, qa, a, xs1, kvs1, rfl, hH1, dpKv_mono rr.gr hkv1, ?_⟩
    refine tX_bind' (R := rE X.K) rr h fun y H2 ed ρ2 G2 r2 e2 p2 h2 => ?_
    refine tX_bind' (R := rE X.K) r2 h2 fun w H3 xd ρ3 G3 r3 e3 p3 h3 => ?_
    cases z2 : getS i ρ3 with
    | none => simp only [z2] at h3; exact h3.elim
    | some d =>
      obtain ⟨a', xs, kvs, ea, rfl, hH, hkv⟩ := r3.dict z2 n qa
      cases ea
      cases z3 : okKey ed with
      | none => simp only [z2, z3] at h3; exact h3.elim
      | some k =>
        simp only [z2, z3] at h3
        obtain ⟨e1, l, ds, rfl⟩ := okKey_of z3
        have p2' := dp_mono r3.gr (dp_mono e3.1 p2)
        cases p2 with
        | tup qt pt =>
          refine ⟨_, xs, kvs, k, _, rfl, hH, dpKv_mono r3.gr hkv, p2', e1, l, ?_⟩
          rcases dpKv_get k hkv with ⟨d', p, v, h1, h4, h5, h6⟩ | ⟨h1, h4⟩
          · rw [h1] at h3
            exact .inl ⟨p, v, h4, h5, h3 v H3 G3 r3 (Ext.refl _ _) h6⟩
          · rw [h1] at h3
            exact .inr ⟨h4, h3 w H3 G3 r3 (Ext.refl _ _) p3⟩
/-! ### d[k] = v -/
def sKPut (X : Cx) (td ty tv : TE) : TS := fun D σ H => tv σ H fun v H1 => td σ H1 fun x H2 => ty σ H2 fun y H3 => ∃ a b xs kvs k kd, x = .ref a ∧ y = .ref b ∧ H3 a = some (dctO PgW.P PgW.w a xs) ∧ DpKv X.K H3 xs kvs ∧ Dp X.K H3 (.ref b) kd ∧ keyD kd = some k ∧ k.depth ≤ 8 ∧ xs.length < sizeLine ∧ ∀ u, RelV v u → D.nx σ (upd H3 a (dctO PgW.P PgW.w a (storedH xs k b u)))
theorem ps_kput {o i value : Expr} {pos pos' : Pos} {td ty tv : TE} (hp : X.prog = PgW.P) (hw : X.w = PgW.w) (hu : X.A.units + 64 < cLine) (ho : PE X o td) (hi : PE X i ty) (hv : PE X value tv) (hs : swapsWith value (some (.Subscript o i pos')) pos.line X.env = pure false) :
    PS X (.Assign [.Subscript o i pos'] value pos) (sKPut X td ty tv) := by
  refine ⟨fun pins s σ H D I h => ?_⟩
  refine wpAny_Assign_Subscript (thn (hv.run pins s σ H _ I h) fun r s1 ⟨v, H1, I1, rv, q1⟩ => thn (ho.run pins s1 σ H1 _ I1 q1) fun u s2 ⟨x, H2, I2, rx, q2⟩ => thn (hi.run pins s2 σ H2 _ I2 q2) fun iv s3 ⟨y, H3, I3, ry, a, b, xs, kvs, k, kd, ex, ey, qa, kv, hk, e1, l, hl, q3⟩ => ?_) hs
  subst ex
  subst ey
  obtain rfl : u = Value.ref a := rx
  obtain rfl : iv = Value.ref b := ry
  obtain ⟨dd, hz, hsm⟩ := dct_at hp hw I3 qa kv
  refine wpAny_setItem_heap (hsz := hz) (room_k hu) (key_at I3 hk e1 l) dd fun h' dd' hs => ⟨σ, _, ?_, q3 r rv⟩
  obtain ⟨ob, es, ep, h1, h2, h3, h4, _, h5⟩ := dd'
  refine d_write I3 (by rw [qa]; exact True.intro) hs ⟨ob, h1⟩ ?_
  exact dctO_ok (by have := storedH_len xs k b r; omega) hsm h1 h2 h3 (by rw [← hp, ← hw]; exact h4) h5 _ _ _
def stK (i : Nat) (Tk Te : Rho → Out Rho D) : Rho → Out Rho Flw := fun ρ => (Te ρ).bind fun d ρ1 => match getS i ρ1 with
  | none => .bad
  | some _ => (Tk ρ1).bind fun kd ρ2 => match getS i ρ2, okKey kd with
    | some (.dict kvs), some k => if kvs.length < sizeLine then .ok .nx (ρ2.set i (some (.dict (dputD kvs k kd d)))) else .bad
    | _, _ => .bad
theorem sx_stK (i : Nat) {x : Str} {k e : Expr} {p spos pos : Pos} {Tk Te : Rho → Out Rho D} (hu : X.A.units + 64 < cLine) (hk : EX X P O k Tk) (he : EX X P O e Te) (hex : L.ex O) (hp : X.prog = PgW.P := by rfl) (hw : X.w = PgW.w := by rfl) (n : ok O i = some .dct := by rfl)
    (hN : X.N[i]? = some x := by rfl) (hv : Vis X.env.scope x := by first | exact Or.inl rfl | exact Or.inr (Or.inl rfl) | exact Or.inr (Or.inr rfl)) (hd : (x == ("__debug__" : Str)) = false := by decide) (hcd : (x == ("__classdict__" : Str)) = false := by decide)
    (hs : swapsWith e (some (.Subscript (.Name x p) k spos)) pos.line X.env = pure false := by rfl) : SX X P L O O (.Assign [.Subscript (.Name x p) k spos] e pos) (stK i Tk Te) := by
  refine ps_mono (ps_kput hp hw hu (pe_var hN hv hd hcd) hk he hs) fun E σ H ⟨ρ, G, F, r, h⟩ => ?_
  refine ⟨ρ, G, F, r, Fin.imp (FinS.ofE (R := rE X.K) hex h) fun v H1 ⟨d, ρ1, G1, r1, e1, dv, f1⟩ => ?_⟩
  cases z : getS i ρ1 with
  | none => simp only [z] at f1; exact f1.elim
  | some d0 =>
    simp only [z] at f1
    obtain ⟨a, qa⟩ := r1.bound z n
    refine ⟨.ref a, qa, ?_⟩
    refine ⟨ρ1, G1, F, r1, Fin.imp (FinS.ofE (R := rE X.K) hex f1) fun kv H2 ⟨kd, ρ2, G2, r2, e2, dk, f2⟩ => ?_⟩
    cases z2 : getS i ρ2 with
    | none => simp only [z2] at f2; exact f2.elim
    | some d2 =>
      obtain ⟨a', xs, kvs, ea, rfl, hH, hkv⟩ := r2.dict z2 n qa
      cases ea
      cases z3 : okKey kd with
      | none => simp only [z2, z3] at f2; exact f2.elim
      | some k =>
        simp only [z2, z3] at f2
        obtain ⟨e3, l, ds, rfl⟩ := okKey_of z3
        have hk' := dp_mono r2.gr dk
        have dkk := dk
        cases dk with
        | tup qt pt =>
          by_cases hl : kvs.length < sizeLine
          · rw [if_pos hl] at f2
            refine ⟨a, _, xs, kvs, k, _, rfl, rfl, hH, dpKv_mono r2.gr hkv, hk', e3, l, by rw [dpKv_len hkv]; exact hl, fun u ru => ?_⟩
            exact f2 σ _ G2 (r2.mutate (getS_some z2) n qa ⟨_, _, rfl, upd_same, dpKv_put hkv e3 l dkk ru (dp_mono e2.1 dv)⟩) (Ext.refl _ _)
          · rw [if_neg hl] at f2; exact f2.elim
end
end Z

/-! file ZDict3 -/
set_option Elab.async false
set_option linter.all false
set_option autoImplicit false
set_option maxRecDepth 100000
set_option maxHeartbeats 4000000
/-! dicts: displays; sorted ints, list(range(n)), -i, constants that are tuples of empty tuples -/
namespace Z
open PySem PySem.Spec PyProof.Rows L2
variable [PgW]
/-! ### more is kept for a while -/
theorem Rel.weak {K : PySem.W.Frag} {F F' H G : Hp} {fx : List (Nat × Addr)} {O : Own} {σ : L2.St} {ρ : Rho} (h : ∀ a o, F a = some o → F' a = some o) (r : Rel K F' fx O σ H ρ G) : Rel K F fx O σ H ρ G where
  fr := fun a o e => r.fr a o (h a o e)
  gr := r.gr
  sh := r.sh
  ow := fun i d k e n => by
    obtain ⟨a, q, w, f, g⟩ := r.ow i d k e n
    refine ⟨a, q, w, ?_, g⟩
    cases z : F a with
    | none => rfl
    | some o => rw [h a o z] at f; cases f
  dj := r.dj
  fx := r.fx
  len := r.len
omit [PgW] in
theorem Ext.weak {F F' G G' : Hp} (h : ∀ a o, F a = some o → F' a = some o) (e : Ext F' G G') : Ext F G G' := ⟨e.1, fun a n => e.2 a fun z => by
  cases q : F a with
  | none => exact n q
  | some o => rw [h a o q] at z; cases z⟩
theorem Fin.weak {β α : Type} {K : PySem.W.Frag} {mg : Str → Option Value} {P : Pm} {O : Own} {σ : L2.St} {F F' : Hp} {R : RR β α} {G : Hp} {o : Out Rho α} {Q : β → Hp → Prop} (h : ∀ a o, F a = some o → F' a = some o)
    (hR : ∀ σ ρ H G v a, R F' σ ρ H G v a → R F σ ρ H G v a) (f : Fin K mg P O σ F R G o Q) : Fin K mg P O σ F' R G o Q := by
  cases o with
  | ok a ρ' => exact fun v H' G' r e d => f v H' G' (r.weak h) (e.weak h) (hR _ _ _ _ _ _ d)
  | exc c fs ρ' => exact fun cls de H' G' r e d => f cls de H' G' (r.weak h) (e.weak h) d
  | bad => exact f
/-- an object at a free place, kept -/
theorem Rel.hold {K : PySem.W.Frag} {F H G : Hp} {fx : List (Nat × Addr)} {O : Own} {σ : L2.St} {ρ : Rho} (r : Rel K F fx O σ H ρ G) {p : Addr} {o : HO} (hp : H p = none) : Rel K (upd F p o) fx O σ (upd H p o) ρ G := by
  have r1 := r.side (p := p) (o := o) hp
  exact {
    fr := fun a u e => by
      by_cases z : a = p
      · subst z; rw [upd_same] at e ⊢; exact e
      · rw [upd_ne z] at e ⊢; exact r.fr a u e
    gr := r1.gr
    sh := r1.sh
    ow := fun i d k e n => by
      obtain ⟨a, q, w, f, g⟩ := r1.ow i d k e n
      refine ⟨a, q, w, ?_, g⟩
      rw [upd_ne (r.own_ne hp e n q)]; exact f
    dj := r1.dj
    fx := r1.fx
    len := r1.len }
omit [PgW] in
theorem upd_up {F : Hp} {p : Addr} {o : HO} (h : F p = none) : ∀ a u, F a = some u → upd F p o a = some u := fun a u e => by rw [upd_ne (ne_of_none e h)]; exact e
section
variable {X : Cx} {P : Pm} {L : Lp} {O O' O1 : Own}
/-! ### {}, {k: v} -/
omit [PgW] in
theorem dctO_new {P : Program} {w : World} (P' : Program) (w' : World) (H : Hp) (h : Heap) (hb : sysModules < h.objs.size) : ObjOk P' w' H (h.push { cls := .type "dict", data := .dict #[] }) h.objs.size (dctO P w h.objs.size []) :=
  dctO_ok (xs := []) (es := #[]) (ep := 0) (Nat.zero_le _) (beq_eq_false_iff_ne.mpr (Ne.symm (Nat.ne_of_lt hb))) (Heap.get?_push_size _ rfl) ⟨rfl, rfl, rfl⟩ rfl rfl List.nodup_nil P' w' H
def tKNew (X : Cx) : TE := fun _ H Q => ∀ p, H p = none → Q (.ref p) (upd H p (dctO PgW.P PgW.w p []))
theorem pe_knew {pos : Pos} : PE X (.Dict [] [] pos) (tKNew X) := ⟨fun pins s σ H Q I h =>
  wpAny_Dict_empty ⟨.ref s.heap.objs.size, _, I.laid (a := s.heap.objs.size) (o := dctO PgW.P PgW.w s.heap.objs.size []) (t' := s.toks) (fun _ _ q => Heap.get?_push_of_some _ q) (Nat.le_refl _) (dctO_new _ _ _ s.heap I.big), rfl, h _ (I.hok.fresh (Nat.le_refl _))⟩⟩
theorem freshD_at {K : PySem.W.Frag} {F : Hp} {fx : List (Nat × Addr)} {σ : L2.St} {H : Hp} {ρ : Rho} {G : Hp} {xs : List (NestedKey × Addr × Value)} {kvs : List (D × D)} {p : Addr} (r : Rel K F fx O σ H ρ G) (hp : H p = none) (hd : DpKv K G xs kvs) :
    rF K O .dct F σ ρ (upd H p (dctO PgW.P PgW.w p xs)) G (.ref p) (.dict kvs) := by
  refine ⟨p, rfl, ⟨xs, kvs, rfl, upd_same, hd⟩, ?_, ?_, fun j e l q n z => ?_⟩
  · cases e : F p with
    | none => rfl
    | some u => rw [r.fr p u e] at hp; cases hp
  · cases e : G p with
    | none => rfl
    | some u => rw [r.gr p u e] at hp; cases hp
  · exact r.own_ne hp q n z rfl
def dct0T : Rho → Out Rho D := fun ρ => .ok (.dict []) ρ
theorem fx_dct0 {pos : Pos} : FX X P O .dct (.Dict [] [] pos) dct0T := by
  refine pe_mono pe_knew fun σ H Q ⟨ρ, G, F, r, h⟩ p hp => ?_
  exact h _ _ G (r.side hp) (Ext.refl _ _) (freshD_at r hp .nil)
def tKOne (X : Cx) (tk tv : TE) : TE := fun σ H Q => ∀ p, H p = none → tk σ (upd H p (dctO PgW.P PgW.w p [])) fun y H1 => tv σ H1 fun z H2 => ∃ b k kd, y = .ref b ∧ H2 p = some (dctO PgW.P PgW.w p []) ∧ Dp X.K H2 (.ref b) kd ∧ keyD kd = some k ∧ k.depth ≤ 8 ∧ ∀ u, RelV z u → Q (.ref p) (upd H2 p (dctO PgW.P PgW.w p [(k, b, u)]))
theorem pe_kone {ke ve : Expr} {pos : Pos} {tk tv : TE} (hp : X.prog = PgW.P) (hw : X.w = PgW.w) (hu : X.A.units + 64 < cLine) (hk : PE X ke tk) (hv : PE X ve tv) : PE X (.Dict [some ke] [ve] pos) (tKOne X tk tv) := by
  refine ⟨fun pins s σ H Q I q => ?_⟩
  have hn := I.hok.fresh (Nat.le_refl s.heap.objs.size)
  have I1 := I.laid (a := s.heap.objs.size) (o := dctO PgW.P PgW.w s.heap.objs.size []) (h' := s.heap.push { cls := .type "dict", data := .dict #[] }) (t' := s.toks) (fun _ _ q => Heap.get?_push_of_some _ q) (Nat.le_refl _) (dctO_new _ _ _ s.heap I.big)
  have e := zip_pairTrees [some ke] [ve] X.env pos rfl rfl
  rw [arm_eval_Dict, e, dictDisplay_pairs (pairTrees [some ke] [ve] X.env pos) (fun z => by cases z) (show (1 : Nat) < 17 by decide)]
  refine wpAny_bind (wpAny_standAt (wpAny_bind ?_))
  have hr : (nestedKind X.prog X.w).room X.A := by
    show X.A.units + 8 < cLine
    omega
  refine wpAny_subDictH (knd := nestedKind X.prog X.w) hr (show (1 : Nat) ≤ 15 by decide) ?_
  refine pairTrees_cons_walk (thn (hk.run pins _ σ _ _ I1 (q _ hn)) fun kv s1 ⟨y, H1, I2, ry, q1⟩ => thn (hv.run pins s1 σ H1 _ I2 q1) fun vv s2 ⟨z, H2, I3, rz, b, k, kd, ey, hH, hkd, e1, l, q2⟩ => pairTrees_nil_walk ?_)
  subst ey
  obtain rfl : kv = Value.ref b := ry
  obtain ⟨dd, hl, hsm⟩ := dct_at hp hw I3 hH .nil
  refine ⟨[(k, b, vv)], ⟨rfl, rfl, key_at I3 hkd e1 l, True.intro⟩, dd, fun h' tk' dd' hs => wpAny_pure ⟨.ref s.heap.objs.size, _, ?_, rfl, q2 vv rz⟩⟩
  obtain ⟨ob, es, ep, h1, h2, h3, h4, _, h5⟩ := dd'
  have es1 : storedAllH (K := NestedKey) [] [(k, b, vv)] = [(k, b, vv)] := rfl
  rw [es1] at h4 h5
  refine d_write I3 (by rw [hH]; exact True.intro) hs ⟨ob, h1⟩ ?_
  exact dctO_ok (by rw [sizeLine_eq]; exact Nat.le_of_ble_eq_true rfl) hsm h1 h2 h3 (by rw [← hp, ← hw]; exact h4) h5 _ _ _
def dct1T (Tk Tv : Rho → Out Rho D) : Rho → Out Rho D := fun ρ => (Tk ρ).bind fun kd ρ1 => (Tv ρ1).bind fun vd ρ2 => match okKey kd with
  | some _ => .ok (.dict [(kd, vd)]) ρ2
  | none => .bad
theorem fx_dct1 {ke ve : Expr} {pos : Pos} {Tk Tv : Rho → Out Rho D} (hu : X.A.units + 64 < cLine) (hk : EX X P O ke Tk) (hv : EX X P O ve Tv) (hp : X.prog = PgW.P := by rfl) (hw : X.w = PgW.w := by rfl) : FX X P O .dct (.Dict [some ke] [ve] pos) (dct1T Tk Tv) := by
  refine pe_mono (pe_kone hp hw hu hk hv) fun σ H Q ⟨ρ, G, F, r, h⟩ p hpn => ?_
  have hF : F p = none := by
    cases e : F p with
    | none => rfl
    | some u => rw [r.fr p u e] at hpn; cases hpn
  have hG : G p = none := by
    cases e : G p with
    | none => rfl
    | some u => rw [r.gr p u e] at hpn; cases hpn
  have up := upd_up (o := dctO PgW.P PgW.w p []) hF
  have r1 := r.hold (o := dctO PgW.P PgW.w p []) hpn
  refine ⟨ρ, G, upd F p (dctO PgW.P PgW.w p []), r1, ?_⟩
  unfold dct1T at h
  cases zk : Tk ρ with
  | bad => rw [zk] at h; exact h
  | exc c fs ρ' =>
    rw [zk] at h
    exact fun cls de H' G' r e d => h cls de H' G' (r.weak up) (e.weak up) d
  | ok kd ρ1 =>
    rw [zk, bind_ok] at h
    intro y H1 G1 r1 e1 p1
    refine ⟨ρ1, G1, upd F p (dctO PgW.P PgW.w p []), r1, ?_⟩
    have e1' := e1.weak up
    cases zv : Tv ρ1 with
    | bad => rw [zv] at h; exact h
    | exc c fs ρ' =>
      rw [zv] at h
      exact fun cls de H' G' r e d => h cls de H' G' (r.weak up) (e1'.trans (e.weak up)) d
    | ok vd ρ2 =>
      rw [zv, bind_ok] at h
      intro z H2 G2 r2 e2 p2
      have e2' := e1'.trans (e2.weak up)
      cases zo : okKey kd with
      | none => simp only [zo] at h; exact h.elim
      | some k =>
        simp only [zo] at h
        obtain ⟨ek, l, ds, rfl⟩ := okKey_of zo
        have hp2 : H2 p = some (dctO PgW.P PgW.w p []) := r2.fr p _ upd_same
        have hG2 : G2 p = none := by
          have q1 := e1.2 p (by rw [upd_same]; exact fun q => nomatch q) hG
          exact e2.2 p (by rw [upd_same]; exact fun q => nomatch q) q1
        have k2 := dp_mono e2.1 p1
        have k3 := dp_mono r2.gr k2
        have own : ∀ (i : Nat) (d : D) (k : OKd) (a : Addr), ρ2[i]? = some (some d) → ok O i = some k → σ[i]? = some (some (.ref a)) → a ≠ p := by
          intro i d k a e n q z
          subst z
          obtain ⟨b, q', _, f, _⟩ := r2.ow i d k e n
          rw [q] at q'
          cases q'
          rw [upd_same] at f; cases f
        cases p1 with
        | @tup b xs0 _ qt pt =>
          refine ⟨b, k, _, rfl, hp2, k3, ek, l, fun u ru => ?_⟩
          have r3 : Rel X.K F P.fx O σ (upd H2 p (dctO PgW.P PgW.w p [(k, b, u)])) ρ2 G2 := (r2.weak up).next
            (fun a o e => by rw [upd_ne (ne_of_none e hF)]; exact (r2.weak up).fr a o e) (fun a o e => e) (fun a o e => by rw [upd_ne (ne_of_none e hG2)]; exact r2.gr a o e)
            (fun i d k a e n q => by
              obtain ⟨b, q', _, _, g⟩ := r2.ow i d k e n
              rw [q] at q'
              cases q'
              exact ⟨upd_ne (own i d k a e n q), g⟩)
          refine h _ _ G2 r3 e2' ⟨p, rfl, ⟨_, _, rfl, upd_same, .cons ek l k2 ru p2 .nil⟩, hF, hG2, fun j e l' q n z => ?_⟩
          exact own j e l' p q n z rfl
/-! ### sorted(ints), list(range(n)), -i -/
def intsD : List D → Option (List Int)
  | [] => some []
  | .int i :: ds => (intsD ds).map (i :: ·)
  | _ => none
omit [PgW] in
theorem intsD_eq : ∀ {ds : List D} {ns : List Int}, intsD ds = some ns → ds = ns.map .int
  | [], ns, h => by cases h; rfl
  | d :: ds, ns, h => by
    cases d with
    | int i =>
      obtain ⟨ms, h1, rfl⟩ := Option.map_eq_some_iff.mp (show (intsD ds).map (i :: ·) = some ns from h)
      rw [intsD_eq h1]; rfl
    | _ => cases h
def insI (n : Int) : List Int → List Int
  | [] => [n]
  | m :: l => if n ≤ m then n :: m :: l else m :: insI n l
def srtI : List Int → List Int
  | [] => []
  | n :: l => insI n (srtI l)
def srtD : D → Option D
  | .list ds => (intsD ds).map fun ns => .list ((srtI ns).map .int)
  | _ => none
omit [PgW] in
theorem insI_perm (n : Int) : ∀ l, (insI n l).Perm (n :: l)
  | [] => List.Perm.refl _
  | m :: l => by
    unfold insI
    split
    · exact List.Perm.refl _
    · exact ((insI_perm n l).cons m).trans (List.Perm.swap n m l)
omit [PgW] in
theorem insI_sorted (n : Int) : ∀ l, l.Pairwise (· ≤ ·) → (insI n l).Pairwise (· ≤ ·)
  | [], _ => List.pairwise_singleton _ _
  | m :: l, h => by
    obtain ⟨h1, h2⟩ := List.pairwise_cons.mp h
    unfold insI
    split
    · rename_i hn
      refine List.pairwise_cons.mpr ⟨fun a ha => ?_, h⟩
      rcases List.mem_cons.mp ha with e | ha
      · rw [e]; exact hn
      · have := h1 a ha; omega
    · rename_i hn
      refine List.pairwise_cons.mpr ⟨fun a ha => ?_, insI_sorted n l h2⟩
      rcases List.mem_cons.mp ((insI_perm n l).mem_iff.mp ha) with e | ha
      · rw [e]; omega
      · exact h1 a ha
omit [PgW] in
theorem srtI_perm : ∀ l, (srtI l).Perm l
  | [] => List.Perm.refl _
  | n :: l => (insI_perm n _).trans ((srtI_perm l).cons n)
omit [PgW] in
theorem srtI_sorted : ∀ l, (srtI l).Pairwise (· ≤ ·)
  | [] => List.Pairwise.nil
  | n :: l => insI_sorted n _ (srtI_sorted l)
omit [PgW] in
theorem srtI_uniq {ns ns' : List Int} (h : ns'.Perm ns) (h' : ns'.Pairwise (· ≤ ·)) : ns' = srtI ns :=
  (h.trans (srtI_perm ns).symm).eq_of_pairwise (fun a b _ _ h1 h2 => by omega) h' (srtI_sorted ns)
theorem fx_srt {e : Expr} {T : Rho → Out Rho D} {p pos : Pos} (he : EX X P O e T) (hm : X.mg "sorted" = none) (hg : Gl X "sorted" := by rfl) (hs : starEach [e] X.env = (false, eval e X.env) :: starEach [] X.env := by rfl) (hpl : (backTo pos (starEach [] X.env)).any (·.1) = false := by rfl) :
    FX X P O .lst (.Call (.Name "sorted" p) [e] [] pos) (fun ρ => (T ρ).bind fun d ρ1 => .of (srtD d) ρ1) := by
  refine pe_mono (pe_callB cr_sortedI hg hm (by rfl) (pa_cons he pa_nil hs) (by decide) (by decide) hs hpl) fun σ H Q ⟨ρ, G, F, rr, h⟩ => ?_
  refine tX_bind' (R := rE X.K) rr h fun v H1 d ρ1 G1 r1 e1 p1 h1 => ?_
  cases d with
  | list ds =>
    cases zi : intsD ds with
    | none => simp only [srtD, zi] at h1; exact h1.elim
    | some ns =>
      simp only [srtD, zi] at h1
      have ed := intsD_eq zi
      subst ed
      cases p1 with
      | lst q p =>
        have ex := DpAll.ints p
        subst ex
        refine ⟨_, ns, rfl, sqL_mono r1.gr q, fun ns' l hp hs hl => ?_⟩
        rw [srtI_uniq hp hs]
        exact h1 _ _ _ (r1.side hl) (Ext.refl _ _) (fresh_at r1 hl (dpAll_ints _))
  | _ => exact h1.elim
def lrg1D : D → Option D
  | .int j => if rgOkB 0 j = true then some (.list (rng 0 j)) else none
  | _ => none
theorem fx_listRg1 {a : Expr} {Ta : Rho → Out Rho D} {p p2 pos2 pos : Pos} (hc : X.calm = true) (ha : EX X P O a Ta) (hm : X.mg "list" = none) (hm2 : X.mg "range" = none) (hg : Gl X "list" := by rfl) (hg2 : Gl X "range" := by rfl)
    (na : starEach [a] X.env = (false, eval a X.env) :: starEach [] X.env := by rfl)
    (ns : starEach [.Call (.Name "range" p2) [a] [] pos2] X.env = (false, eval (.Call (.Name "range" p2) [a] [] pos2) X.env) :: starEach [] X.env := by rfl) :
    FX X P O .lst (.Call (.Name "list" p) [.Call (.Name "range" p2) [a] [] pos2] [] pos) (fun ρ => (Ta ρ).bind fun d ρ1 => .of (lrg1D d) ρ1) := by
  refine pe_mono (pe_listRg hc hg hm (prg_1 hg2 hm2 ha na) ns) fun σ H Q ⟨ρ, G, F, rr, h⟩ => ?_
  refine tX_bind' (R := rE X.K) rr h fun x H1 d ρ1 G1 r1 e1 p1 h1 => ?_
  cases d with
  | int j =>
    cases p1
    simp only [lrg1D] at h1
    by_cases z : rgOkB 0 j = true
    · rw [if_pos z] at h1
      refine ⟨j, rfl, rgOkB_of z, fun q hq => h1 _ _ _ (r1.side hq) (Ext.refl _ _) (fresh_at r1 hq (rgV_dp 0 j))⟩
    · rw [if_neg z] at h1; exact h1.elim
  | _ => exact h1.elim
def negT (T : Rho → Out Rho D) : Rho → Out Rho D := fun ρ => (T ρ).bind fun d ρ1 => match d with
  | .int i => .ok (.int (-i)) ρ1
  | _ => .bad
theorem ex_neg {a : Expr} {Ta : Rho → Out Rho D} {pos : Pos} (ha : EX X P O a Ta) : EX X P O (.UnaryOp .USub a pos) (negT Ta) := by
  refine pe_mono (pe_un un_neg ha) fun σ H Q ⟨ρ, G, F, rr, h⟩ => ?_
  refine tX_bind' (R := rE X.K) rr h fun x H1 d ρ1 G1 r1 e1 p1 h1 => ?_
  cases d with
  | int i => cases p1; exact ⟨i, rfl, h1 _ H1 G1 r1 (Ext.refl _ _) (.int _)⟩
  | _ => exact h1.elim
end
/-! ### a constant that is a tuple of empty tuples -/
def etB (K : PySem.W.Frag) (v : Value) : Bool := match v with
  | .ref p => (match K.lookup p with
    | some ⟨.type c, _, .seq its _, _⟩ => decide (c = "tuple") && its.isEmpty
    | _ => false)
  | _ => false
def etsB (K : PySem.W.Frag) (x : Str) (n : Nat) : Bool := match K.lookup (He.ga K x) with
  | some ⟨.type c, _, .seq its _, _⟩ => decide (c = "tuple") && (decide (its.toList.length = n) && (decide (its.size ≤ sizeLine) && its.toList.all (etB K)))
  | _ => false
theorem etB_ok {K : PySem.W.Frag} {G : Hp} {v : Value} (h : etB K v = true) : ∃ p, v = .ref p ∧ Dp K G (.ref p) (.tuple []) := by
  unfold etB at h
  split at h
  · split at h
    · rename_i p _ c dd its n sl hq
      obtain ⟨h1, h2⟩ := Bool.and_eq_true_iff.mp h
      have hc : c = "tuple" := of_decide_eq_true h1
      subst hc
      have hi : its = #[] := by simpa using h2
      subst hi
      exact ⟨p, rfl, .tup (.inr ⟨_, #[], _, hq, rfl, rfl, Nat.zero_le _, .nil⟩) .nil⟩
    · cases h
  · cases h
theorem kon_ets {K : PySem.W.Frag} {h : Heap} {mg : Str → Option Value} {x : Str} {n : Nat} (X : K.In h) (G : h.Ns mainGlobals mg) (c : (He.Fa.glo x).ok K = true) (t : etsB K x n = true) : Kon K mg x (.tuple (List.replicate n (.tuple []))) := by
  refine ⟨_, .ref (He.ga K x), He.glo_ok X G c, rfl, fun G' => ?_⟩
  unfold etsB at t
  split at t
  · rename_i _ c dd its m sl hq
    obtain ⟨h1, h2⟩ := Bool.and_eq_true_iff.mp t
    obtain ⟨h3, h4⟩ := Bool.and_eq_true_iff.mp h2
    obtain ⟨h5, h6⟩ := Bool.and_eq_true_iff.mp h4
    have hc : c = "tuple" := of_decide_eq_true h1
    subst hc
    have key : ∀ (vs : List Value), vs.all (etB K) = true → ∃ xs : List V, Vals xs vs ∧ DpAll K G' xs (List.replicate vs.length (.tuple [])) := by
      intro vs
      induction vs with
      | nil => intro _; exact ⟨[], .nil, .nil⟩
      | cons v vs ih =>
        intro hv
        rw [List.all_cons, Bool.and_eq_true] at hv
        obtain ⟨p, rfl, hp⟩ := etB_ok (G := G') hv.1
        obtain ⟨xs, q1, q2⟩ := ih hv.2
        exact ⟨.ref p :: xs, .cons rfl q1, .cons hp q2⟩
    obtain ⟨xs, q1, q2⟩ := key its.toList h6
    rw [of_decide_eq_true h3] at q2
    exact .tup (.inr ⟨_, its, m, hq, rfl, rfl, of_decide_eq_true h5, q1⟩) q2
  · cases t
end Z

/-! file ZEnd -/
set_option Elab.async false
set_option linter.all false
set_option autoImplicit false
set_option maxRecDepth 100000
set_option maxHeartbeats 4000000
/-! a law's end -/
namespace Z
open PySem PySem.Spec PyProof.Rows L2
variable [PgW]
omit [PgW] in
theorem bindsA {K : PySem.W.Frag} {x qual : Str} {st : Stmt} {f : Addr} {fd : FuncData} {p : Str} (F : Fun K x qual st f fd) (h : BindsW x qual st [p]) (s : Shared) (v : Value) : BindsTo s fd ⟨[v], []⟩ [(p, v)] := by
  obtain ⟨oc, od, kV, doc, pm, an, cdv, ct, osl, rfl, lk, hcd⟩ := F.ex
  exact .of_eq (h kV doc pm an cdv ct [v] rfl)
/-- what a law's walk gives: its promise over every base -/
def LawZ (P : Program) (w : World) (K : PySem.W.Frag) (mg : Str → Option Value) (f : Addr) (k : Nat) (x : Str) (S : List D → Out (List D) D) : Prop :=
  ∃ fd : FuncData, (∀ (s : Shared) (v : Value), BindsTo s fd ⟨[v], []⟩ [(x, v)]) ∧ ∀ base : Heap, FnOk P w K mg base (L2.CX P w) k f fd [x] (spZ K mg [none] none S)
omit [PgW] in
theorem walkZ {l : PySem.W.OpenLaw} {n k : Nat} {q : Program} {loose : List Str} {XP : (Str → Option Value) → Heap → Prop} {YP : World → Heap → Prop} {d : DefRec} {x : Str} {S : List D → Out (List D) D}
    (hn : l.most = some n) (hn2 : n ≤ sizeLine) (hdf : d.params.defaults = []) (hr : Room k callerA)
    (F : ∀ (w : World) (mg : Str → Option Value) (fa : Addr) (h : Heap), YP w h → h.Ns mainGlobals mg → mg d.name = some (.ref fa) → ∃ K : PySem.W.Frag, K.In h ∧ @LawZ ⟨l.prog, w⟩ l.prog w K mg fa k x S)
    (hS : ∀ ns : List Int, ns.length ≤ n → (∀ z ∈ ns, Builtin.Int.intBits z ≤ 1048576) → ∃ os, S [.list (ns.map .int)] = .ok (.bool true) os) :
    PySem.W.WalkO q loose XP YP l.row.toRowW d [] (fun f vs => PySem.call f vs) := by
  refine Att.attach_callB hn hdf fun w s₀ s₁ mg mb fa o pm cd doc a vs ns G Y ho hd hcd hmg hobj hints hlen hbits hg => ?_
  letI : PgW := ⟨l.prog, w⟩
  obtain ⟨K, KX, fd, hb, hF⟩ := F w mg fa _ Y G.T.g hmg
  obtain ⟨os, e⟩ := hS ns hlen hbits
  exact law_call KX G.T.g G.T.b G.T.builtins G.T.nolimit hg hobj hints (Nat.le_trans hlen hn2) hr (fun base _ _ => hF base) hb (fun H _ hS' => law_sp hS' e) fun H e s' h => by
    obtain ⟨_, _, _, _, _, _, _, _, _, _, _, _, z⟩ := h
    exact z.elim
end Z

/-! file ZSimp -/
set_option Elab.async false
set_option linter.all false
set_option autoImplicit false
set_option maxRecDepth 100000
set_option maxHeartbeats 4000000
/-! how the readings reckon: equations for simp -/
namespace Z
open PySem PySem.Spec PyProof.Rows L2
@[simp] theorem getS_zero (x : Option D) (l : Rho) : getS 0 (x :: l) = x := rfl
@[simp] theorem getS_succ (n : Nat) (x : Option D) (l : Rho) : getS (n + 1) (x :: l) = getS n l := rfl
@[simp] theorem getS_nil (n : Nat) : getS n [] = none := by cases n <;> rfl
@[simp] theorem bind_ite {r α β : Type} (c : Prop) [Decidable c] (a b : Out r α) (k : α → r → Out r β) : (if c then a else b).bind k = if c then a.bind k else b.bind k := by split <;> rfl
def getK (o : Option D) (ρ : Rho) : Out Rho D := match o with
  | some d => .ok d ρ
  | none => .bad
@[simp] theorem getK_some (d : D) (ρ : Rho) : getK (some d) ρ = .ok d ρ := rfl
@[simp] theorem getK_none (ρ : Rho) : getK none ρ = .bad := rfl
@[simp] theorem varT_eq (i : Nat) (ρ : Rho) : varT i ρ = getK (getS i ρ) ρ := by
  unfold varT getS getK
  cases ρ[i]? with
  | none => rfl
  | some u => cases u <;> rfl
@[simp] theorem cT_eq (d : D) (ρ : Rho) : cT d ρ = .ok d ρ := rfl
@[simp] theorem badT_eq {α : Type} (ρ : Rho) : (badT ρ : Out Rho α) = .bad := rfl
@[simp] theorem binT_eq (g : D → D → Option D) (Ta Tb : Rho → Out Rho D) (ρ : Rho) : binT g Ta Tb ρ = (Ta ρ).bind fun d ρ1 => (Tb ρ1).bind fun e ρ2 => .of (g d e) ρ2 := rfl
/-- a bool is asked -/
def bK {β : Type} (d : D) (k : Bool → Out Rho β) : Out Rho β := match d with
  | .bool b => k b
  | _ => .bad
@[simp] theorem bK_bool {β : Type} (b : Bool) (k : Bool → Out Rho β) : bK (.bool b) k = k b := rfl
@[simp] theorem isB_eq (T : Rho → Out Rho D) (ρ : Rho) : isB T ρ = (T ρ).bind fun d ρ1 => bK d fun b => .ok b ρ1 := by
  unfold isB
  congr
@[simp] theorem andT_eq (Ta Tb : Rho → Out Rho Bool) (ρ : Rho) : andT Ta Tb ρ = (Ta ρ).bind fun c ρ1 => if c = true then Tb ρ1 else .ok false ρ1 := rfl
@[simp] theorem orT_eq (Ta Tb : Rho → Out Rho Bool) (ρ : Rho) : orT Ta Tb ρ = (Ta ρ).bind fun c ρ1 => if c = true then .ok true ρ1 else Tb ρ1 := rfl
@[simp] theorem notT_eq (Ta : Rho → Out Rho Bool) (ρ : Rho) : notT Ta ρ = (Ta ρ).bind fun c ρ1 => .ok (!c) ρ1 := rfl
@[simp] theorem andV_eq (Ta Tb : Rho → Out Rho D) (ρ : Rho) : andV Ta Tb ρ = (Ta ρ).bind fun d ρ1 => bK d fun c => if c = true then Tb ρ1 else .ok (.bool false) ρ1 := by
  unfold andV
  rw [isB_eq]
  cases Ta ρ with
  | ok d s => cases d <;> rfl
  | exc => rfl
  | bad => rfl
@[simp] theorem orV_eq (Ta Tb : Rho → Out Rho D) (ρ : Rho) : orV Ta Tb ρ = (Ta ρ).bind fun d ρ1 => bK d fun c => if c = true then .ok (.bool true) ρ1 else Tb ρ1 := by
  unfold orV
  rw [isB_eq]
  cases Ta ρ with
  | ok d s => cases d <;> rfl
  | exc => rfl
  | bad => rfl
@[simp] theorem notV_eq (Ta : Rho → Out Rho D) (ρ : Rho) : notV Ta ρ = (Ta ρ).bind fun d ρ1 => bK d fun c => .ok (.bool (!c)) ρ1 := by
  unfold notV
  rw [isB_eq]
  cases Ta ρ with
  | ok d s => cases d <;> rfl
  | exc => rfl
  | bad => rfl
@[simp] theorem ifT_eq {α : Type} (Tc : Rho → Out Rho Bool) (Ta Tb : Rho → Out Rho α) (ρ : Rho) : ifT Tc Ta Tb ρ = (Tc ρ).bind fun c ρ1 => if c = true then Ta ρ1 else Tb ρ1 := rfl
@[simp] theorem nilT_eq (ρ : Rho) : nilT ρ = .ok [] ρ := rfl
@[simp] theorem consT_eq (Ta : Rho → Out Rho D) (Tb : Rho → Out Rho (List D)) (ρ : Rho) : consT Ta Tb ρ = (Ta ρ).bind fun d ρ1 => (Tb ρ1).bind fun ds ρ2 => .ok (d :: ds) ρ2 := rfl
/-- items are asked -/
def iK {β : Type} (o : Option (List D)) (k : List D → Out Rho β) : Out Rho β := match o with
  | some l => k l
  | none => .bad
@[simp] theorem iK_some {β : Type} (l : List D) (k : List D → Out Rho β) : iK (some l) k = k l := rfl
@[simp] theorem starT_eq (Ta : Rho → Out Rho D) (Tb : Rho → Out Rho (List D)) (ρ : Rho) : starT Ta Tb ρ = (Ta ρ).bind fun d ρ1 => iK (itemsD d) fun es => (Tb ρ1).bind fun ds ρ2 => .ok (es ++ ds) ρ2 := by
  unfold starT
  congr
@[simp] theorem itemsD_list (l : List D) : itemsD (.list l) = some l := rfl
@[simp] theorem itemsD_tuple (l : List D) : itemsD (.tuple l) = some l := rfl
@[simp] theorem tupT_eq (Ta : Rho → Out Rho (List D)) (ρ : Rho) : tupT Ta ρ = (Ta ρ).bind fun ds ρ1 => if ds.length ≤ sizeLine then .ok (.tuple ds) ρ1 else .bad := rfl
@[simp] theorem lstT_eq (Ta : Rho → Out Rho (List D)) (ρ : Rho) : lstT Ta ρ = (Ta ρ).bind fun ds ρ1 => if ds.length ≤ sizeLine then .ok (.list ds) ρ1 else .bad := rfl
@[simp] theorem noP_eq (ρ : Rho) : noP ρ = .ok none ρ := rfl
/-- an int is asked -/
def nK {β : Type} (d : D) (k : Int → Out Rho β) : Out Rho β := match d with
  | .int i => k i
  | _ => .bad
@[simp] theorem nK_int {β : Type} (i : Int) (k : Int → Out Rho β) : nK (.int i) k = k i := rfl
@[simp] theorem someP_eq (T : Rho → Out Rho D) (ρ : Rho) : someP T ρ = (T ρ).bind fun d ρ1 => nK d fun i => .ok (some i) ρ1 := by
  unfold someP
  congr
@[simp] theorem slcT_eq (T : Rho → Out Rho D) (Tl Th : Rho → Out Rho (Option Int)) (ρ : Rho) : slcT T Tl Th ρ = (T ρ).bind fun d ρ1 => (Tl ρ1).bind fun lo ρ2 => (Th ρ2).bind fun hi ρ3 => .of (slcD d lo hi) ρ3 := rfl
@[simp] theorem callB_eq (g : List D → Option D) (Ta : Rho → Out Rho (List D)) (ρ : Rho) : callB g Ta ρ = (Ta ρ).bind fun ds ρ1 => .of (g ds) ρ1 := rfl
def sK {β : Type} (o : Option D) (k : D → Out Rho β) : Out Rho β := match o with
  | some d => k d
  | none => .bad
@[simp] theorem sK_some {β : Type} (d : D) (k : D → Out Rho β) : sK (some d) k = k d := rfl
@[simp] theorem callO_eq (i : Nat) (g : List D → Option D) (ρ : Rho) : callO i g ρ = sK (getS i ρ) fun d => .of (g [d]) ρ := by
  unfold callO
  cases getS i ρ <;> rfl
@[simp] theorem binO_eq (i : Nat) (g : D → D → Option D) (Tb : Rho → Out Rho D) (ρ : Rho) : binO i g Tb ρ = sK (getS i ρ) fun _ => (Tb ρ).bind fun e ρ2 => sK (getS i ρ2) fun d => .of (g d e) ρ2 := by
  unfold binO
  cases getS i ρ with
  | none => rfl
  | some d0 =>
    show (Tb ρ).bind _ = (Tb ρ).bind _
    congr
    funext e ρ2
    cases getS i ρ2 <;> rfl
@[simp] theorem seqT_eq (T : Rho → Out Rho D) (ρ : Rho) : seqT T ρ = (T ρ).bind fun d ρ1 => .of (itemsD d) ρ1 := rfl
@[simp] theorem rngT_eq (g : List D → Option (List D)) (Ta : Rho → Out Rho (List D)) (ρ : Rho) : rngT g Ta ρ = (Ta ρ).bind fun ds ρ1 => .of (g ds) ρ1 := rfl
@[simp] theorem asgT_eq (i : Nat) (T : Rho → Out Rho D) (ρ : Rho) : asgT i T ρ = (T ρ).bind fun d ρ1 => .ok .nx (ρ1.set i (some d)) := rfl
def rK {β : Type} (o : Option Rho) (k : Rho → Out Rho β) : Out Rho β := match o with
  | some ρ => k ρ
  | none => .bad
@[simp] theorem rK_some {β : Type} (ρ : Rho) (k : Rho → Out Rho β) : rK (some ρ) k = k ρ := rfl
@[simp] theorem tgtT_eq (g : D → Rho → Option Rho) (T : Rho → Out Rho D) (ρ : Rho) : tgtT g T ρ = (T ρ).bind fun d ρ1 => rK (g d ρ1) fun ρ2 => .ok .nx ρ2 := by
  unfold tgtT
  congr
@[simp] theorem retT_eq (T : Rho → Out Rho D) (ρ : Rho) : retT T ρ = (T ρ).bind fun d ρ1 => .ok (.rt d) ρ1 := rfl
@[simp] theorem dropT_eq (T : Rho → Out Rho D) (ρ : Rho) : dropT T ρ = (T ρ).bind fun _ ρ1 => .ok .nx ρ1 := rfl
@[simp] theorem nxT_eq (ρ : Rho) : nxT ρ = .ok .nx ρ := rfl
def sqK (o : Out Rho Flw) (k : Rho → Out Rho Flw) : Out Rho Flw := match o with
  | .ok .nx ρ1 => k ρ1
  | o => o
@[simp] theorem sqK_nx (ρ : Rho) (k : Rho → Out Rho Flw) : sqK (.ok .nx ρ) k = k ρ := rfl
@[simp] theorem sqK_rt (d : D) (ρ : Rho) (k : Rho → Out Rho Flw) : sqK (.ok (.rt d) ρ) k = .ok (.rt d) ρ := rfl
@[simp] theorem sqK_bk (ρ : Rho) (k : Rho → Out Rho Flw) : sqK (.ok .bk ρ) k = .ok .bk ρ := rfl
@[simp] theorem sqK_ct (ρ : Rho) (k : Rho → Out Rho Flw) : sqK (.ok .ct ρ) k = .ok .ct ρ := rfl
@[simp] theorem sqK_exc (c : Str) (fs : List (Str × D)) (ρ : Rho) (k : Rho → Out Rho Flw) : sqK (.exc c fs ρ) k = .exc c fs ρ := rfl
@[simp] theorem sqK_bad (k : Rho → Out Rho Flw) : sqK .bad k = .bad := rfl
@[simp] theorem sqK_ite (c : Prop) [Decidable c] (a b : Out Rho Flw) (k : Rho → Out Rho Flw) : sqK (if c then a else b) k = if c then sqK a k else sqK b k := by split <;> rfl
@[simp] theorem sqT_eq (Ta Tb : Rho → Out Rho Flw) (ρ : Rho) : sqT Ta Tb ρ = sqK (Ta ρ) Tb := by
  unfold sqT sqK
  cases Ta ρ with
  | ok f s => cases f <;> rfl
  | exc => rfl
  | bad => rfl
@[simp] theorem forS_eq (Ti : Rho → Out Rho (List D)) (g : D → Rho → Option Rho) (b : Rho → Out Rho Flw) (ρ : Rho) : forS Ti g b ρ = (Ti ρ).bind fun ds ρ1 => forT g b ds ρ1 := rfl
@[simp] theorem setG_eq (i : Nat) (d : D) (ρ : Rho) : setG i d ρ = some (ρ.set i (some d)) := rfl
@[simp] theorem nilG_nil (ρ : Rho) : nilG [] ρ = some ρ := rfl
@[simp] theorem consG_cons (g : D → Rho → Option Rho) (gs : List D → Rho → Option Rho) (d : D) (ds : List D) (ρ : Rho) : consG g gs (d :: ds) ρ = (g d ρ).bind fun ρ1 => gs ds ρ1 := rfl
@[simp] theorem tupG_list (n : Nat) (gs : List D → Rho → Option Rho) (ds : List D) (ρ : Rho) : tupG n gs (.list ds) ρ = if ds.length = n then gs ds ρ else none := rfl
@[simp] theorem tupG_tuple (n : Nat) (gs : List D → Rho → Option Rho) (ds : List D) (ρ : Rho) : tupG n gs (.tuple ds) ρ = if ds.length = n then gs ds ρ else none := rfl
/-- a list is asked -/
def lK {β : Type} (o : Option D) (k : List D → Out Rho β) : Out Rho β := match o with
  | some (.list l) => k l
  | _ => .bad
@[simp] theorem lK_list {β : Type} (l : List D) (k : List D → Out Rho β) : lK (some (.list l)) k = k l := rfl
@[simp] theorem appT_eq (i : Nat) (Ta : Rho → Out Rho D) (ρ : Rho) : appT i Ta ρ = sK (getS i ρ) fun _ => (Ta ρ).bind fun d ρ1 => lK (getS i ρ1) fun ds => if ds.length < sizeLine then .ok .nx (ρ1.set i (some (.list (ds ++ [d])))) else .bad := by
  unfold appT
  cases getS i ρ with
  | none => rfl
  | some d0 =>
    show (Ta ρ).bind _ = (Ta ρ).bind _
    congr
def jK {β : Type} (o : Option Nat) (k : Nat → Out Rho β) : Out Rho β := match o with
  | some j => k j
  | none => .bad
@[simp] theorem jK_some {β : Type} (j : Nat) (k : Nat → Out Rho β) : jK (some j) k = k j := rfl
@[simp] theorem stT_eq (i : Nat) (Tk Te : Rho → Out Rho D) (ρ : Rho) : stT i Tk Te ρ = (Te ρ).bind fun d ρ1 => sK (getS i ρ1) fun _ => (Tk ρ1).bind fun k ρ2 => lK (getS i ρ2) fun ds => nK k fun n => jK (ixN ds.length n) fun j => .ok .nx (ρ2.set i (some (.list (ds.set j d)))) := by
  unfold stT
  congr
  funext d ρ1
  cases getS i ρ1 with
  | none => rfl
  | some d0 =>
    show (Tk ρ1).bind _ = (Tk ρ1).bind _
    congr
    funext k ρ2
    cases getS i ρ2 with
    | none => rfl
    | some d =>
      cases d with
      | list ds =>
        cases k with
        | int n =>
          show (match ixN ds.length n with | some j => _ | none => _) = jK (ixN ds.length n) _
          cases ixN ds.length n <;> rfl
        | _ => rfl
      | _ => rfl
def cK {β : Type} (o : Option D) (a b : Out Rho β) : Out Rho β := match o with
  | some (.bool true) => a
  | some (.bool false) => b
  | _ => .bad
@[simp] theorem cK_bool {β : Type} (c : Bool) (a b : Out Rho β) : cK (some (.bool c)) a b = if c = true then a else b := by cases c <;> rfl
@[simp] theorem chainT_eq (g g' : D → D → Option D) (Ta Tb Tc : Rho → Out Rho D) (ρ : Rho) : chainT g g' Ta Tb Tc ρ = (Ta ρ).bind fun a ρ1 => (Tb ρ1).bind fun b ρ2 => cK (g a b) ((Tc ρ2).bind fun c ρ3 => .of (g' b c) ρ3) (.ok (.bool false) ρ2) := by
  unfold chainT
  congr
@[simp] theorem isiT_eq (b : String) (T : Rho → Out Rho D) (ρ : Rho) : isiT b T ρ = (T ρ).bind fun d ρ1 => .of (isiD b d) ρ1 := rfl
@[simp] theorem isi2T_eq (a b : String) (T : Rho → Out Rho D) (ρ : Rho) : isi2T a b T ρ = (T ρ).bind fun d ρ1 => .of (isi2D a b d) ρ1 := rfl
/-- a def's answer -/
def fK (js : List (Option Nat)) (o : Out (List D) D) (ρ : Rho) : Out Rho D := match o with
  | .ok d os => .ok d (putJ js os ρ)
  | .exc c fs os => .exc c fs (putJ js os ρ)
  | .bad => .bad
@[simp] theorem fK_ok (js : List (Option Nat)) (d : D) (os : List D) (ρ : Rho) : fK js (.ok d os) ρ = .ok d (putJ js os ρ) := rfl
@[simp] theorem fK_exc (js : List (Option Nat)) (c : Str) (fs : List (Str × D)) (os : List D) (ρ : Rho) : fK js (.exc c fs os) ρ = .exc c fs (putJ js os ρ) := rfl
@[simp] theorem fK_bad (js : List (Option Nat)) (ρ : Rho) : fK js .bad ρ = .bad := rfl
@[simp] theorem fK_ite (js : List (Option Nat)) (c : Prop) [Decidable c] (a b : Out (List D) D) (ρ : Rho) : fK js (if c then a else b) ρ = if c then fK js a ρ else fK js b ρ := by split <;> rfl
@[simp] theorem callT_eq (js : List (Option Nat)) (S : List D → Out (List D) D) (Ta : Rho → Out Rho (List D)) (ρ : Rho) : callT js S Ta ρ = (Ta ρ).bind fun ds ρ1 => iK (fillJ js ds ρ1) fun ds' => fK js (S ds') ρ1 := by
  unfold callT
  congr
  funext ds ρ1
  cases fillJ js ds ρ1 with
  | none => rfl
  | some ds' =>
    show (match S ds' with | .ok d os => _ | .exc c fs os => _ | .bad => _) = fK js (S ds') ρ1
    cases S ds' <;> rfl
@[simp] theorem fillJ_nil (ρ : Rho) : fillJ [] [] ρ = some [] := rfl
@[simp] theorem fillJ_none (js : List (Option Nat)) (d : D) (ds : List D) (ρ : Rho) : fillJ (none :: js) (d :: ds) ρ = (fillJ js ds ρ).map (d :: ·) := rfl
@[simp] theorem fillJ_some (i : Nat) (js : List (Option Nat)) (d : D) (ds : List D) (ρ : Rho) : fillJ (some i :: js) (d :: ds) ρ = (getS i ρ).bind fun e => (fillJ js ds ρ).map (e :: ·) := rfl
@[simp] theorem putJ_nil (os : List D) (ρ : Rho) : putJ [] os ρ = ρ := rfl
@[simp] theorem putJ_none (js : List (Option Nat)) (os : List D) (ρ : Rho) : putJ (none :: js) os ρ = putJ js os ρ := rfl
@[simp] theorem putJ_some (i : Nat) (js : List (Option Nat)) (o : D) (os : List D) (ρ : Rho) : putJ (some i :: js) (o :: os) ρ = putJ js os (ρ.set i (some o)) := rfl
@[simp] theorem ownT_eq (i : Nat) (Tb : Rho → Out Rho (List D)) (ρ : Rho) : ownT i Tb ρ = sK (getS i ρ) fun _ => (Tb ρ).bind fun ds ρ2 => .ok (.none :: ds) ρ2 := by
  unfold ownT
  cases getS i ρ <;> rfl
def qK (js : List (Option Nat)) (o : Out (List D) D) (ρ : Rho) : Out Rho D := match o with
  | .ok d os => .ok d (putJ js os ρ)
  | _ => .bad
@[simp] theorem qK_ok (js : List (Option Nat)) (d : D) (os : List D) (ρ : Rho) : qK js (.ok d os) ρ = .ok d (putJ js os ρ) := rfl
@[simp] theorem callQ_eq (js : List (Option Nat)) (S : List D → Out (List D) D) (Ta : Rho → Out Rho (List D)) (ρ : Rho) : callQ js S Ta ρ = (Ta ρ).bind fun ds ρ1 => iK (fillJ js ds ρ1) fun ds' => qK js (S ds') ρ1 := by
  unfold callQ
  congr
  funext ds ρ1
  cases fillJ js ds ρ1 with
  | none => rfl
  | some ds' =>
    show (match S ds' with | .ok d os => _ | _ => _) = qK js (S ds') ρ1
    cases S ds' <;> rfl
@[simp] theorem par2T_eq (i j : Nat) (Ta : Rho → Out Rho (List D)) (ρ : Rho) : par2T i j Ta ρ = (Ta ρ).bind fun ds ρ1 => match ds with
  | [d, e] => .ok .nx ((ρ1.set i (some d)).set j (some e))
  | _ => .bad := rfl
@[simp] theorem par3T_eq (i j l : Nat) (Ta : Rho → Out Rho (List D)) (ρ : Rho) : par3T i j l Ta ρ = (Ta ρ).bind fun ds ρ1 => match ds with
  | [d, e, f] => .ok .nx (((ρ1.set i (some d)).set j (some e)).set l (some f))
  | _ => .bad := rfl
/-- pairs are asked -/
def dK {β : Type} (o : Option D) (k : List (D × D) → Out Rho β) : Out Rho β := match o with
  | some (.dict l) => k l
  | _ => .bad
@[simp] theorem dK_dict {β : Type} (l : List (D × D)) (k : List (D × D) → Out Rho β) : dK (some (.dict l)) k = k l := rfl
@[simp] theorem fldT_eq (i : Nat) (f : Str) (ρ : Rho) : fldT i f ρ = dK (getS i ρ) fun kvs => .of (getF f kvs) ρ := by
  unfold fldT
  cases getS i ρ with
  | none => rfl
  | some d => cases d <;> rfl
@[simp] theorem sfldT_eq (i : Nat) (f : Str) (Te : Rho → Out Rho D) (ρ : Rho) : sfldT i f Te ρ = (Te ρ).bind fun d ρ1 => dK (getS i ρ1) fun kvs => if kvs.length < 1000 then .ok .nx (ρ1.set i (some (.dict (putD f d kvs)))) else .bad := by
  unfold sfldT
  congr
/-- a def's end -/
def endK (is : List Nat) (o : Out Rho Flw) : Out (List D) D := match o with
  | .ok (.rt d) ρ => .ok d (outsOf is ρ)
  | .ok .nx ρ => .ok .none (outsOf is ρ)
  | .ok .bk _ => .bad
  | .ok .ct _ => .bad
  | .exc c fs ρ => .exc c fs (outsOf is ρ)
  | .bad => .bad
theorem runF_eq (is : List Nat) (n : Nat) (T : Rho → Out Rho Flw) (ds : List D) : runF is n T ds = endK is (T (rho0 n ds)) := by
  unfold runF endK
  cases T (rho0 n ds) with
  | ok f s => cases f <;> rfl
  | exc => rfl
  | bad => rfl
@[simp] theorem endK_rt (is : List Nat) (d : D) (ρ : Rho) : endK is (.ok (.rt d) ρ) = .ok d (outsOf is ρ) := rfl
@[simp] theorem endK_nx (is : List Nat) (ρ : Rho) : endK is (.ok .nx ρ) = .ok .none (outsOf is ρ) := rfl
@[simp] theorem endK_exc (is : List Nat) (c : Str) (fs : List (Str × D)) (ρ : Rho) : endK is (.exc c fs ρ) = .exc c fs (outsOf is ρ) := rfl
@[simp] theorem endK_bad (is : List Nat) : endK is .bad = .bad := rfl
@[simp] theorem endK_ite (is : List Nat) (c : Prop) [Decidable c] (a b : Out Rho Flw) : endK is (if c then a else b) = if c then endK is a else endK is b := by split <;> rfl
@[simp] theorem outsOf_nil (ρ : Rho) : outsOf [] ρ = [] := rfl
@[simp] theorem outsOf_cons (i : Nat) (is : List Nat) (ρ : Rho) : outsOf (i :: is) ρ = (getS i ρ).getD .none :: outsOf is ρ := rfl
@[simp] theorem loopK_nx (ρ : Rho) (k : Rho → Out Rho Flw) : loopK (.ok .nx ρ) k = k ρ := rfl
@[simp] theorem loopK_ct (ρ : Rho) (k : Rho → Out Rho Flw) : loopK (.ok .ct ρ) k = k ρ := rfl
@[simp] theorem loopK_bk (ρ : Rho) (k : Rho → Out Rho Flw) : loopK (.ok .bk ρ) k = .ok .nx ρ := rfl
@[simp] theorem loopK_rt (d : D) (ρ : Rho) (k : Rho → Out Rho Flw) : loopK (.ok (.rt d) ρ) k = .ok (.rt d) ρ := rfl
@[simp] theorem loopK_exc (c : Str) (fs : List (Str × D)) (ρ : Rho) (k : Rho → Out Rho Flw) : loopK (.exc c fs ρ) k = .exc c fs ρ := rfl
@[simp] theorem loopK_bad (k : Rho → Out Rho Flw) : loopK .bad k = .bad := rfl
@[simp] theorem loopK_ite (c : Prop) [Decidable c] (a b : Out Rho Flw) (k : Rho → Out Rho Flw) : loopK (if c then a else b) k = if c then loopK a k else loopK b k := by split <;> rfl
@[simp] theorem forT_nil (g : D → Rho → Option Rho) (b : Rho → Out Rho Flw) (ρ : Rho) : forT g b [] ρ = .ok .nx ρ := rfl
theorem forT_cons (g : D → Rho → Option Rho) (b : Rho → Out Rho Flw) (d : D) (ds : List D) (ρ : Rho) : forT g b (d :: ds) ρ = rK (g d ρ) fun ρ1 => loopK (b ρ1) (forT g b ds) := by
  unfold forT
  cases g d ρ <;> rfl
@[simp] theorem okCmp_int (i j : Int) : okCmp (.int i) (.int j) = true := by simp [okCmp, PyData.canLay0, PyData.depth]
@[simp] theorem okCmp_str (i j : Str) (h : PyData.strOk i = true) (h' : PyData.strOk j = true) : okCmp (.str i) (.str j) = true := by simp [okCmp, PyData.canLay0, PyData.depth, h, h']
@[simp] theorem okCmp_non (d : D) (h : d.canLay0 = true) : okCmp d .none = true := by simp [okCmp, PyData.canLay0, PyData.depth, h]
@[simp] theorem okCmp_bool (i j : Bool) : okCmp (.bool i) (.bool j) = true := by simp [okCmp, PyData.canLay0, PyData.depth]
theorem eqD_str (x y : Str) (hx : PyData.strOk x = true) (hy : PyData.strOk y = true) : eqD (.str x) (.str y) = some (.bool (decide (x = y))) := by
  unfold eqD
  rw [okCmp_str x y hx hy, if_pos rfl]
  show some (PyData.bool (x == y)) = _
  rfl
theorem eqD_strT (x y : Str) (hx : PyData.strOk x = true) (hy : PyData.strOk y = true) (h : x = y) : eqD (.str x) (.str y) = some (.bool true) := by rw [eqD_str x y hx hy, decide_eq_true h]
theorem eqD_strF (x y : Str) (hx : PyData.strOk x = true) (hy : PyData.strOk y = true) (h : x ≠ y) : eqD (.str x) (.str y) = some (.bool false) := by rw [eqD_str x y hx hy, decide_eq_false h]
theorem neD_str (x y : Str) (hx : PyData.strOk x = true) (hy : PyData.strOk y = true) : neD (.str x) (.str y) = some (.bool (!decide (x = y))) := by
  unfold neD
  rw [okCmp_str x y hx hy, if_pos rfl]
  rfl
@[simp] theorem eqD_int (i j : Int) : eqD (.int i) (.int j) = some (.bool (decide (i = j))) := by
  unfold eqD
  rw [okCmp_int, if_pos rfl]
  rfl
@[simp] theorem neD_int (i j : Int) : neD (.int i) (.int j) = some (.bool (!decide (i = j))) := by
  unfold neD
  rw [okCmp_int, if_pos rfl]
  rfl
@[simp] theorem eqD_bool (i j : Bool) : eqD (.bool i) (.bool j) = some (.bool (i == j)) := by
  unfold eqD
  rw [okCmp_bool, if_pos rfl]
  rfl
@[simp] theorem neD_bool (i j : Bool) : neD (.bool i) (.bool j) = some (.bool (!(i == j))) := by
  unfold neD
  rw [okCmp_bool, if_pos rfl]
  rfl
@[simp] theorem ltD_int (i j : Int) : ltD (.int i) (.int j) = some (.bool (decide (i < j))) := rfl
@[simp] theorem leD_int (i j : Int) : leD (.int i) (.int j) = some (.bool (decide (i ≤ j))) := rfl
@[simp] theorem gtD_int (i j : Int) : gtD (.int i) (.int j) = some (.bool (decide (j < i))) := rfl
@[simp] theorem geD_int (i j : Int) : geD (.int i) (.int j) = some (.bool (decide (j ≤ i))) := rfl
@[simp] theorem addD_int (i j : Int) : addD (.int i) (.int j) = some (.int (i + j)) := rfl
@[simp] theorem subD_int (i j : Int) : subD (.int i) (.int j) = some (.int (i - j)) := rfl
theorem modD_int (i j : Int) (h : 0 < j) : modD (.int i) (.int j) = some (.int (i % j)) := by
  unfold modD intD
  simp [h]
theorem mulD_int (i j : Int) (h : mulOk i j = true) : mulD (.int i) (.int j) = some (.int (i * j)) := by
  unfold mulD intD
  simp [h]
theorem fdivD_int (i j : Int) (h : divOk i j = true) : fdivD (.int i) (.int j) = some (.int (i / j)) := by
  unfold fdivD intD
  simp [h]
theorem powD_int (i j : Int) (h : powOk i j = true) : powD (.int i) (.int j) = some (.int (i ^ j.toNat)) := by
  unfold powD intD
  simp [h]
@[simp] theorem idxD_tuple (ds : List D) (i : Int) : idxD (.tuple ds) (.int i) = atI ds i := rfl
@[simp] theorem idxD_list (ds : List D) (i : Int) : idxD (.list ds) (.int i) = atI ds i := rfl
@[simp] theorem atI_zero {α : Type} (x : α) (l : List α) : atI (x :: l) 0 = some x := by
  unfold atI ixN
  simp
theorem atI_nat {α : Type} (l : List α) (n : Nat) : atI l (n : Int) = l[n]? := by
  unfold atI ixN
  rw [if_pos (Int.natCast_nonneg n)]
  by_cases h : n < l.length
  · rw [if_pos (by exact_mod_cast h)]
    simp
  · rw [if_neg (by exact_mod_cast h)]
    simp only [Option.bind_none]
    exact (List.getElem?_eq_none (Nat.le_of_not_lt h)).symm
@[simp] theorem atI_2 {α : Type} (l : List α) : atI l 2 = l[2]? := atI_nat l 2
@[simp] theorem atI_3 {α : Type} (l : List α) : atI l 3 = l[3]? := atI_nat l 3
@[simp] theorem atI_4 {α : Type} (l : List α) : atI l 4 = l[4]? := atI_nat l 4
@[simp] theorem atI_5 {α : Type} (l : List α) : atI l 5 = l[5]? := atI_nat l 5
@[simp] theorem atI_6 {α : Type} (l : List α) : atI l 6 = l[6]? := atI_nat l 6
@[simp] theorem atI_7 {α : Type} (l : List α) : atI l 7 = l[7]? := atI_nat l 7
@[simp] theorem atI_8 {α : Type} (l : List α) : atI l 8 = l[8]? := atI_nat l 8
@[simp] theorem atI_one {α : Type} (l : List α) : atI l 1 = l[1]? := atI_nat l 1
@[simp] theorem isD_non (d : D) : isD d .none = some (.bool (isNoneD d)) := by unfold isD isB2; cases d <;> rfl
@[simp] theorem isNotD_non (d : D) : isNotD d .none = some (.bool (!isNoneD d)) := by unfold isNotD isB2; cases d <;> rfl
@[simp] theorem isNoneD_none : isNoneD .none = true := rfl
@[simp] theorem isNoneD_int (i : Int) : isNoneD (.int i) = false := rfl
@[simp] theorem isNoneD_tuple (l : List D) : isNoneD (.tuple l) = false := rfl
@[simp] theorem isNoneD_list (l : List D) : isNoneD (.list l) = false := rfl
@[simp] theorem isNoneD_str (l : Str) : isNoneD (.str l) = false := rfl
@[simp] theorem isNoneD_bool (l : Bool) : isNoneD (.bool l) = false := rfl
@[simp] theorem isiD_int (b : String) (i : Int) : isiD b (.int i) = some (.bool (subTy "int" b)) := rfl
@[simp] theorem isiD_str (b : String) (i : Str) : isiD b (.str i) = some (.bool (subTy "str" b)) := rfl
@[simp] theorem isiD_tuple (b : String) (i : List D) : isiD b (.tuple i) = some (.bool (subTy "tuple" b)) := rfl
@[simp] theorem isiD_list (b : String) (i : List D) : isiD b (.list i) = some (.bool (subTy "list" b)) := rfl
@[simp] theorem isiD_none (b : String) : isiD b .none = some (.bool (subTy "NoneType" b)) := rfl
@[simp] theorem isiD_bool (b : String) (i : Bool) : isiD b (.bool i) = some (.bool (subTy "bool" b)) := rfl
@[simp] theorem lenD_tuple (l : List D) : lenD [.tuple l] = some (.int l.length) := rfl
@[simp] theorem lenD_list (l : List D) : lenD [.list l] = some (.int l.length) := rfl
@[simp] theorem allD_list (bs : List Bool) : allD [.list (bs.map .bool)] = some (.bool (bs.all id)) := by simp [allD]
@[simp] theorem anyD_list (bs : List Bool) : anyD [.list (bs.map .bool)] = some (.bool (bs.any id)) := by simp [anyD]
@[simp] theorem intC_int (i : Int) : intC [.int i] = some (.int i) := rfl
@[simp] theorem intC_bool (b : Bool) : intC [.bool b] = some (.int (if b then 1 else 0)) := rfl
@[simp] theorem tupC_list (l : List D) : tupC [.list l] = some (.tuple l) := rfl
@[simp] theorem tupC_tuple (l : List D) : tupC [.tuple l] = some (.tuple l) := rfl
@[simp] theorem minD_int (i j : Int) : minD [.int i, .int j] = some (.int (if j < i then j else i)) := rfl
@[simp] theorem maxD_int (i j : Int) : maxD [.int i, .int j] = some (.int (if j > i then j else i)) := rfl
@[simp] theorem absD_int (i : Int) : absD [.int i] = some (.int (if i < 0 then -i else i)) := rfl
@[simp] theorem ite_le_sizeLine (n : Nat) : (n ≤ sizeLine) = (n ≤ 16777216) := by rw [sizeLine_eq]
/-! ### comprehensions and loops -/
theorem wipeR_get_in {ρ : Rho} {i : Nat} : ∀ {vs : List Nat}, i ∈ vs → i < ρ.length → (wipeR ρ vs)[i]? = some none
  | [], h, _ => by cases h
  | v :: vs, h, hl => by
    show ((wipeR ρ vs).set v none)[i]? = _
    by_cases z : v = i
    · subst z; exact List.getElem?_set_self (by rw [wipeR_len]; exact hl)
    · rw [List.getElem?_set_ne z]
      rcases List.mem_cons.mp h with e | h
      · exact absurd e.symm z
      · exact wipeR_get_in h hl
theorem putBack_get_in {ρ0 ρ : Rho} {i : Nat} : ∀ {vs : List Nat}, i ∈ vs → i < ρ.length → (putBack ρ0 ρ vs)[i]? = some ((ρ0[i]?).join)
  | [], h, _ => by cases h
  | v :: vs, h, hl => by
    show ((putBack ρ0 ρ vs).set v ((ρ0[v]?).join))[i]? = _
    by_cases z : v = i
    · subst z; exact List.getElem?_set_self (by rw [putBack_len]; exact hl)
    · rw [List.getElem?_set_ne z]
      rcases List.mem_cons.mp h with e | h
      · exact absurd e.symm z
      · exact putBack_get_in h hl
theorem putBack_eq {ρ0 ρ : Rho} {vs : List Nat} (h : wipeR ρ vs = wipeR ρ0 vs) : putBack ρ0 ρ vs = ρ0 := by
  have hl : ρ.length = ρ0.length := by rw [← wipeR_len ρ vs, h, wipeR_len]
  apply List.ext_getElem?
  intro i
  by_cases hi : i ∈ vs
  · by_cases hli : i < ρ.length
    · rw [putBack_get_in hi hli]
      rw [hl] at hli
      rw [List.getElem?_eq_getElem hli] <;> rfl
    · rw [List.getElem?_eq_none (by rw [putBack_len]; omega), List.getElem?_eq_none (by omega)]
  · rw [putBack_out hi, ← wipeR_get' hi, h, wipeR_get' hi]
theorem lcLoop_pure {α : Type} {vs : List Nat} {g : D → Rho → Option Rho} {tt : Rho → Out Rho Bool} {te : Rho → Out Rho D} {ρ0 : Rho} (f : α → D) (b : α → Bool) (h : α → D) (ρx : α → Rho) : ∀ (xs : List α) (acc : List D) (ρ : Rho), wipeR ρ vs = ρ0 → (∀ x ∈ xs, g (f x) ρ0 = some (ρx x) ∧ wipeR (ρx x) vs = ρ0 ∧ tt (ρx x) = .ok (b x) (ρx x) ∧ (b x = true → te (ρx x) = .ok (h x) (ρx x))) →
    acc.length + xs.length ≤ sizeLine → ∃ ρ', lcLoop vs g tt te (xs.map f) acc ρ = .ok (acc ++ (xs.filter b).map h) ρ' ∧ wipeR ρ' vs = ρ0
  | [], acc, ρ, hw, _, _ => ⟨ρ, by simp [lcLoop], hw⟩
  | x :: xs, acc, ρ, hw, hx, hl => by
    obtain ⟨h1, h2, h3, h4⟩ := hx x (List.mem_cons_self ..)
    have hx' : ∀ y ∈ xs, g (f y) ρ0 = some (ρx y) ∧ wipeR (ρx y) vs = ρ0 ∧ tt (ρx y) = .ok (b y) (ρx y) ∧ (b y = true → te (ρx y) = .ok (h y) (ρx y)) := fun y hy => hx y (List.mem_cons_of_mem _ hy)
    rw [List.length_cons] at hl
    simp only [List.map_cons, lcLoop, hw, h1, h3, bindN_ok]
    cases hb : b x with
    | true =>
      rw [if_pos rfl, h4 hb, bindN_ok, if_pos (by omega)]
      obtain ⟨ρ', e, w⟩ := lcLoop_pure f b h ρx xs (acc ++ [h x]) (ρx x) h2 hx' (by simp only [List.length_append, List.length_singleton]; omega)
      refine ⟨ρ', ?_, w⟩
      rw [e]
      simp [hb]
    | false =>
      rw [if_neg (by decide)]
      obtain ⟨ρ', e, w⟩ := lcLoop_pure f b h ρx xs acc (ρx x) h2 hx' (by omega)
      refine ⟨ρ', ?_, w⟩
      rw [e]
      simp [hb]
/-- a comprehension whose element changes nothing -/
theorem lcT_pure {α : Type} {vs : List Nat} {Ti : Rho → Out Rho (List D)} {g : D → Rho → Option Rho} {tt : Rho → Out Rho Bool} {te : Rho → Out Rho D} {ρ ρ1 : Rho} (xs : List α) (f : α → D) (b : α → Bool) (h : α → D) (ρx : α → Rho) (hi : Ti ρ = .ok (xs.map f) ρ1)
    (hx : ∀ x ∈ xs, g (f x) (wipeR ρ1 vs) = some (ρx x) ∧ wipeR (ρx x) vs = wipeR ρ1 vs ∧ tt (ρx x) = .ok (b x) (ρx x) ∧ (b x = true → te (ρx x) = .ok (h x) (ρx x))) (hl : xs.length ≤ sizeLine) : lcT vs Ti g tt te ρ = .ok (.list ((xs.filter b).map h)) ρ1 := by
  obtain ⟨ρ', e, w⟩ := lcLoop_pure (te := te) f b h ρx xs [] ρ1 rfl hx (by simpa using hl)
  unfold lcT
  rw [hi, bind_ok, e, bindN_ok, putBack_eq w]
  simp
/-- a comprehension whose turns change what they meet -/
theorem lcLoop_inv {α : Type} {vs : List Nat} {g : D → Rho → Option Rho} {tt : Rho → Out Rho Bool} {te : Rho → Out Rho D} (f : α → D) (I : List α → List D → Rho → Prop)
    (step : ∀ x xs acc ρ, I (x :: xs) acc ρ → ∃ ρ1, g (f x) (wipeR ρ vs) = some ρ1 ∧ ∃ c ρ2, tt ρ1 = .ok c ρ2 ∧ (c = true → ∃ y ρ3, te ρ2 = .ok y ρ3 ∧ acc.length < sizeLine ∧ I xs (acc ++ [y]) ρ3) ∧ (c = false → I xs acc ρ2)) :
    ∀ (xs : List α) (acc : List D) (ρ : Rho), I xs acc ρ → ∃ l ρ', lcLoop vs g tt te (xs.map f) acc ρ = .ok l ρ' ∧ I [] l ρ'
  | [], acc, ρ, h => ⟨acc, ρ, rfl, h⟩
  | x :: xs, acc, ρ, h => by
    obtain ⟨ρ1, h1, c, ρ2, h2, h3, h4⟩ := step x xs acc ρ h
    simp only [List.map_cons, lcLoop, h1, h2, bindN_ok]
    cases c with
    | true =>
      obtain ⟨y, ρ3, e, hl, i⟩ := h3 rfl
      rw [if_pos rfl, e, bindN_ok, if_pos hl]
      exact lcLoop_inv f I step xs _ _ i
    | false =>
      rw [if_neg (by decide)]
      exact lcLoop_inv f I step xs _ _ (h4 rfl)
/-- a for loop -/
theorem forT_inv {α : Type} {g : D → Rho → Option Rho} {tb : Rho → Out Rho Flw} (f : α → D) (I : List α → Rho → Prop) (B : Rho → Prop) (R : D → Rho → Prop)
    (step : ∀ x xs ρ, I (x :: xs) ρ → ∃ ρ1, g (f x) ρ = some ρ1 ∧ ((∃ ρ2, (tb ρ1 = .ok .nx ρ2 ∨ tb ρ1 = .ok .ct ρ2) ∧ I xs ρ2) ∨ (∃ ρ2, tb ρ1 = .ok .bk ρ2 ∧ B ρ2) ∨ ∃ d ρ2, tb ρ1 = .ok (.rt d) ρ2 ∧ R d ρ2)) :
    ∀ (xs : List α) (ρ : Rho), I xs ρ → (∃ ρ', forT g tb (xs.map f) ρ = .ok .nx ρ' ∧ (I [] ρ' ∨ B ρ')) ∨ ∃ d ρ', forT g tb (xs.map f) ρ = .ok (.rt d) ρ' ∧ R d ρ'
  | [], ρ, h => .inl ⟨ρ, rfl, .inl h⟩
  | x :: xs, ρ, h => by
    obtain ⟨ρ1, h1, h2⟩ := step x xs ρ h
    rw [List.map_cons, forT_cons, h1, rK_some]
    rcases h2 with ⟨ρ2, h2 | h2, i⟩ | ⟨ρ2, h2, hb⟩ | ⟨d, ρ2, h2, hr⟩
    · rw [h2, loopK_nx]; exact forT_inv f I B R step xs ρ2 i
    · rw [h2, loopK_ct]; exact forT_inv f I B R step xs ρ2 i
    · rw [h2, loopK_bk]; exact .inl ⟨ρ2, rfl, .inr hb⟩
    · rw [h2, loopK_rt]; exact .inr ⟨d, ρ2, rfl, hr⟩
/-- a while loop; m tells how many turns there are yet -/
theorem whT_inv {tc : Rho → Out Rho Bool} {tb : Rho → Out Rho Flw} (I : Nat → Rho → Prop) (Z : Rho → Prop) (R : D → Rho → Prop)
    (step : ∀ m ρ, I m ρ → ∃ c ρ1, tc ρ = .ok c ρ1 ∧ (c = false → Z ρ1) ∧ (c = true → (∃ ρ2 m', (tb ρ1 = .ok .nx ρ2 ∨ tb ρ1 = .ok .ct ρ2) ∧ m' < m ∧ I m' ρ2) ∨ (∃ ρ2, tb ρ1 = .ok .bk ρ2 ∧ Z ρ2) ∨ ∃ d ρ2, tb ρ1 = .ok (.rt d) ρ2 ∧ R d ρ2)) :
    ∀ (n m : Nat) (ρ : Rho), I m ρ → m < n → (∃ ρ', whT tc tb n ρ = .ok .nx ρ' ∧ Z ρ') ∨ ∃ d ρ', whT tc tb n ρ = .ok (.rt d) ρ' ∧ R d ρ'
  | 0, m, ρ, _, h => absurd h (Nat.not_lt_zero _)
  | n + 1, m, ρ, hI, hm => by
    obtain ⟨c, ρ1, h1, h2, h3⟩ := step m ρ hI
    unfold whT
    rw [h1, bind_ok]
    cases c with
    | false => rw [if_neg (by decide)]; exact .inl ⟨ρ1, rfl, h2 rfl⟩
    | true =>
      rw [if_pos rfl]
      rcases h3 rfl with ⟨ρ2, m', h | h, hl, i⟩ | ⟨ρ2, h, z⟩ | ⟨d, ρ2, h, r⟩
      · rw [h, loopK_nx]; exact whT_inv I Z R step n m' ρ2 i (by omega)
      · rw [h, loopK_ct]; exact whT_inv I Z R step n m' ρ2 i (by omega)
      · rw [h, loopK_bk]; exact .inl ⟨ρ2, rfl, z⟩
      · rw [h, loopK_rt]; exact .inr ⟨d, ρ2, rfl, r⟩
end Z

/-! file ZSimp2 -/
set_option Elab.async false
set_option linter.all false
set_option autoImplicit false
set_option maxRecDepth 100000
set_option maxHeartbeats 4000000
/-! how the readings of dicts reckon -/
namespace Z
open PySem PySem.Spec PyProof.Rows L2
@[simp] theorem negT_eq (T : Rho → Out Rho D) (ρ : Rho) : negT T ρ = (T ρ).bind fun d ρ1 => nK d fun i => .ok (.int (-i)) ρ1 := by
  unfold negT
  congr
@[simp] theorem dct0T_eq (ρ : Rho) : dct0T ρ = .ok (.dict []) ρ := rfl
/-- a key is asked -/
def kK {β : Type} (o : Option NestedKey) (k : NestedKey → Out Rho β) : Out Rho β := match o with
  | some x => k x
  | none => .bad
@[simp] theorem kK_some {β : Type} (x : NestedKey) (k : NestedKey → Out Rho β) : kK (some x) k = k x := rfl
@[simp] theorem dct1T_eq (Tk Tv : Rho → Out Rho D) (ρ : Rho) : dct1T Tk Tv ρ = (Tk ρ).bind fun kd ρ1 => (Tv ρ1).bind fun vd ρ2 => kK (okKey kd) fun _ => .ok (.dict [(kd, vd)]) ρ2 := by
  unfold dct1T
  congr
@[simp] theorem getO_eq (i : Nat) (Te Tx : Rho → Out Rho D) (ρ : Rho) : getO i Te Tx ρ = sK (getS i ρ) fun _ => (Te ρ).bind fun e ρ1 => (Tx ρ1).bind fun x ρ2 => dK (getS i ρ2) fun kvs => kK (okKey e) fun k => .ok ((dgetD kvs k).getD x) ρ2 := by
  unfold getO
  cases getS i ρ with
  | none => rfl
  | some d0 =>
    show (Te ρ).bind _ = (Te ρ).bind _
    congr
    funext e ρ1
    congr
    funext x ρ2
    cases getS i ρ2 with
    | none => rfl
    | some d => cases d <;> first | rfl | (cases okKey e <;> rfl)
@[simp] theorem stK_eq (i : Nat) (Tk Te : Rho → Out Rho D) (ρ : Rho) : stK i Tk Te ρ = (Te ρ).bind fun d ρ1 => sK (getS i ρ1) fun _ => (Tk ρ1).bind fun kd ρ2 => dK (getS i ρ2) fun kvs => kK (okKey kd) fun k => if kvs.length < sizeLine then .ok .nx (ρ2.set i (some (.dict (dputD kvs k kd d)))) else .bad := by
  unfold stK
  congr
  funext d ρ1
  cases getS i ρ1 with
  | none => rfl
  | some d0 =>
    show (Tk ρ1).bind _ = (Tk ρ1).bind _
    congr
    funext kd ρ2
    cases getS i ρ2 with
    | none => rfl
    | some d => cases d <;> first | rfl | (cases okKey kd <;> rfl)
@[simp] theorem ixKO_eq (i : Nat) (Tb : Rho → Out Rho D) (ρ : Rho) : ixKO i Tb ρ = sK (getS i ρ) fun _ => (Tb ρ).bind fun e ρ2 => dK (getS i ρ2) fun kvs => kK (okKey e) fun k => .of (dgetD kvs k) ρ2 := by
  unfold ixKO
  cases getS i ρ with
  | none => rfl
  | some d0 =>
    show (Tb ρ).bind _ = (Tb ρ).bind _
    congr
    funext e ρ2
    cases getS i ρ2 with
    | none => rfl
    | some d => cases d <;> first | rfl | (cases okKey e <;> rfl)
@[simp] theorem inKO_eq (i : Nat) (neg : Bool) (Tb : Rho → Out Rho D) (ρ : Rho) : inKO i neg Tb ρ = (Tb ρ).bind fun e ρ2 => dK (getS i ρ2) fun kvs => kK (okKey e) fun k => .ok (.bool (if neg = true then !(dgetD kvs k).isSome else (dgetD kvs k).isSome)) ρ2 := by
  unfold inKO
  congr
  funext e ρ2
  cases getS i ρ2 with
  | none => rfl
  | some d => cases d <;> first | rfl | (cases okKey e <;> rfl)
end Z

/-! file K66Walk -/
set_option Elab.async false
set_option linter.all false
set_option autoImplicit false
set_option maxRecDepth 100000
set_option maxHeartbeats 0
/-! the walk of bothreaders_k66_least_contents_relayed: printed by zgen.py -/
namespace K66
open PySem PySem.Spec PyProof.Rows L2 Z
variable [PgW]
def top (i : Nat) : Stmt := PySem.Challenge.pw_bothreaders_k66_least_contents_relayed.main.body.getD i (.Pass ⟨0, 0, 0, 0⟩)
/-- what the bodies lean on -/
structure Gk (K : PySem.W.Frag) (mg : Str → Option Value) : Prop where
  f_abs : mg "abs" = none
  f_all : mg "all" = none
  f_any : mg "any" = none
  f_bool : mg "bool" = none
  f_int : mg "int" = none
  f_isinstance : mg "isinstance" = none
  f_len : mg "len" = none
  f_list : mg "list" = none
  f_max : mg "max" = none
  f_min : mg "min" = none
  f_range : mg "range" = none
  f_sorted : mg "sorted" = none
  f_str : mg "str" = none
  f_sum : mg "sum" = none
  f_tuple : mg "tuple" = none
  f_zip : mg "zip" = none
  k_CHECK : Kon K mg "CHECK" (.str ("check" : Str))
  k_END : Kon K mg "END" (.str ("end" : Str))
  k_EVEN : Kon K mg "EVEN" (.tuple (List.replicate 2 (.tuple [])))
  k_GREATEST_BASE : Kon K mg "GREATEST_BASE" (.int 256)
  k_HIGH : Kon K mg "HIGH" (.str ("high" : Str))
  k_ONE : Kon K mg "ONE" (.str ("one" : Str))
  k_OTHERS : Kon K mg "OTHERS" (.tuple [.str ("skip" : Str), .str ("refuse" : Str)])
  k_OVER : Kon K mg "OVER" (.tuple [.str ("over" : Str)])
  k_ROOM : Kon K mg "ROOM" (.tuple [.str ("room" : Str)])
  k_SKIP : Kon K mg "SKIP" (.str ("skip" : Str))
  k_STOP : Kon K mg "STOP" (.str ("stop" : Str))
  k_TAG : Kon K mg "TAG" (.tuple [.str ("tag" : Str)])
  k_TOLD : Kon K mg "TOLD" (.tuple [.str ("keep" : Str), .str ("check" : Str)])
  k_USES : Kon K mg "USES" (.tuple [.str ("keep" : Str), .str ("check" : Str), .str ("skip" : Str), .str ("end" : Str), .str ("stop" : Str)])
  k_WIDTHS : Kon K mg "WIDTHS" (.tuple [.str ("one" : Str), .str ("high" : Str), .str ("low" : Str)])
/-! ### _law_bag -/
def N__law_bag : List Str := ["script", "at", "cell"]
theorem sc__law_bag : FnScope N__law_bag ["script", "at"] (defScope (top 70)) := ⟨rfl, rfl, rfl, by decide +kernel, rfl, by decide +kernel, by decide +kernel⟩
def T__law_bag : Rho → Out Rho Flw := sqT (asgT 2 (ifT (isB (binT ltD (varT 1) (callB lenD (consT (varT 0) (nilT))))) (binT idxD (varT 0) (varT 1)) (cT (.int 0)))) (retT (lstT (consT (callB maxD (consT (cT (.int 0)) (consT (binT subD (callB absD (consT (varT 2) (nilT))) (binT powD (cT (.int 10)) (cT (.int 18)))) (nilT)))) (consT (binT addD (binT addD (binT mulD (binT modD (callB intC (consT (varT 2) (nilT))) (binT addD (binT powD (cT (.int 10)) (cT (.int 37))) (cT (.int 163)))) (cT (.int 89))) (binT mulD (cT (.int 71)) (varT 1))) (cT (.int 53))) (consT (cT (.int 0)) (nilT))))))
def S__law_bag : List D → Out (List D) D := runF [] 3 T__law_bag
theorem z__law_bag {K : PySem.W.Frag} {mg : Str → Option Value} {base : Heap} (g : Gk K mg) (hF : ∃ fd, Fun K "_law_bag" "_law_bag" (top 70) (He.ga K "_law_bag") fd) (hm : mg "_law_bag" = some (.ref (He.ga K "_law_bag"))) : FnZ PgW.P PgW.w K mg base "_law_bag" 1 [none, none] (some .lst) S__law_bag := by
  obtain ⟨fd, F⟩ := hF
  refine FnZ.of F hm (ps := ["script", "at"]) (fun _ _ _ _ _ _ us hl => match us, hl with | [_, _], _ => rfl) ?_
  exact fnZ0 (k := 0) (rk := (some .lst)) (N := N__law_bag) (ps := ["script", "at"]) (O' := [none, none, none]) (T := T__law_bag) 2 F sc__law_bag rfl (fun cdv A outer s H E b => by
    have nd := sc__law_bag.nd
    exact bx_cons (O1 := [none, none, none]) (sx_set 2 nd (ex_if (tx_cmp (op_ltZ b.hu) (sem_rD ordD_flat) (ex_var 1) (ex_callB call_lenZ (sem_rDN lenD_flat) g.f_len rfl (ax_cons (ex_var 0) (ax_nil))) (nomark _)) (ex_ix (ex_var 0) (ex_var 1)) (ex_int)) (exOf_no (exOf_no (exOf_nil))))
      (bx_one (sx_retF (fx_lst (ax_cons (ex_callB (call_maxZ b.calm) (sem_rDN maxD_flat) g.f_max rfl (ax_cons (ex_int) (ax_cons (ex_op op_subZ (sem_rD intD_flat) (ex_callB call_absZ (sem_rDN absD_flat) g.f_abs rfl (ax_cons (ex_var 2) (ax_nil))) (ex_op op_powZ (sem_rD intD_flat) (ex_int) (ex_int))) (ax_nil)))) (ax_cons (ex_op op_addZ (sem_add) (ex_op op_addZ (sem_add) (ex_op op_mulZ (sem_rD intD_flat) (ex_op op_modZ (sem_rD intD_flat) (ex_callTy call_intZ (sem_rDN intC_flat) g.f_int rfl (ax_cons (ex_var 2) (ax_nil))) (ex_op op_addZ (sem_add) (ex_op op_powZ (sem_rD intD_flat) (ex_int) (ex_int)) (ex_int))) (ex_int)) (ex_op op_mulZ (sem_rD intD_flat) (ex_int) (ex_var 1))) (ex_int)) (ax_cons (ex_int) (ax_nil))))) (exOf_no (exOf_no (exOf_nil)))))) (.inr (noNx_sq (noNx_ret)))
/-! ### _law_grab -/
def N__law_grab : List Str := ["bag", "below", "digit", "mix"]
theorem sc__law_grab : FnScope N__law_grab ["bag", "below"] (defScope (top 71)) := ⟨rfl, rfl, rfl, by decide +kernel, rfl, by decide +kernel, by decide +kernel⟩
def T__law_grab : Rho → Out Rho Flw := sqT (ifT (isB (binT gtD (binO 0 idxD (cT (.int 0))) (cT (.int 0)))) (sqT (asgT 2 (binT modD (callB intC (consT (binO 0 idxD (cT (.int 0))) (nilT))) (varT 1))) (sqT (stT 0 (cT (.int 0)) (binT fdivD (binO 0 idxD (cT (.int 0))) (varT 1))) (retT (varT 2)))) (nxT)) (sqT (stT 0 (cT (.int 2)) (binT addD (binO 0 idxD (cT (.int 2))) (cT (.int 1)))) (sqT (asgT 3 (binT modD (binT powD (callB intC (consT (binT addD (binO 0 idxD (cT (.int 1))) (binT mulD (cT (.int 90019)) (binO 0 idxD (cT (.int 2))))) (nilT))) (cT (.int 2))) (binT addD (binT powD (cT (.int 10)) (cT (.int 38))) (cT (.int 271))))) (sqT (asgT 3 (binT modD (binT powD (callB intC (consT (binT addD (varT 3) (binT mulD (cT (.int 1900037)) (binO 0 idxD (cT (.int 2))))) (nilT))) (cT (.int 3))) (binT addD (binT powD (cT (.int 10)) (cT (.int 39))) (cT (.int 331))))) (retT (binT modD (binT fdivD (varT 3) (cT (.int 8192))) (varT 1))))))
def S__law_grab : List D → Out (List D) D := runF [0] 4 T__law_grab
theorem z__law_grab {K : PySem.W.Frag} {mg : Str → Option Value} {base : Heap} (g : Gk K mg) (hF : ∃ fd, Fun K "_law_grab" "_law_grab" (top 71) (He.ga K "_law_grab") fd) (hm : mg "_law_grab" = some (.ref (He.ga K "_law_grab"))) : FnZ PgW.P PgW.w K mg base "_law_grab" 1 [some .lst, none] none S__law_grab := by
  obtain ⟨fd, F⟩ := hF
  refine FnZ.of F hm (ps := ["bag", "below"]) (fun _ _ _ _ _ _ us hl => match us, hl with | [_, _], _ => rfl) ?_
  exact fnZ1 (k := 0) (rk := none) (N := N__law_grab) (ps := ["bag", "below"]) (O' := [some .lst, none, none, none]) (T := T__law_grab) .lst 1 F sc__law_grab rfl (fun cdv A outer s H E a b => by
    have nd := sc__law_grab.nd
    exact bx_cons (O1 := [some .lst, none, none, none]) (sx_if (O' := [some .lst, none, none, none]) (tx_cmp (op_gtZ b.hu) (sem_rD ordD_flat) (ex_ixO 0 (ex_int)) (ex_int) (nomark _)) (bx_cons (O1 := [some .lst, none, none, none]) (sx_set 2 nd (ex_op op_modZ (sem_rD intD_flat) (ex_callTy call_intZ (sem_rDN intC_flat) g.f_int rfl (ax_cons (ex_ixO 0 (ex_int)) (ax_nil))) (ex_var 1)) (exOf_yes (exOf_no (exOf_nil))))
      (bx_cons (O1 := [some .lst, none, none, none]) (sx_store 0 (ex_int) (ex_op op_fdivZ (sem_rD intD_flat) (ex_ixO 0 (ex_int)) (ex_var 1)) (exOf_yes (exOf_no (exOf_nil))))
      (bx_one (sx_ret (ex_var 2) (exOf_yes (exOf_no (exOf_nil))))))) (bx_nil) (exOf_yes (exOf_no (exOf_nil))))
      (bx_cons (O1 := [some .lst, none, none, none]) (sx_store 0 (ex_int) (ex_op op_addZ (sem_add) (ex_ixO 0 (ex_int)) (ex_int)) (exOf_yes (exOf_no (exOf_nil))))
      (bx_cons (O1 := [some .lst, none, none, none]) (sx_set 3 nd (ex_op op_modZ (sem_rD intD_flat) (ex_op op_powZ (sem_rD intD_flat) (ex_callTy call_intZ (sem_rDN intC_flat) g.f_int rfl (ax_cons (ex_op op_addZ (sem_add) (ex_ixO 0 (ex_int)) (ex_op op_mulZ (sem_rD intD_flat) (ex_int) (ex_ixO 0 (ex_int)))) (ax_nil))) (ex_int)) (ex_op op_addZ (sem_add) (ex_op op_powZ (sem_rD intD_flat) (ex_int) (ex_int)) (ex_int))) (exOf_yes (exOf_no (exOf_nil))))
      (bx_cons (O1 := [some .lst, none, none, none]) (sx_set 3 nd (ex_op op_modZ (sem_rD intD_flat) (ex_op op_powZ (sem_rD intD_flat) (ex_callTy call_intZ (sem_rDN intC_flat) g.f_int rfl (ax_cons (ex_op op_addZ (sem_add) (ex_var 3) (ex_op op_mulZ (sem_rD intD_flat) (ex_int) (ex_ixO 0 (ex_int)))) (ax_nil))) (ex_int)) (ex_op op_addZ (sem_add) (ex_op op_powZ (sem_rD intD_flat) (ex_int) (ex_int)) (ex_int))) (exOf_yes (exOf_no (exOf_nil))))
      (bx_one (sx_ret (ex_op op_modZ (sem_rD intD_flat) (ex_op op_fdivZ (sem_rD intD_flat) (ex_var 3) (ex_int)) (ex_var 1)) (exOf_yes (exOf_no (exOf_nil))))))))) (.inl rfl) (exOf_yes (exOf_no (exOf_nil)))
/-! ### _law_drawn_tags -/
def N__law_drawn_tags : List Str := ["bag", "base", "many_here", "kinds_here", "found", "sign"]
theorem sc__law_drawn_tags : FnScope N__law_drawn_tags ["bag", "base", "many_here"] (defScope (top 72)) := ⟨rfl, rfl, rfl, by decide +kernel, rfl, by decide +kernel, by decide +kernel⟩
def T__law_drawn_tags : Rho → Out Rho Flw := sqT (par2T 3 4 (consT (lstT (consT (cT (.str ("keep" : Str))) (consT (cT (.str ("check" : Str))) (consT (cT (.str ("skip" : Str))) (consT (cT (.str ("end" : Str))) (consT (cT (.str ("stop" : Str))) (consT (cT (.str ("keep" : Str))) (consT (cT (.str ("skip" : Str))) (nilT))))))))) (consT (lstT (nilT)) (nilT)))) (sqT (forS (rngT rng1D (consT (varT 1) (nilT))) (setG 5) (ifT (andT (isB (binT ltD (callO 4 lenD) (varT 2))) (isB (binT ltD (callT [some 0, none] S__law_grab (ownT 0 (consT (varT 1) (nilT)))) (varT 2)))) (appT 4 (tupT (consT (varT 5) (consT (binT idxD (varT 3) (callT [some 0, none] S__law_grab (ownT 0 (consT (cT (.int 7)) (nilT))))) (nilT))))) (nxT))) (retT (callO 4 tupC)))
def S__law_drawn_tags : List D → Out (List D) D := runF [0] 6 T__law_drawn_tags
theorem z__law_drawn_tags {K : PySem.W.Frag} {mg : Str → Option Value} {base : Heap} (g : Gk K mg) (z__law_grab : FnZ PgW.P PgW.w K mg base "_law_grab" 1 [some .lst, none] none S__law_grab) (hF : ∃ fd, Fun K "_law_drawn_tags" "_law_drawn_tags" (top 72) (He.ga K "_law_drawn_tags") fd) (hm : mg "_law_drawn_tags" = some (.ref (He.ga K "_law_drawn_tags"))) : FnZ PgW.P PgW.w K mg base "_law_drawn_tags" 2 [some .lst, none, none] none S__law_drawn_tags := by
  obtain ⟨fd, F⟩ := hF
  refine FnZ.of F hm (ps := ["bag", "base", "many_here"]) (fun _ _ _ _ _ _ us hl => match us, hl with | [_, _, _], _ => rfl) ?_
  exact fnZ1 (k := 1) (rk := none) (N := N__law_drawn_tags) (ps := ["bag", "base", "many_here"]) (O' := [some .lst, none, none, none, some .lst, none]) (T := T__law_drawn_tags) .lst 2 F sc__law_drawn_tags rfl (fun cdv A outer s H E a b => by
    have nd := sc__law_drawn_tags.nd
    exact bx_cons (O1 := [some .lst, none, none, none, some .lst, none]) (sx_par2 3 4 (k := none) (l := (some .lst)) b.calm nd (af_cons (ex_of_fx (fx_lst (ax_cons (ex_str) (ax_cons (ex_str) (ax_cons (ex_str) (ax_cons (ex_str) (ax_cons (ex_str) (ax_cons (ex_str) (ax_cons (ex_str) (ax_nil)))))))))) (af_new (fx_lst (ax_nil)) (af_nil))) (exOf_yes (exOf_no (exOf_no (exOf_nil)))) (by rfl))
      (bx_cons (O1 := [some .lst, none, none, none, some .lst, none]) (sx_for b.own b.calm (ix_rng1 g.f_range (ax_cons (ex_var 1) (ax_nil))) (gx_name 5 nd) (bx_one (sx_if (O' := [some .lst, none, none, none, some .lst, none]) (tx_pw (wx_and (tx_cmp (op_ltZ b.hu) (sem_rD ordD_flat) (ex_callO 4 call_lenZ (own_rDN lenD_flat) g.f_len rfl (ax_own1 4)) (ex_var 2) (nomark _)) (wx_and1 (tx_cmp (op_ltZ b.hu) (sem_rD ordD_flat) (ex_fn z__law_grab (b.room.mono (by decide)) b.tk (aj_own 0 (aj_cons (ex_var 1) (aj_nil)))) (ex_var 2) (nomark _))))) (bx_one (sx_append 4 (ex_tup (ax_cons (ex_var 5) (ax_cons (ex_ix (ex_var 3) (ex_fn z__law_grab (b.room.mono (by decide)) b.tk (aj_own 0 (aj_cons (ex_int) (aj_nil))))) (ax_nil)))) (exOf_yes (exOf_no (exOf_no (exOf_nil)))))) (bx_nil) (exOf_yes (exOf_no (exOf_no (exOf_nil)))))) (exOf_yes (exOf_no (exOf_no (exOf_nil)))))
      (bx_one (sx_ret (ex_callTyO 4 call_tuple_of own_tupC g.f_tuple rfl (ax_own1 4)) (exOf_yes (exOf_no (exOf_no (exOf_nil)))))))) (.inl rfl) (exOf_yes (exOf_no (exOf_no (exOf_nil))))
/-! ### _law_drawn_form -/
def N__law_drawn_form : List Str := ["bag", "base", "marks_here", "most_here", "many_here", "many_marks", "head_here", "wide", "top", "rows", "k"]
theorem sc__law_drawn_form : FnScope N__law_drawn_form ["bag", "base", "marks_here", "most_here", "many_here"] (defScope (top 73)) := ⟨rfl, rfl, rfl, by decide +kernel, rfl, by decide +kernel, by decide +kernel⟩
def T__law_drawn_form : Rho → Out Rho Flw := sqT (asgT 5 (callT [some 0, none] S__law_grab (ownT 0 (consT (binT addD (varT 2) (cT (.int 1))) (nilT))))) (sqT (asgT 6 (lcT [10] (rngT rng1D (consT (varT 5) (nilT))) (setG 10) (yesT) (ifT (isB (binT eqD (callT [some 0, none] S__law_grab (ownT 0 (consT (cT (.int 3)) (nilT)))) (cT (.int 0)))) (cT .none) (callT [some 0, none] S__law_grab (ownT 0 (consT (varT 1) (nilT))))))) (sqT (asgT 7 (binT idxD (lstT (consT (cT (.str ("one" : Str))) (consT (cT (.str ("one" : Str))) (consT (cT (.str ("high" : Str))) (consT (cT (.str ("low" : Str))) (nilT)))))) (callT [some 0, none] S__law_grab (ownT 0 (consT (cT (.int 4)) (nilT)))))) (sqT (asgT 8 (callT [some 0, none] S__law_grab (ownT 0 (consT (binT addD (varT 3) (cT (.int 1))) (nilT))))) (sqT (asgT 9 (callT [some 0, none, none] S__law_drawn_tags (ownT 0 (consT (varT 1) (consT (callT [some 0, none] S__law_grab (ownT 0 (consT (binT addD (varT 4) (cT (.int 1))) (nilT)))) (nilT)))))) (retT (tupT (consT (varT 1) (consT (callO 6 tupC) (consT (varT 7) (consT (varT 8) (consT (varT 9) (consT (binT idxD (lstT (consT (cT (.str ("skip" : Str))) (consT (cT (.str ("refuse" : Str))) (nilT)))) (callT [some 0, none] S__law_grab (ownT 0 (consT (cT (.int 2)) (nilT))))) (nilT)))))))))))))
def S__law_drawn_form : List D → Out (List D) D := runF [0] 11 T__law_drawn_form
theorem z__law_drawn_form {K : PySem.W.Frag} {mg : Str → Option Value} {base : Heap} (g : Gk K mg) (z__law_drawn_tags : FnZ PgW.P PgW.w K mg base "_law_drawn_tags" 2 [some .lst, none, none] none S__law_drawn_tags) (z__law_grab : FnZ PgW.P PgW.w K mg base "_law_grab" 1 [some .lst, none] none S__law_grab) (hF : ∃ fd, Fun K "_law_drawn_form" "_law_drawn_form" (top 73) (He.ga K "_law_drawn_form") fd) (hm : mg "_law_drawn_form" = some (.ref (He.ga K "_law_drawn_form"))) : FnZ PgW.P PgW.w K mg base "_law_drawn_form" 3 [some .lst, none, none, none, none] none S__law_drawn_form := by
  obtain ⟨fd, F⟩ := hF
  refine FnZ.of F hm (ps := ["bag", "base", "marks_here", "most_here", "many_here"]) (fun _ _ _ _ _ _ us hl => match us, hl with | [_, _, _, _, _], _ => rfl) ?_
  exact fnZ1 (k := 2) (rk := none) (N := N__law_drawn_form) (ps := ["bag", "base", "marks_here", "most_here", "many_here"]) (O' := [some .lst, none, none, none, none, none, some .lst, none, none, none, none]) (T := T__law_drawn_form) .lst 4 F sc__law_drawn_form rfl (fun cdv A outer s H E a b => by
    have nd := sc__law_drawn_form.nd
    exact bx_cons (O1 := [some .lst, none, none, none, none, none, none, none, none, none, none]) (sx_set 5 nd (ex_fn z__law_grab (b.room.mono (by decide)) b.tk (aj_own 0 (aj_cons (ex_op op_addZ (sem_add) (ex_var 2) (ex_int)) (aj_nil)))) (exOf_yes (exOf_no (exOf_no (exOf_no (exOf_no (exOf_nil)))))))
      (bx_cons (O1 := [some .lst, none, none, none, none, none, some .lst, none, none, none, none]) (sx_lc 6 (own := [("k", 10)]) b.calm nd (exOf_yes (exOf_no (exOf_no (exOf_no (exOf_no (exOf_nil)))))) (ix_rng1 g.f_range (ax_cons (ex_var 5) (ax_nil))) (blkOk_of (by kernel_rfl)) (none_cons rfl (fun _ h => nomatch h)) (fun _ _ _ _ _ => gx_name 10 nd) (fun _ _ _ _ _ => txs_nil) (fun _ _ _ _ _ => ex_if (tx_cmp (op_eqZ (by exact b.hu)) (sem_rD eqD_flat) (ex_fn z__law_grab (by exact b.room.mono (by decide)) takes0 (aj_own 0 (aj_cons (ex_int) (aj_nil)))) (ex_int) (nomark _)) (ex_non) (ex_fn z__law_grab (by exact b.room.mono (by decide)) takes0 (aj_own 0 (aj_cons (ex_var 1) (aj_nil))))))
      (bx_cons (O1 := [some .lst, none, none, none, none, none, some .lst, none, none, none, none]) (sx_set 7 nd (ex_ix (ex_of_fx (fx_lst (ax_cons (ex_str) (ax_cons (ex_str) (ax_cons (ex_str) (ax_cons (ex_str) (ax_nil))))))) (ex_fn z__law_grab (b.room.mono (by decide)) b.tk (aj_own 0 (aj_cons (ex_int) (aj_nil))))) (exOf_yes (exOf_no (exOf_no (exOf_no (exOf_no (exOf_nil)))))))
      (bx_cons (O1 := [some .lst, none, none, none, none, none, some .lst, none, none, none, none]) (sx_set 8 nd (ex_fn z__law_grab (b.room.mono (by decide)) b.tk (aj_own 0 (aj_cons (ex_op op_addZ (sem_add) (ex_var 3) (ex_int)) (aj_nil)))) (exOf_yes (exOf_no (exOf_no (exOf_no (exOf_no (exOf_nil)))))))
      (bx_cons (O1 := [some .lst, none, none, none, none, none, some .lst, none, none, none, none]) (sx_set 9 nd (ex_fn z__law_drawn_tags (b.room.mono (by decide)) b.tk (aj_own 0 (aj_cons (ex_var 1) (aj_cons (ex_fn z__law_grab (b.room.mono (by decide)) b.tk (aj_own 0 (aj_cons (ex_op op_addZ (sem_add) (ex_var 4) (ex_int)) (aj_nil)))) (aj_nil))))) (exOf_yes (exOf_no (exOf_no (exOf_no (exOf_no (exOf_nil)))))))
      (bx_one (sx_ret (ex_tup (ax_cons (ex_var 1) (ax_cons (ex_callTyO 6 call_tuple_of own_tupC g.f_tuple rfl (ax_own1 6)) (ax_cons (ex_var 7) (ax_cons (ex_var 8) (ax_cons (ex_var 9) (ax_cons (ex_ix (ex_of_fx (fx_lst (ax_cons (ex_str) (ax_cons (ex_str) (ax_nil))))) (ex_fn z__law_grab (b.room.mono (by decide)) b.tk (aj_own 0 (aj_cons (ex_int) (aj_nil))))) (ax_nil)))))))) (exOf_yes (exOf_no (exOf_no (exOf_no (exOf_no (exOf_nil))))))))))))) (.inl rfl) (exOf_yes (exOf_no (exOf_no (exOf_no (exOf_no (exOf_nil))))))
/-! ### _law_near_form -/
def N__law_near_form : List Str := ["bag", "form_here", "base", "head_here", "wide", "top", "rows", "rest", "turn", "way", "k", "mark", "uses_here", "row"]
theorem sc__law_near_form : FnScope N__law_near_form ["bag", "form_here"] (defScope (top 78)) := ⟨rfl, rfl, rfl, by decide +kernel, rfl, by decide +kernel, by decide +kernel⟩
def T__law_near_form : Rho → Out Rho Flw := sqT (tgtT (tupG 6 (consG (setG 2) (consG (setG 3) (consG (setG 4) (consG (setG 5) (consG (setG 6) (consG (setG 7) (nilG)))))))) (varT 1)) (sqT (forS (rngT rng1D (consT (binT addD (cT (.int 1)) (callT [some 0, none] S__law_grab (ownT 0 (consT (cT (.int 2)) (nilT))))) (nilT))) (setG 8) (sqT (asgT 9 (callT [some 0, none] S__law_grab (ownT 0 (consT (cT (.int 8)) (nilT))))) (ifT (andT (isB (binT eqD (varT 9) (cT (.int 0)))) (isB (binT neD (varT 3) (tupT (nilT))))) (sqT (par2T 10 11 (consT (callT [some 0, none] S__law_grab (ownT 0 (consT (callB lenD (consT (varT 3) (nilT))) (nilT)))) (consT (binT idxD (lstT (consT (cT .none) (consT (callT [some 0, none] S__law_grab (ownT 0 (consT (varT 2) (nilT)))) (nilT)))) (callT [some 0, none] S__law_grab (ownT 0 (consT (cT (.int 2)) (nilT))))) (nilT)))) (asgT 3 (binT addD (binT addD (slcT (varT 3) (noP) (someP (varT 10))) (tupT (consT (varT 11) (nilT)))) (slcT (varT 3) (someP (binT addD (varT 10) (cT (.int 1)))) (noP))))) (ifT (isB (binT eqD (varT 9) (cT (.int 1)))) (asgT 4 (binT idxD (lstT (consT (cT (.str ("one" : Str))) (consT (cT (.str ("high" : Str))) (consT (cT (.str ("low" : Str))) (nilT))))) (callT [some 0, none] S__law_grab (ownT 0 (consT (cT (.int 3)) (nilT)))))) (ifT (isB (binT eqD (varT 9) (cT (.int 2)))) (asgT 5 (callB maxD (consT (cT (.int 0)) (consT (callB minD (consT (cT (.int 5)) (consT (binT subD (binT addD (varT 5) (callT [some 0, none] S__law_grab (ownT 0 (consT (cT (.int 3)) (nilT))))) (cT (.int 1))) (nilT)))) (nilT))))) (ifT (isB (binT eqD (varT 9) (cT (.int 3)))) (asgT 7 (binT idxD (lstT (consT (cT (.str ("skip" : Str))) (consT (cT (.str ("refuse" : Str))) (nilT)))) (callT [some 0, none] S__law_grab (ownT 0 (consT (cT (.int 2)) (nilT)))))) (ifT (isB (binT eqD (varT 9) (cT (.int 4)))) (asgT 6 (callT [some 0, none, none] S__law_drawn_tags (ownT 0 (consT (varT 2) (consT (callT [some 0, none] S__law_grab (ownT 0 (consT (binT addD (callB lenD (consT (varT 6) (nilT))) (cT (.int 2))) (nilT)))) (nilT)))))) (ifT (isB (binT neD (varT 6) (tupT (nilT)))) (sqT (par2T 10 12 (consT (callT [some 0, none] S__law_grab (ownT 0 (consT (callB lenD (consT (varT 6) (nilT))) (nilT)))) (consT (lstT (consT (cT (.str ("keep" : Str))) (consT (cT (.str ("check" : Str))) (consT (cT (.str ("skip" : Str))) (consT (cT (.str ("end" : Str))) (consT (cT (.str ("stop" : Str))) (nilT))))))) (nilT)))) (sqT (asgT 13 (tupT (consT (tupT (consT (binT idxD (binT idxD (varT 6) (varT 10)) (cT (.int 0))) (consT (binT idxD (varT 12) (callT [some 0, none] S__law_grab (ownT 0 (consT (cT (.int 5)) (nilT))))) (nilT)))) (nilT)))) (asgT 6 (binT addD (binT addD (slcT (varT 6) (noP) (someP (varT 10))) (ifT (isB (binT ltD (varT 9) (cT (.int 7)))) (varT 13) (tupT (nilT)))) (slcT (varT 6) (someP (binT addD (varT 10) (cT (.int 1)))) (noP)))))) (nxT))))))))) (retT (tupT (consT (varT 2) (consT (varT 3) (consT (varT 4) (consT (varT 5) (consT (varT 6) (consT (varT 7) (nilT))))))))))
def S__law_near_form : List D → Out (List D) D := runF [0] 14 T__law_near_form
theorem z__law_near_form {K : PySem.W.Frag} {mg : Str → Option Value} {base : Heap} (g : Gk K mg) (z__law_drawn_tags : FnZ PgW.P PgW.w K mg base "_law_drawn_tags" 2 [some .lst, none, none] none S__law_drawn_tags) (z__law_grab : FnZ PgW.P PgW.w K mg base "_law_grab" 1 [some .lst, none] none S__law_grab) (hF : ∃ fd, Fun K "_law_near_form" "_law_near_form" (top 78) (He.ga K "_law_near_form") fd) (hm : mg "_law_near_form" = some (.ref (He.ga K "_law_near_form"))) : FnZ PgW.P PgW.w K mg base "_law_near_form" 3 [some .lst, none] none S__law_near_form := by
  obtain ⟨fd, F⟩ := hF
  refine FnZ.of F hm (ps := ["bag", "form_here"]) (fun _ _ _ _ _ _ us hl => match us, hl with | [_, _], _ => rfl) ?_
  exact fnZ1 (k := 2) (rk := none) (N := N__law_near_form) (ps := ["bag", "form_here"]) (O' := [some .lst, none, none, none, none, none, none, none, none, none, none, none, none, none]) (T := T__law_near_form) .lst 1 F sc__law_near_form rfl (fun cdv A outer s H E a b => by
    have nd := sc__law_near_form.nd
    exact bx_cons (O1 := [some .lst, none, none, none, none, none, none, none, none, none, none, none, none, none]) (sx_tgt (ex_var 1) (gx_tup b.calm (gxs_cons (gx_name 2 nd) (gxs_cons (gx_name 3 nd) (gxs_cons (gx_name 4 nd) (gxs_cons (gx_name 5 nd) (gxs_cons (gx_name 6 nd) (gxs_cons (gx_name 7 nd) (gxs_nil)))))))) (exOf_yes (exOf_no (exOf_nil))))
      (bx_cons (O1 := [some .lst, none, none, none, none, none, none, none, none, none, none, none, none, none]) (sx_for b.own b.calm (ix_rng1 g.f_range (ax_cons (ex_op op_addZ (sem_add) (ex_int) (ex_fn z__law_grab (b.room.mono (by decide)) b.tk (aj_own 0 (aj_cons (ex_int) (aj_nil))))) (ax_nil))) (gx_name 8 nd) (bx_cons (O1 := [some .lst, none, none, none, none, none, none, none, none, none, none, none, none, none]) (sx_set 9 nd (ex_fn z__law_grab (b.room.mono (by decide)) b.tk (aj_own 0 (aj_cons (ex_int) (aj_nil)))) (exOf_yes (exOf_no (exOf_nil))))
      (bx_one (sx_if (O' := [some .lst, none, none, none, none, none, none, none, none, none, none, none, none, none]) (tx_pw (wx_and (tx_cmp (op_eqZ b.hu) (sem_rD eqD_flat) (ex_var 9) (ex_int) (nomark _)) (wx_and1 (tx_cmp (op_neZ b.hu) (sem_rD neD_flat) (ex_var 3) (ex_tup (ax_nil)) (nomark _))))) (bx_cons (O1 := [some .lst, none, none, none, none, none, none, none, none, none, none, none, none, none]) (sx_par2 10 11 (k := none) (l := none) b.calm nd (af_cons (ex_fn z__law_grab (b.room.mono (by decide)) b.tk (aj_own 0 (aj_cons (ex_callB call_lenZ (sem_rDN lenD_flat) g.f_len rfl (ax_cons (ex_var 3) (ax_nil))) (aj_nil)))) (af_cons (ex_ix (ex_of_fx (fx_lst (ax_cons (ex_non) (ax_cons (ex_fn z__law_grab (b.room.mono (by decide)) b.tk (aj_own 0 (aj_cons (ex_var 2) (aj_nil)))) (ax_nil))))) (ex_fn z__law_grab (b.room.mono (by decide)) b.tk (aj_own 0 (aj_cons (ex_int) (aj_nil))))) (af_nil))) (exOf_yes (exOf_no (exOf_nil))) (by rfl))
      (bx_one (sx_set 3 nd (ex_op op_addZ (sem_add) (ex_op op_addZ (sem_add) (ex_slice (ex_var 3) (px_none) (px_some (ex_var 10))) (ex_tup (ax_cons (ex_var 11) (ax_nil)))) (ex_slice (ex_var 3) (px_some (ex_op op_addZ (sem_add) (ex_var 10) (ex_int))) (px_none))) (exOf_yes (exOf_no (exOf_nil)))))) (bx_one (sx_if (O' := [some .lst, none, none, none, none, none, none, none, none, none, none, none, none, none]) (tx_cmp (op_eqZ b.hu) (sem_rD eqD_flat) (ex_var 9) (ex_int) (nomark _)) (bx_one (sx_set 4 nd (ex_ix (ex_of_fx (fx_lst (ax_cons (ex_str) (ax_cons (ex_str) (ax_cons (ex_str) (ax_nil)))))) (ex_fn z__law_grab (b.room.mono (by decide)) b.tk (aj_own 0 (aj_cons (ex_int) (aj_nil))))) (exOf_yes (exOf_no (exOf_nil))))) (bx_one (sx_if (O' := [some .lst, none, none, none, none, none, none, none, none, none, none, none, none, none]) (tx_cmp (op_eqZ b.hu) (sem_rD eqD_flat) (ex_var 9) (ex_int) (nomark _)) (bx_one (sx_set 5 nd (ex_callB (call_maxZ b.calm) (sem_rDN maxD_flat) g.f_max rfl (ax_cons (ex_int) (ax_cons (ex_callB (call_minZ b.calm) (sem_rDN minD_flat) g.f_min rfl (ax_cons (ex_int) (ax_cons (ex_op op_subZ (sem_rD intD_flat) (ex_op op_addZ (sem_add) (ex_var 5) (ex_fn z__law_grab (b.room.mono (by decide)) b.tk (aj_own 0 (aj_cons (ex_int) (aj_nil))))) (ex_int)) (ax_nil)))) (ax_nil)))) (exOf_yes (exOf_no (exOf_nil))))) (bx_one (sx_if (O' := [some .lst, none, none, none, none, none, none, none, none, none, none, none, none, none]) (tx_cmp (op_eqZ b.hu) (sem_rD eqD_flat) (ex_var 9) (ex_int) (nomark _)) (bx_one (sx_set 7 nd (ex_ix (ex_of_fx (fx_lst (ax_cons (ex_str) (ax_cons (ex_str) (ax_nil))))) (ex_fn z__law_grab (b.room.mono (by decide)) b.tk (aj_own 0 (aj_cons (ex_int) (aj_nil))))) (exOf_yes (exOf_no (exOf_nil))))) (bx_one (sx_if (O' := [some .lst, none, none, none, none, none, none, none, none, none, none, none, none, none]) (tx_cmp (op_eqZ b.hu) (sem_rD eqD_flat) (ex_var 9) (ex_int) (nomark _)) (bx_one (sx_set 6 nd (ex_fn z__law_drawn_tags (b.room.mono (by decide)) b.tk (aj_own 0 (aj_cons (ex_var 2) (aj_cons (ex_fn z__law_grab (b.room.mono (by decide)) b.tk (aj_own 0 (aj_cons (ex_op op_addZ (sem_add) (ex_callB call_lenZ (sem_rDN lenD_flat) g.f_len rfl (ax_cons (ex_var 6) (ax_nil))) (ex_int)) (aj_nil)))) (aj_nil))))) (exOf_yes (exOf_no (exOf_nil))))) (bx_one (sx_if (O' := [some .lst, none, none, none, none, none, none, none, none, none, none, none, none, none]) (tx_cmp (op_neZ b.hu) (sem_rD neD_flat) (ex_var 6) (ex_tup (ax_nil)) (nomark _)) (bx_cons (O1 := [some .lst, none, none, none, none, none, none, none, none, none, none, none, none, none]) (sx_par2 10 12 (k := none) (l := none) b.calm nd (af_cons (ex_fn z__law_grab (b.room.mono (by decide)) b.tk (aj_own 0 (aj_cons (ex_callB call_lenZ (sem_rDN lenD_flat) g.f_len rfl (ax_cons (ex_var 6) (ax_nil))) (aj_nil)))) (af_cons (ex_of_fx (fx_lst (ax_cons (ex_str) (ax_cons (ex_str) (ax_cons (ex_str) (ax_cons (ex_str) (ax_cons (ex_str) (ax_nil)))))))) (af_nil))) (exOf_yes (exOf_no (exOf_nil))) (by rfl))
      (bx_cons (O1 := [some .lst, none, none, none, none, none, none, none, none, none, none, none, none, none]) (sx_set 13 nd (ex_tup (ax_cons (ex_tup (ax_cons (ex_ix (ex_ix (ex_var 6) (ex_var 10)) (ex_int)) (ax_cons (ex_ix (ex_var 12) (ex_fn z__law_grab (b.room.mono (by decide)) b.tk (aj_own 0 (aj_cons (ex_int) (aj_nil))))) (ax_nil)))) (ax_nil))) (exOf_yes (exOf_no (exOf_nil))))
      (bx_one (sx_set 6 nd (ex_op op_addZ (sem_add) (ex_op op_addZ (sem_add) (ex_slice (ex_var 6) (px_none) (px_some (ex_var 10))) (ex_if (tx_cmp (op_ltZ b.hu) (sem_rD ordD_flat) (ex_var 9) (ex_int) (nomark _)) (ex_var 13) (ex_tup (ax_nil)))) (ex_slice (ex_var 6) (px_some (ex_op op_addZ (sem_add) (ex_var 10) (ex_int))) (px_none))) (exOf_yes (exOf_no (exOf_nil))))))) (bx_nil) (exOf_yes (exOf_no (exOf_nil))))) (exOf_yes (exOf_no (exOf_nil))))) (exOf_yes (exOf_no (exOf_nil))))) (exOf_yes (exOf_no (exOf_nil))))) (exOf_yes (exOf_no (exOf_nil))))) (exOf_yes (exOf_no (exOf_nil)))))) (exOf_yes (exOf_no (exOf_nil))))
      (bx_one (sx_ret (ex_tup (ax_cons (ex_var 2) (ax_cons (ex_var 3) (ax_cons (ex_var 4) (ax_cons (ex_var 5) (ax_cons (ex_var 6) (ax_cons (ex_var 7) (ax_nil)))))))) (exOf_yes (exOf_no (exOf_nil))))))) (.inl rfl) (exOf_yes (exOf_no (exOf_nil)))
/-! ### _law_some_forms -/
def N__law_some_forms : List Str := ["bag", "base", "many_here", "sizes_here", "found", "k"]
theorem sc__law_some_forms : FnScope N__law_some_forms ["bag", "base", "many_here", "sizes_here"] (defScope (top 79)) := ⟨rfl, rfl, rfl, by decide +kernel, rfl, by decide +kernel, by decide +kernel⟩
def T__law_some_forms : Rho → Out Rho Flw := sqT (asgT 4 (lstT (consT (callT [some 0, none, none, none, none] S__law_drawn_form (ownT 0 (consT (varT 1) (consT (binT idxD (varT 3) (cT (.int 0))) (consT (binT idxD (varT 3) (cT (.int 1))) (consT (binT idxD (varT 3) (cT (.int 2))) (nilT))))))) (nilT)))) (sqT (forS (rngT rng1D (consT (binT subD (varT 2) (cT (.int 1))) (nilT))) (setG 5) (ifT (isB (binT gtD (callT [some 0, none] S__law_grab (ownT 0 (consT (cT (.int 4)) (nilT)))) (cT (.int 0)))) (appT 4 (callT [some 0, none] S__law_near_form (ownT 0 (consT (binO 4 idxD (callT [some 0, none] S__law_grab (ownT 0 (consT (callO 4 lenD) (nilT))))) (nilT))))) (appT 4 (callT [some 0, none, none, none, none] S__law_drawn_form (ownT 0 (consT (varT 1) (consT (binT idxD (varT 3) (cT (.int 0))) (consT (binT idxD (varT 3) (cT (.int 1))) (consT (binT idxD (varT 3) (cT (.int 2))) (nilT)))))))))) (retT (varT 4)))
def S__law_some_forms : List D → Out (List D) D := runF [0] 6 T__law_some_forms
theorem z__law_some_forms {K : PySem.W.Frag} {mg : Str → Option Value} {base : Heap} (g : Gk K mg) (z__law_drawn_form : FnZ PgW.P PgW.w K mg base "_law_drawn_form" 3 [some .lst, none, none, none, none] none S__law_drawn_form) (z__law_grab : FnZ PgW.P PgW.w K mg base "_law_grab" 1 [some .lst, none] none S__law_grab) (z__law_near_form : FnZ PgW.P PgW.w K mg base "_law_near_form" 3 [some .lst, none] none S__law_near_form) (hF : ∃ fd, Fun K "_law_some_forms" "_law_some_forms" (top 79) (He.ga K "_law_some_forms") fd) (hm : mg "_law_some_forms" = some (.ref (He.ga K "_law_some_forms"))) : FnZ PgW.P PgW.w K mg base "_law_some_forms" 4 [some .lst, none, none, none] none S__law_some_forms := by
  obtain ⟨fd, F⟩ := hF
  refine FnZ.of F hm (ps := ["bag", "base", "many_here", "sizes_here"]) (fun _ _ _ _ _ _ us hl => match us, hl with | [_, _, _, _], _ => rfl) ?_
  exact fnZ1 (k := 3) (rk := none) (N := N__law_some_forms) (ps := ["bag", "base", "many_here", "sizes_here"]) (O' := [some .lst, none, none, none, none, none]) (T := T__law_some_forms) .lst 3 F sc__law_some_forms rfl (fun cdv A outer s H E a b => by
    have nd := sc__law_some_forms.nd
    exact bx_cons (O1 := [some .lst, none, none, none, some .lst, none]) (sx_own 4 nd (fx_lst (ax_cons (ex_fn z__law_drawn_form (b.room.mono (by decide)) b.tk (aj_own 0 (aj_cons (ex_var 1) (aj_cons (ex_ix (ex_var 3) (ex_int)) (aj_cons (ex_ix (ex_var 3) (ex_int)) (aj_cons (ex_ix (ex_var 3) (ex_int)) (aj_nil))))))) (ax_nil))) (exOf_yes (exOf_no (exOf_no (exOf_no (exOf_nil))))))
      (bx_cons (O1 := [some .lst, none, none, none, some .lst, none]) (sx_for b.own b.calm (ix_rng1 g.f_range (ax_cons (ex_op op_subZ (sem_rD intD_flat) (ex_var 2) (ex_int)) (ax_nil))) (gx_name 5 nd) (bx_one (sx_if (O' := [some .lst, none, none, none, some .lst, none]) (tx_cmp (op_gtZ b.hu) (sem_rD ordD_flat) (ex_fn z__law_grab (b.room.mono (by decide)) b.tk (aj_own 0 (aj_cons (ex_int) (aj_nil)))) (ex_int) (nomark _)) (bx_one (sx_append 4 (ex_fn z__law_near_form (b.room.mono (by decide)) b.tk (aj_own 0 (aj_cons (ex_ixO 4 (ex_fn z__law_grab (b.room.mono (by decide)) b.tk (aj_own 0 (aj_cons (ex_callO 4 call_lenZ (own_rDN lenD_flat) g.f_len rfl (ax_own1 4)) (aj_nil))))) (aj_nil)))) (exOf_yes (exOf_no (exOf_no (exOf_no (exOf_nil))))))) (bx_one (sx_append 4 (ex_fn z__law_drawn_form (b.room.mono (by decide)) b.tk (aj_own 0 (aj_cons (ex_var 1) (aj_cons (ex_ix (ex_var 3) (ex_int)) (aj_cons (ex_ix (ex_var 3) (ex_int)) (aj_cons (ex_ix (ex_var 3) (ex_int)) (aj_nil))))))) (exOf_yes (exOf_no (exOf_no (exOf_no (exOf_nil))))))) (exOf_yes (exOf_no (exOf_no (exOf_no (exOf_nil))))))) (exOf_yes (exOf_no (exOf_no (exOf_no (exOf_nil))))))
      (bx_one (sx_freeze 4 (O1 := [some .lst, none, none, none, none, none]) (sx_ret (ex_var 4) (exOf_yes (exOf_no (exOf_no (exOf_no (exOf_nil)))))))))) (.inl rfl) (exOf_yes (exOf_no (exOf_no (exOf_no (exOf_nil)))))
/-! ### is_integer -/
def N_is_integer : List Str := ["value"]
theorem sc_is_integer : FnScope N_is_integer ["value"] (defScope (top 23)) := ⟨rfl, rfl, rfl, by decide +kernel, rfl, by decide +kernel, by decide +kernel⟩
def T_is_integer : Rho → Out Rho Flw := retT (andV (isiT "int" (varT 0)) (notV (isiT "bool" (varT 0))))
def S_is_integer : List D → Out (List D) D := runF [] 1 T_is_integer
theorem z_is_integer {K : PySem.W.Frag} {mg : Str → Option Value} {base : Heap} (g : Gk K mg) (hF : ∃ fd, Fun K "is_integer" "is_integer" (top 23) (He.ga K "is_integer") fd) (hm : mg "is_integer" = some (.ref (He.ga K "is_integer"))) : FnZ PgW.P PgW.w K mg base "is_integer" 1 [none] none S_is_integer := by
  obtain ⟨fd, F⟩ := hF
  refine FnZ.of F hm (ps := ["value"]) (fun _ _ _ _ _ _ us hl => match us, hl with | [_], _ => rfl) ?_
  exact fnZ0 (k := 0) (rk := none) (N := N_is_integer) (ps := ["value"]) (O' := [none]) (T := T_is_integer) 1 F sc_is_integer rfl (fun cdv A outer s H E b => by
    have nd := sc_is_integer.nd
    exact bx_one (sx_ret (ex_and (ex_isi (b := "int") (ex_var 0) (by decide) g.f_isinstance g.f_int rfl) (ex_one (ex_not (ex_isi (b := "bool") (ex_var 0) (by decide) g.f_isinstance g.f_bool rfl)))) (exOf_no (exOf_nil)))) (.inl rfl)
/-! ### is_sign -/
def N_is_sign : List Str := ["base", "value"]
theorem sc_is_sign : FnScope N_is_sign ["base", "value"] (defScope (top 25)) := ⟨rfl, rfl, rfl, by decide +kernel, rfl, by decide +kernel, by decide +kernel⟩
def T_is_sign : Rho → Out Rho Flw := retT (andV (callT [none] S_is_integer (consT (varT 1) (nilT))) (chainT leD ltD (cT (.int 0)) (varT 1) (varT 0)))
def S_is_sign : List D → Out (List D) D := runF [] 2 T_is_sign
theorem z_is_sign {K : PySem.W.Frag} {mg : Str → Option Value} {base : Heap} (g : Gk K mg) (z_is_integer : FnZ PgW.P PgW.w K mg base "is_integer" 1 [none] none S_is_integer) (hF : ∃ fd, Fun K "is_sign" "is_sign" (top 25) (He.ga K "is_sign") fd) (hm : mg "is_sign" = some (.ref (He.ga K "is_sign"))) : FnZ PgW.P PgW.w K mg base "is_sign" 2 [none, none] none S_is_sign := by
  obtain ⟨fd, F⟩ := hF
  refine FnZ.of F hm (ps := ["base", "value"]) (fun _ _ _ _ _ _ us hl => match us, hl with | [_, _], _ => rfl) ?_
  exact fnZ0 (k := 1) (rk := none) (N := N_is_sign) (ps := ["base", "value"]) (O' := [none, none]) (T := T_is_sign) 2 F sc_is_sign rfl (fun cdv A outer s H E b => by
    have nd := sc_is_sign.nd
    exact bx_one (sx_ret (ex_and (ex_fn z_is_integer (b.room.mono (by decide)) b.tk (aj_cons (ex_var 1) (aj_nil))) (ex_one (ex_chain (op_leZ b.hu) (op_ltZ b.hu) ordD_flat (ex_int) (ex_var 1) (ex_var 0)))) (exOf_no (exOf_no (exOf_nil))))) (.inl rfl)
/-! ### is_word_of -/
def N_is_word_of : List Str := ["value", "words"]
theorem sc_is_word_of : FnScope N_is_word_of ["value", "words"] (defScope (top 27)) := ⟨rfl, rfl, rfl, by decide +kernel, rfl, by decide +kernel, by decide +kernel⟩
def T_is_word_of : Rho → Out Rho Flw := retT (andV (isiT "str" (varT 0)) (binT inD (varT 0) (varT 1)))
def S_is_word_of : List D → Out (List D) D := runF [] 2 T_is_word_of
theorem z_is_word_of {K : PySem.W.Frag} {mg : Str → Option Value} {base : Heap} (g : Gk K mg) (hF : ∃ fd, Fun K "is_word_of" "is_word_of" (top 27) (He.ga K "is_word_of") fd) (hm : mg "is_word_of" = some (.ref (He.ga K "is_word_of"))) : FnZ PgW.P PgW.w K mg base "is_word_of" 1 [none, none] none S_is_word_of := by
  obtain ⟨fd, F⟩ := hF
  refine FnZ.of F hm (ps := ["value", "words"]) (fun _ _ _ _ _ _ us hl => match us, hl with | [_, _], _ => rfl) ?_
  exact fnZ0 (k := 0) (rk := none) (N := N_is_word_of) (ps := ["value", "words"]) (O' := [none, none]) (T := T_is_word_of) 2 F sc_is_word_of rfl (fun cdv A outer s H E b => by
    have nd := sc_is_word_of.nd
    exact bx_one (sx_ret (ex_and (ex_isi (b := "str") (ex_var 0) (by decide) g.f_isinstance g.f_str rfl) (ex_one (ex_cmp (op_inZ b.hu) (sem_rD inD_flat) (ex_var 0) (ex_var 1) (by with_unfolding_all rfl)))) (exOf_no (exOf_no (exOf_nil))))) (.inl rfl)
/-! ### is_tags -/
def N_is_tags : List Str := ["base", "value", "tag", "after"]
theorem sc_is_tags : FnScope N_is_tags ["base", "value"] (defScope (top 28)) := ⟨rfl, rfl, rfl, by decide +kernel, rfl, by decide +kernel, by decide +kernel⟩
def T_is_tags : Rho → Out Rho Flw := sqT (ifT (notT (isB (isiT "tuple" (varT 1)))) (retT (cT (.bool false))) (nxT)) (sqT (forS (seqT (varT 1)) (setG 2) (ifT (orT (notT (isB (isiT "tuple" (varT 2)))) (orT (isB (binT neD (callB lenD (consT (varT 2) (nilT))) (cT (.int 2)))) (orT (notT (isB (callT [none, none] S_is_sign (consT (varT 0) (consT (binT idxD (varT 2) (cT (.int 0))) (nilT)))))) (notT (isB (callT [none, none] S_is_word_of (consT (binT idxD (varT 2) (cT (.int 1))) (consT (cT (.tuple [.str ("keep" : Str), .str ("check" : Str), .str ("skip" : Str), .str ("end" : Str), .str ("stop" : Str)])) (nilT))))))))) (retT (cT (.bool false))) (nxT))) (retT (callB allD (consT (lcT [2, 3] (rngT zipD (consT (varT 1) (consT (slcT (varT 1) (someP (cT (.int 1))) (noP)) (nilT)))) (tupG 2 (consG (setG 2) (consG (setG 3) (nilG)))) (yesT) (binT ltD (binT idxD (varT 2) (cT (.int 0))) (binT idxD (varT 3) (cT (.int 0))))) (nilT)))))
def S_is_tags : List D → Out (List D) D := runF [] 4 T_is_tags
theorem z_is_tags {K : PySem.W.Frag} {mg : Str → Option Value} {base : Heap} (g : Gk K mg) (z_is_sign : FnZ PgW.P PgW.w K mg base "is_sign" 2 [none, none] none S_is_sign) (z_is_word_of : FnZ PgW.P PgW.w K mg base "is_word_of" 1 [none, none] none S_is_word_of) (hF : ∃ fd, Fun K "is_tags" "is_tags" (top 28) (He.ga K "is_tags") fd) (hm : mg "is_tags" = some (.ref (He.ga K "is_tags"))) : FnZ PgW.P PgW.w K mg base "is_tags" 3 [none, none] none S_is_tags := by
  obtain ⟨fd, F⟩ := hF
  refine FnZ.of F hm (ps := ["base", "value"]) (fun _ _ _ _ _ _ us hl => match us, hl with | [_, _], _ => rfl) ?_
  exact fnZ0 (k := 2) (rk := none) (N := N_is_tags) (ps := ["base", "value"]) (O' := [none, none, none, none]) (T := T_is_tags) 2 F sc_is_tags rfl (fun cdv A outer s H E b => by
    have nd := sc_is_tags.nd
    exact bx_cons (O1 := [none, none, none, none]) (sx_if (O' := [none, none, none, none]) (tx_not (tx_val (ex_isi (b := "tuple") (ex_var 1) (by decide) g.f_isinstance g.f_tuple rfl))) (bx_one (sx_ret (ex_bl) (exOf_no (exOf_no (exOf_nil))))) (bx_nil) (exOf_no (exOf_no (exOf_nil))))
      (bx_cons (O1 := [none, none, none, none]) (sx_for b.own b.calm (ix_seqZ (ex_var 1)) (gx_name 2 nd) (bx_one (sx_if (O' := [none, none, none, none]) (tx_pw (wx_or (tx_not (tx_val (ex_isi (b := "tuple") (ex_var 2) (by decide) g.f_isinstance g.f_tuple rfl))) (wx_or (tx_cmp (op_neZ b.hu) (sem_rD neD_flat) (ex_callB call_lenZ (sem_rDN lenD_flat) g.f_len rfl (ax_cons (ex_var 2) (ax_nil))) (ex_int) (nomark _)) (wx_or (tx_not (tx_val (ex_fn z_is_sign (b.room.mono (by decide)) b.tk (aj_cons (ex_var 0) (aj_cons (ex_ix (ex_var 2) (ex_int)) (aj_nil)))))) (wx_or1 (tx_not (tx_val (ex_fn z_is_word_of (b.room.mono (by decide)) b.tk (aj_cons (ex_ix (ex_var 2) (ex_int)) (aj_cons (ex_kon g.k_USES) (aj_nil))))))))))) (bx_one (sx_ret (ex_bl) (exOf_no (exOf_no (exOf_nil))))) (bx_nil) (exOf_no (exOf_no (exOf_nil))))) (exOf_no (exOf_no (exOf_nil))))
      (bx_one (sx_ret (ex_callB (call_allZ b.calm) (sem_rDN allD_flat) g.f_all rfl (ax_cons (ex_of_fx (fx_lc (own := [("tag", 2), ("after", 3)]) b.calm nd (ix_zip g.f_zip (ax_cons (ex_var 1) (ax_cons (ex_slice (ex_var 1) (px_some (ex_int)) (px_none)) (ax_nil)))) (blkOk_of (by kernel_rfl)) (none_cons rfl (none_cons rfl (fun _ h => nomatch h))) (fun _ _ _ _ _ => gx_tup (by exact b.calm) (gxs_cons (gx_name 2 nd) (gxs_cons (gx_name 3 nd) (gxs_nil)))) (fun _ _ _ _ _ => txs_nil) (fun _ _ _ _ _ => ex_cmp (op_ltZ (by exact b.hu)) (sem_rD ordD_flat) (ex_ix (ex_var 2) (ex_int)) (ex_ix (ex_var 3) (ex_int)) (nomark _)))) (ax_nil))) (exOf_no (exOf_no (exOf_nil))))))) (.inl rfl)
/-! ### is_at_least -/
def N_is_at_least : List Str := ["value", "least"]
theorem sc_is_at_least : FnScope N_is_at_least ["value", "least"] (defScope (top 24)) := ⟨rfl, rfl, rfl, by decide +kernel, rfl, by decide +kernel, by decide +kernel⟩
def T_is_at_least : Rho → Out Rho Flw := retT (andV (callT [none] S_is_integer (consT (varT 0) (nilT))) (binT geD (varT 0) (varT 1)))
def S_is_at_least : List D → Out (List D) D := runF [] 2 T_is_at_least
theorem z_is_at_least {K : PySem.W.Frag} {mg : Str → Option Value} {base : Heap} (g : Gk K mg) (z_is_integer : FnZ PgW.P PgW.w K mg base "is_integer" 1 [none] none S_is_integer) (hF : ∃ fd, Fun K "is_at_least" "is_at_least" (top 24) (He.ga K "is_at_least") fd) (hm : mg "is_at_least" = some (.ref (He.ga K "is_at_least"))) : FnZ PgW.P PgW.w K mg base "is_at_least" 2 [none, none] none S_is_at_least := by
  obtain ⟨fd, F⟩ := hF
  refine FnZ.of F hm (ps := ["value", "least"]) (fun _ _ _ _ _ _ us hl => match us, hl with | [_, _], _ => rfl) ?_
  exact fnZ0 (k := 1) (rk := none) (N := N_is_at_least) (ps := ["value", "least"]) (O' := [none, none]) (T := T_is_at_least) 2 F sc_is_at_least rfl (fun cdv A outer s H E b => by
    have nd := sc_is_at_least.nd
    exact bx_one (sx_ret (ex_and (ex_fn z_is_integer (b.room.mono (by decide)) b.tk (aj_cons (ex_var 0) (aj_nil))) (ex_one (ex_cmp (op_geZ b.hu) (sem_rD ordD_flat) (ex_var 0) (ex_var 1) (nomark _)))) (exOf_no (exOf_no (exOf_nil))))) (.inl rfl)
/-! ### is_head -/
def N_is_head : List Str := ["base", "value", "mark"]
theorem sc_is_head : FnScope N_is_head ["base", "value"] (defScope (top 29)) := ⟨rfl, rfl, rfl, by decide +kernel, rfl, by decide +kernel, by decide +kernel⟩
def T_is_head : Rho → Out Rho Flw := retT (andV (isiT "tuple" (varT 1)) (callB allD (consT (lcT [2] (seqT (varT 1)) (setG 2) (yesT) (orV (binT isD (varT 2) (cT .none)) (callT [none, none] S_is_sign (consT (varT 0) (consT (varT 2) (nilT)))))) (nilT))))
def S_is_head : List D → Out (List D) D := runF [] 3 T_is_head
theorem z_is_head {K : PySem.W.Frag} {mg : Str → Option Value} {base : Heap} (g : Gk K mg) (z_is_sign : FnZ PgW.P PgW.w K mg base "is_sign" 2 [none, none] none S_is_sign) (hF : ∃ fd, Fun K "is_head" "is_head" (top 29) (He.ga K "is_head") fd) (hm : mg "is_head" = some (.ref (He.ga K "is_head"))) : FnZ PgW.P PgW.w K mg base "is_head" 3 [none, none] none S_is_head := by
  obtain ⟨fd, F⟩ := hF
  refine FnZ.of F hm (ps := ["base", "value"]) (fun _ _ _ _ _ _ us hl => match us, hl with | [_, _], _ => rfl) ?_
  exact fnZ0 (k := 2) (rk := none) (N := N_is_head) (ps := ["base", "value"]) (O' := [none, none, none]) (T := T_is_head) 2 F sc_is_head rfl (fun cdv A outer s H E b => by
    have nd := sc_is_head.nd
    exact bx_one (sx_ret (ex_and (ex_isi (b := "tuple") (ex_var 1) (by decide) g.f_isinstance g.f_tuple rfl) (ex_one (ex_callB (call_allZ b.calm) (sem_rDN allD_flat) g.f_all rfl (ax_cons (ex_of_fx (fx_lc (own := [("mark", 2)]) b.calm nd (ix_seqZ (ex_var 1)) (blkOk_of (by kernel_rfl)) (none_cons rfl (fun _ h => nomatch h)) (fun _ _ _ _ _ => gx_name 2 nd) (fun _ _ _ _ _ => txs_nil) (fun _ _ _ _ _ => ex_or (ex_cmp (op_isZ) (sem_rD isD_flat) (ex_var 2) (ex_non) (nomark _)) (ex_one (ex_fn z_is_sign (by exact b.room.mono (by decide)) takes0 (aj_cons (ex_var 0) (aj_cons (ex_var 2) (aj_nil)))))))) (ax_nil))))) (exOf_no (exOf_no (exOf_nil))))) (.inl rfl)
/-! ### is_format -/
def N_is_format : List Str := ["value", "base", "head", "width", "most", "tags", "others"]
theorem sc_is_format : FnScope N_is_format ["value"] (defScope (top 30)) := ⟨rfl, rfl, rfl, by decide +kernel, rfl, by decide +kernel, by decide +kernel⟩
def T_is_format : Rho → Out Rho Flw := sqT (ifT (orT (notT (isB (isiT "tuple" (varT 0)))) (isB (binT neD (callB lenD (consT (varT 0) (nilT))) (cT (.int 6))))) (retT (cT (.bool false))) (nxT)) (sqT (tgtT (tupG 6 (consG (setG 1) (consG (setG 2) (consG (setG 3) (consG (setG 4) (consG (setG 5) (consG (setG 6) (nilG)))))))) (varT 0)) (sqT (ifT (orT (notT (isB (callT [none, none] S_is_at_least (consT (varT 1) (consT (cT (.int 2)) (nilT)))))) (orT (isB (binT gtD (varT 1) (cT (.int 256)))) (notT (isB (callT [none, none] S_is_head (consT (varT 1) (consT (varT 2) (nilT)))))))) (retT (cT (.bool false))) (nxT)) (sqT (ifT (orT (notT (isB (callT [none, none] S_is_word_of (consT (varT 3) (consT (cT (.tuple [.str ("one" : Str), .str ("high" : Str), .str ("low" : Str)])) (nilT)))))) (notT (isB (callT [none, none] S_is_at_least (consT (varT 4) (consT (cT (.int 0)) (nilT))))))) (retT (cT (.bool false))) (nxT)) (retT (andV (callT [none, none] S_is_tags (consT (varT 1) (consT (varT 5) (nilT)))) (callT [none, none] S_is_word_of (consT (varT 6) (consT (cT (.tuple [.str ("skip" : Str), .str ("refuse" : Str)])) (nilT)))))))))
def S_is_format : List D → Out (List D) D := runF [] 7 T_is_format
theorem z_is_format {K : PySem.W.Frag} {mg : Str → Option Value} {base : Heap} (g : Gk K mg) (z_is_at_least : FnZ PgW.P PgW.w K mg base "is_at_least" 2 [none, none] none S_is_at_least) (z_is_head : FnZ PgW.P PgW.w K mg base "is_head" 3 [none, none] none S_is_head) (z_is_tags : FnZ PgW.P PgW.w K mg base "is_tags" 3 [none, none] none S_is_tags) (z_is_word_of : FnZ PgW.P PgW.w K mg base "is_word_of" 1 [none, none] none S_is_word_of) (hF : ∃ fd, Fun K "is_format" "is_format" (top 30) (He.ga K "is_format") fd) (hm : mg "is_format" = some (.ref (He.ga K "is_format"))) : FnZ PgW.P PgW.w K mg base "is_format" 4 [none] none S_is_format := by
  obtain ⟨fd, F⟩ := hF
  refine FnZ.of F hm (ps := ["value"]) (fun _ _ _ _ _ _ us hl => match us, hl with | [_], _ => rfl) ?_
  exact fnZ0 (k := 3) (rk := none) (N := N_is_format) (ps := ["value"]) (O' := [none, none, none, none, none, none, none]) (T := T_is_format) 1 F sc_is_format rfl (fun cdv A outer s H E b => by
    have nd := sc_is_format.nd
    exact bx_cons (O1 := [none, none, none, none, none, none, none]) (sx_if (O' := [none, none, none, none, none, none, none]) (tx_pw (wx_or (tx_not (tx_val (ex_isi (b := "tuple") (ex_var 0) (by decide) g.f_isinstance g.f_tuple rfl))) (wx_or1 (tx_cmp (op_neZ b.hu) (sem_rD neD_flat) (ex_callB call_lenZ (sem_rDN lenD_flat) g.f_len rfl (ax_cons (ex_var 0) (ax_nil))) (ex_int) (nomark _))))) (bx_one (sx_ret (ex_bl) (exOf_no (exOf_nil)))) (bx_nil) (exOf_no (exOf_nil)))
      (bx_cons (O1 := [none, none, none, none, none, none, none]) (sx_tgt (ex_var 0) (gx_tup b.calm (gxs_cons (gx_name 1 nd) (gxs_cons (gx_name 2 nd) (gxs_cons (gx_name 3 nd) (gxs_cons (gx_name 4 nd) (gxs_cons (gx_name 5 nd) (gxs_cons (gx_name 6 nd) (gxs_nil)))))))) (exOf_no (exOf_nil)))
      (bx_cons (O1 := [none, none, none, none, none, none, none]) (sx_if (O' := [none, none, none, none, none, none, none]) (tx_pw (wx_or (tx_not (tx_val (ex_fn z_is_at_least (b.room.mono (by decide)) b.tk (aj_cons (ex_var 1) (aj_cons (ex_int) (aj_nil)))))) (wx_or (tx_cmp (op_gtZ b.hu) (sem_rD ordD_flat) (ex_var 1) (ex_kon g.k_GREATEST_BASE) (nomark _)) (wx_or1 (tx_not (tx_val (ex_fn z_is_head (b.room.mono (by decide)) b.tk (aj_cons (ex_var 1) (aj_cons (ex_var 2) (aj_nil)))))))))) (bx_one (sx_ret (ex_bl) (exOf_no (exOf_nil)))) (bx_nil) (exOf_no (exOf_nil)))
      (bx_cons (O1 := [none, none, none, none, none, none, none]) (sx_if (O' := [none, none, none, none, none, none, none]) (tx_pw (wx_or (tx_not (tx_val (ex_fn z_is_word_of (b.room.mono (by decide)) b.tk (aj_cons (ex_var 3) (aj_cons (ex_kon g.k_WIDTHS) (aj_nil)))))) (wx_or1 (tx_not (tx_val (ex_fn z_is_at_least (b.room.mono (by decide)) b.tk (aj_cons (ex_var 4) (aj_cons (ex_int) (aj_nil))))))))) (bx_one (sx_ret (ex_bl) (exOf_no (exOf_nil)))) (bx_nil) (exOf_no (exOf_nil)))
      (bx_one (sx_ret (ex_and (ex_fn z_is_tags (b.room.mono (by decide)) b.tk (aj_cons (ex_var 1) (aj_cons (ex_var 5) (aj_nil)))) (ex_one (ex_fn z_is_word_of (b.room.mono (by decide)) b.tk (aj_cons (ex_var 6) (aj_cons (ex_kon g.k_OTHERS) (aj_nil)))))) (exOf_no (exOf_nil)))))))) (.inl rfl)
/-! ### check_format -/
def N_check_format : List Str := ["form"]
theorem sc_check_format : FnScope N_check_format ["form"] (defScope (top 31)) := ⟨rfl, rfl, rfl, by decide +kernel, rfl, by decide +kernel, by decide +kernel⟩
def T_check_format : Rho → Out Rho Flw := ifT (notT (isB (callT [none] S_is_format (consT (varT 0) (nilT))))) (badT) (nxT)
def S_check_format : List D → Out (List D) D := runF [] 1 T_check_format
theorem z_check_format {K : PySem.W.Frag} {mg : Str → Option Value} {base : Heap} (g : Gk K mg) (z_is_format : FnZ PgW.P PgW.w K mg base "is_format" 4 [none] none S_is_format) (hF : ∃ fd, Fun K "check_format" "check_format" (top 31) (He.ga K "check_format") fd) (hm : mg "check_format" = some (.ref (He.ga K "check_format"))) : FnZ PgW.P PgW.w K mg base "check_format" 5 [none] none S_check_format := by
  obtain ⟨fd, F⟩ := hF
  refine FnZ.of F hm (ps := ["form"]) (fun _ _ _ _ _ _ us hl => match us, hl with | [_], _ => rfl) ?_
  exact fnZ0 (k := 4) (rk := none) (N := N_check_format) (ps := ["form"]) (O' := [none]) (T := T_check_format) 1 F sc_check_format rfl (fun cdv A outer s H E b => by
    have nd := sc_check_format.nd
    exact bx_one (sx_if (O' := [none]) (tx_not (tx_val (ex_fn z_is_format (b.room.mono (by decide)) b.tk (aj_cons (ex_var 0) (aj_nil))))) (bx_one (sx_bad)) (bx_nil) (exOf_no (exOf_nil)))) (.inl rfl)
/-! ### check_base -/
def N_check_base : List Str := ["one", "other"]
theorem sc_check_base : FnScope N_check_base ["one", "other"] (defScope (top 32)) := ⟨rfl, rfl, rfl, by decide +kernel, rfl, by decide +kernel, by decide +kernel⟩
def T_check_base : Rho → Out Rho Flw := ifT (isB (binT neD (binT idxD (varT 0) (cT (.int 0))) (binT idxD (varT 1) (cT (.int 0))))) (badT) (nxT)
def S_check_base : List D → Out (List D) D := runF [] 2 T_check_base
theorem z_check_base {K : PySem.W.Frag} {mg : Str → Option Value} {base : Heap} (g : Gk K mg) (hF : ∃ fd, Fun K "check_base" "check_base" (top 32) (He.ga K "check_base") fd) (hm : mg "check_base" = some (.ref (He.ga K "check_base"))) : FnZ PgW.P PgW.w K mg base "check_base" 1 [none, none] none S_check_base := by
  obtain ⟨fd, F⟩ := hF
  refine FnZ.of F hm (ps := ["one", "other"]) (fun _ _ _ _ _ _ us hl => match us, hl with | [_, _], _ => rfl) ?_
  exact fnZ0 (k := 0) (rk := none) (N := N_check_base) (ps := ["one", "other"]) (O' := [none, none]) (T := T_check_base) 2 F sc_check_base rfl (fun cdv A outer s H E b => by
    have nd := sc_check_base.nd
    exact bx_one (sx_if (O' := [none, none]) (tx_cmp (op_neZ b.hu) (sem_rD neD_flat) (ex_ix (ex_var 0) (ex_int)) (ex_ix (ex_var 1) (ex_int)) (nomark _)) (bx_one (sx_bad)) (bx_nil) (exOf_no (exOf_no (exOf_nil))))) (.inl rfl)
/-! ### check_two -/
def N_check_two : List Str := ["one", "other"]
theorem sc_check_two : FnScope N_check_two ["one", "other"] (defScope (top 67)) := ⟨rfl, rfl, rfl, by decide +kernel, rfl, by decide +kernel, by decide +kernel⟩
def T_check_two : Rho → Out Rho Flw := sqT (dropT (callT [none] S_check_format (consT (varT 0) (nilT)))) (sqT (dropT (callT [none] S_check_format (consT (varT 1) (nilT)))) (dropT (callT [none, none] S_check_base (consT (varT 0) (consT (varT 1) (nilT))))))
def S_check_two : List D → Out (List D) D := runF [] 2 T_check_two
theorem z_check_two {K : PySem.W.Frag} {mg : Str → Option Value} {base : Heap} (g : Gk K mg) (z_check_base : FnZ PgW.P PgW.w K mg base "check_base" 1 [none, none] none S_check_base) (z_check_format : FnZ PgW.P PgW.w K mg base "check_format" 5 [none] none S_check_format) (hF : ∃ fd, Fun K "check_two" "check_two" (top 67) (He.ga K "check_two") fd) (hm : mg "check_two" = some (.ref (He.ga K "check_two"))) : FnZ PgW.P PgW.w K mg base "check_two" 6 [none, none] none S_check_two := by
  obtain ⟨fd, F⟩ := hF
  refine FnZ.of F hm (ps := ["one", "other"]) (fun _ _ _ _ _ _ us hl => match us, hl with | [_, _], _ => rfl) ?_
  exact fnZ0 (k := 5) (rk := none) (N := N_check_two) (ps := ["one", "other"]) (O' := [none, none]) (T := T_check_two) 2 F sc_check_two rfl (fun cdv A outer s H E b => by
    have nd := sc_check_two.nd
    exact bx_cons (O1 := [none, none]) (sx_expr (ex_fn z_check_format (b.room.mono (by decide)) b.tk (aj_cons (ex_var 0) (aj_nil))) (exOf_no (exOf_no (exOf_nil))))
      (bx_cons (O1 := [none, none]) (sx_expr (ex_fn z_check_format (b.room.mono (by decide)) b.tk (aj_cons (ex_var 1) (aj_nil))) (exOf_no (exOf_no (exOf_nil))))
      (bx_one (sx_expr (ex_fn z_check_base (b.room.mono (by decide)) b.tk (aj_cons (ex_var 0) (aj_cons (ex_var 1) (aj_nil)))) (exOf_no (exOf_no (exOf_nil))))))) (.inl rfl)
/-! ### first_stand -/
def N_first_stand : List Str := ["form"]
theorem sc_first_stand : FnScope N_first_stand ["form"] (defScope (top 33)) := ⟨rfl, rfl, rfl, by decide +kernel, rfl, by decide +kernel, by decide +kernel⟩
def T_first_stand : Rho → Out Rho Flw := retT (ifT (isB (binT neD (binT idxD (varT 0) (cT (.int 1))) (tupT (nilT)))) (tupT (consT (cT (.str ("head" : Str))) (consT (cT (.int 0)) (nilT)))) (cT (.tuple [.str ("tag" : Str)])))
def S_first_stand : List D → Out (List D) D := runF [] 1 T_first_stand
theorem z_first_stand {K : PySem.W.Frag} {mg : Str → Option Value} {base : Heap} (g : Gk K mg) (hF : ∃ fd, Fun K "first_stand" "first_stand" (top 33) (He.ga K "first_stand") fd) (hm : mg "first_stand" = some (.ref (He.ga K "first_stand"))) : FnZ PgW.P PgW.w K mg base "first_stand" 1 [none] none S_first_stand := by
  obtain ⟨fd, F⟩ := hF
  refine FnZ.of F hm (ps := ["form"]) (fun _ _ _ _ _ _ us hl => match us, hl with | [_], _ => rfl) ?_
  exact fnZ0 (k := 0) (rk := none) (N := N_first_stand) (ps := ["form"]) (O' := [none]) (T := T_first_stand) 1 F sc_first_stand rfl (fun cdv A outer s H E b => by
    have nd := sc_first_stand.nd
    exact bx_one (sx_ret (ex_if (tx_cmp (op_neZ b.hu) (sem_rD neD_flat) (ex_ix (ex_var 0) (ex_int)) (ex_tup (ax_nil)) (nomark _)) (ex_tup (ax_cons (ex_str) (ax_cons (ex_int) (ax_nil)))) (ex_kon g.k_TAG)) (exOf_no (exOf_nil)))) (.inl rfl)
/-! ### is_ending -/
def N_is_ending : List Str := ["form", "stand", "sign", "use"]
theorem sc_is_ending : FnScope N_is_ending ["form", "stand"] (defScope (top 42)) := ⟨rfl, rfl, rfl, by decide +kernel, rfl, by decide +kernel, by decide +kernel⟩
def T_is_ending : Rho → Out Rho Flw := sqT (ifT (isB (binT inD (varT 1) (tupT (consT (cT (.tuple [.str ("room" : Str)])) (consT (cT (.tuple [.str ("over" : Str)])) (nilT)))))) (retT (cT (.bool true))) (nxT)) (retT (andV (binT eqD (varT 1) (cT (.tuple [.str ("tag" : Str)]))) (notV (callB anyD (consT (lcT [2, 3] (seqT (binT idxD (varT 0) (cT (.int 4)))) (tupG 2 (consG (setG 2) (consG (setG 3) (nilG)))) (yesT) (binT inD (varT 3) (tupT (consT (cT (.str ("end" : Str))) (consT (cT (.str ("stop" : Str))) (nilT)))))) (nilT))))))
def S_is_ending : List D → Out (List D) D := runF [] 4 T_is_ending
theorem z_is_ending {K : PySem.W.Frag} {mg : Str → Option Value} {base : Heap} (g : Gk K mg) (hF : ∃ fd, Fun K "is_ending" "is_ending" (top 42) (He.ga K "is_ending") fd) (hm : mg "is_ending" = some (.ref (He.ga K "is_ending"))) : FnZ PgW.P PgW.w K mg base "is_ending" 1 [none, none] none S_is_ending := by
  obtain ⟨fd, F⟩ := hF
  refine FnZ.of F hm (ps := ["form", "stand"]) (fun _ _ _ _ _ _ us hl => match us, hl with | [_, _], _ => rfl) ?_
  exact fnZ0 (k := 0) (rk := none) (N := N_is_ending) (ps := ["form", "stand"]) (O' := [none, none, none, none]) (T := T_is_ending) 2 F sc_is_ending rfl (fun cdv A outer s H E b => by
    have nd := sc_is_ending.nd
    exact bx_cons (O1 := [none, none, none, none]) (sx_if (O' := [none, none, none, none]) (tx_cmp (op_inZ b.hu) (sem_rD inD_flat) (ex_var 1) (ex_tup (ax_cons (ex_kon g.k_ROOM) (ax_cons (ex_kon g.k_OVER) (ax_nil)))) (by with_unfolding_all rfl)) (bx_one (sx_ret (ex_bl) (exOf_no (exOf_no (exOf_nil))))) (bx_nil) (exOf_no (exOf_no (exOf_nil))))
      (bx_one (sx_ret (ex_and (ex_cmp (op_eqZ b.hu) (sem_rD eqD_flat) (ex_var 1) (ex_kon g.k_TAG) (nomark _)) (ex_one (ex_not (ex_callB (call_anyZ b.calm) (sem_rDN anyD_flat) g.f_any rfl (ax_cons (ex_of_fx (fx_lc (own := [("sign", 2), ("use", 3)]) b.calm nd (ix_seqZ (ex_ix (ex_var 0) (ex_int))) (blkOk_of (by kernel_rfl)) (none_cons rfl (none_cons rfl (fun _ h => nomatch h))) (fun _ _ _ _ _ => gx_tup (by exact b.calm) (gxs_cons (gx_name 2 nd) (gxs_cons (gx_name 3 nd) (gxs_nil)))) (fun _ _ _ _ _ => txs_nil) (fun _ _ _ _ _ => ex_cmp (op_inZ (by exact b.hu)) (sem_rD inD_flat) (ex_var 3) (ex_tup (ax_cons (ex_kon g.k_END) (ax_cons (ex_kon g.k_STOP) (ax_nil)))) (by with_unfolding_all rfl)))) (ax_nil)))))) (exOf_no (exOf_no (exOf_nil)))))) (.inl rfl)
/-! ### is_worse -/
def N_is_worse : List Str := ["one", "other", "stand", "its", "lead"]
theorem sc_is_worse : FnScope N_is_worse ["one", "other", "stand", "its", "lead"] (defScope (top 61)) := ⟨rfl, rfl, rfl, by decide +kernel, rfl, by decide +kernel, by decide +kernel⟩
def T_is_worse : Rho → Out Rho Flw := retT (andV (callT [none, none] S_is_ending (consT (varT 0) (consT (varT 2) (nilT)))) (orV (binT isD (varT 3) (cT .none)) (orV (notV (callT [none, none] S_is_ending (consT (varT 1) (consT (varT 3) (nilT))))) (binT neD (varT 4) (cT (.tuple (List.replicate 2 (.tuple []))))))))
def S_is_worse : List D → Out (List D) D := runF [] 5 T_is_worse
theorem z_is_worse {K : PySem.W.Frag} {mg : Str → Option Value} {base : Heap} (g : Gk K mg) (z_is_ending : FnZ PgW.P PgW.w K mg base "is_ending" 1 [none, none] none S_is_ending) (hF : ∃ fd, Fun K "is_worse" "is_worse" (top 61) (He.ga K "is_worse") fd) (hm : mg "is_worse" = some (.ref (He.ga K "is_worse"))) : FnZ PgW.P PgW.w K mg base "is_worse" 2 [none, none, none, none, none] none S_is_worse := by
  obtain ⟨fd, F⟩ := hF
  refine FnZ.of F hm (ps := ["one", "other", "stand", "its", "lead"]) (fun _ _ _ _ _ _ us hl => match us, hl with | [_, _, _, _, _], _ => rfl) ?_
  exact fnZ0 (k := 1) (rk := none) (N := N_is_worse) (ps := ["one", "other", "stand", "its", "lead"]) (O' := [none, none, none, none, none]) (T := T_is_worse) 5 F sc_is_worse rfl (fun cdv A outer s H E b => by
    have nd := sc_is_worse.nd
    exact bx_one (sx_ret (ex_and (ex_fn z_is_ending (b.room.mono (by decide)) b.tk (aj_cons (ex_var 0) (aj_cons (ex_var 2) (aj_nil)))) (ex_one (ex_or (ex_cmp (op_isZ) (sem_rD isD_flat) (ex_var 3) (ex_non) (nomark _)) (ex_or (ex_not (ex_fn z_is_ending (b.room.mono (by decide)) b.tk (aj_cons (ex_var 1) (aj_cons (ex_var 3) (aj_nil))))) (ex_one (ex_cmp (op_neZ b.hu) (sem_rD neD_flat) (ex_var 4) (ex_kon g.k_EVEN) (nomark _))))))) (exOf_no (exOf_no (exOf_no (exOf_no (exOf_no (exOf_nil)))))))) (.inl rfl)
/-! ### ending_tag -/
def N_ending_tag : List Str := ["form", "sign", "use"]
theorem sc_ending_tag : FnScope N_ending_tag ["form"] (defScope (top 62)) := ⟨rfl, rfl, rfl, by decide +kernel, rfl, by decide +kernel, by decide +kernel⟩
def T_ending_tag : Rho → Out Rho Flw := retT (slcT (lcT [1, 2] (seqT (binT idxD (varT 0) (cT (.int 4)))) (tupG 2 (consG (setG 1) (consG (setG 2) (nilG)))) (isB (binT inD (varT 2) (tupT (consT (cT (.str ("end" : Str))) (consT (cT (.str ("stop" : Str))) (nilT)))))) (varT 1)) (noP) (someP (cT (.int 1))))
def S_ending_tag : List D → Out (List D) D := runF [] 3 T_ending_tag
theorem z_ending_tag {K : PySem.W.Frag} {mg : Str → Option Value} {base : Heap} (g : Gk K mg) (hF : ∃ fd, Fun K "ending_tag" "ending_tag" (top 62) (He.ga K "ending_tag") fd) (hm : mg "ending_tag" = some (.ref (He.ga K "ending_tag"))) : FnZ PgW.P PgW.w K mg base "ending_tag" 1 [none] none S_ending_tag := by
  obtain ⟨fd, F⟩ := hF
  refine FnZ.of F hm (ps := ["form"]) (fun _ _ _ _ _ _ us hl => match us, hl with | [_], _ => rfl) ?_
  exact fnZ0 (k := 0) (rk := none) (N := N_ending_tag) (ps := ["form"]) (O' := [none, none, none]) (T := T_ending_tag) 1 F sc_ending_tag rfl (fun cdv A outer s H E b => by
    have nd := sc_ending_tag.nd
    exact bx_one (sx_ret (ex_slice (ex_of_fx (fx_lc (own := [("sign", 1), ("use", 2)]) b.calm nd (ix_seqZ (ex_ix (ex_var 0) (ex_int))) (blkOk_of (by kernel_rfl)) (none_cons rfl (none_cons rfl (fun _ h => nomatch h))) (fun _ _ _ _ _ => gx_tup (by exact b.calm) (gxs_cons (gx_name 1 nd) (gxs_cons (gx_name 2 nd) (gxs_nil)))) (fun _ _ _ _ _ => txs_one (tx_cmp (op_inZ (by exact b.hu)) (sem_rD inD_flat) (ex_var 2) (ex_tup (ax_cons (ex_kon g.k_END) (ax_cons (ex_kon g.k_STOP) (ax_nil)))) (by with_unfolding_all rfl))) (fun _ _ _ _ _ => ex_var 1))) (px_none) (px_some (ex_int))) (exOf_no (exOf_nil)))) (.inl rfl)
/-! ### written_signs -/
def N_written_signs : List Str := ["form", "stand", "sign", "use"]
theorem sc_written_signs : FnScope N_written_signs ["form", "stand"] (defScope (top 63)) := ⟨rfl, rfl, rfl, by decide +kernel, rfl, by decide +kernel, by decide +kernel⟩
def T_written_signs : Rho → Out Rho Flw := sqT (ifT (isB (binT eqD (varT 1) (cT (.tuple [.str ("tag" : Str)])))) (retT (fun ρ => ((binT addD (lcT [2, 3] (seqT (binT idxD (varT 0) (cT (.int 4)))) (tupG 2 (consG (setG 2) (consG (setG 3) (nilG)))) (isB (binT inD (varT 3) (cT (.tuple [.str ("keep" : Str), .str ("check" : Str)])))) (varT 2)) (callT [none] S_ending_tag (consT (varT 0) (nilT)))) ρ).bind fun d ρ1 => .of (srtD d) ρ1)) (nxT)) (sqT (ifT (isB (binT eqD (binT idxD (varT 1) (cT (.int 0))) (cT (.str ("head" : Str))))) (retT (ifT (isB (binT isD (binT idxD (binT idxD (varT 0) (cT (.int 1))) (binT idxD (varT 1) (cT (.int 1)))) (cT .none))) (lstT (consT (cT (.int 0)) (nilT))) (lstT (consT (binT idxD (binT idxD (varT 0) (cT (.int 1))) (binT idxD (varT 1) (cT (.int 1)))) (nilT))))) (nxT)) (retT (ifT (isB (binT inD (binT idxD (varT 1) (cT (.int 0))) (tupT (consT (cT (.str ("length" : Str))) (consT (cT (.str ("second" : Str))) (consT (cT (.str ("body" : Str))) (consT (cT (.str ("sum" : Str))) (nilT)))))))) (fun ρ => ((binT idxD (varT 0) (cT (.int 0))) ρ).bind fun d ρ1 => .of (lrg1D d) ρ1) (lstT (nilT)))))
def S_written_signs : List D → Out (List D) D := runF [] 4 T_written_signs
theorem z_written_signs {K : PySem.W.Frag} {mg : Str → Option Value} {base : Heap} (g : Gk K mg) (z_ending_tag : FnZ PgW.P PgW.w K mg base "ending_tag" 1 [none] none S_ending_tag) (hF : ∃ fd, Fun K "written_signs" "written_signs" (top 63) (He.ga K "written_signs") fd) (hm : mg "written_signs" = some (.ref (He.ga K "written_signs"))) : FnZ PgW.P PgW.w K mg base "written_signs" 2 [none, none] none S_written_signs := by
  obtain ⟨fd, F⟩ := hF
  refine FnZ.of F hm (ps := ["form", "stand"]) (fun _ _ _ _ _ _ us hl => match us, hl with | [_, _], _ => rfl) ?_
  exact fnZ0 (k := 1) (rk := none) (N := N_written_signs) (ps := ["form", "stand"]) (O' := [none, none, none, none]) (T := T_written_signs) 2 F sc_written_signs rfl (fun cdv A outer s H E b => by
    have nd := sc_written_signs.nd
    exact bx_cons (O1 := [none, none, none, none]) (sx_if (O' := [none, none, none, none]) (tx_cmp (op_eqZ b.hu) (sem_rD eqD_flat) (ex_var 1) (ex_kon g.k_TAG) (nomark _)) (bx_one (sx_ret (ex_of_fx (fx_srt (ex_op op_addZ (sem_add) (ex_of_fx (fx_lc (own := [("sign", 2), ("use", 3)]) b.calm nd (ix_seqZ (ex_ix (ex_var 0) (ex_int))) (blkOk_of (by kernel_rfl)) (none_cons rfl (none_cons rfl (fun _ h => nomatch h))) (fun _ _ _ _ _ => gx_tup (by exact b.calm) (gxs_cons (gx_name 2 nd) (gxs_cons (gx_name 3 nd) (gxs_nil)))) (fun _ _ _ _ _ => txs_one (tx_cmp (op_inZ (by exact b.hu)) (sem_rD inD_flat) (ex_var 3) (ex_kon g.k_TOLD) (by with_unfolding_all rfl))) (fun _ _ _ _ _ => ex_var 2))) (ex_fn z_ending_tag (b.room.mono (by decide)) b.tk (aj_cons (ex_var 0) (aj_nil)))) g.f_sorted)) (exOf_no (exOf_no (exOf_nil))))) (bx_nil) (exOf_no (exOf_no (exOf_nil))))
      (bx_cons (O1 := [none, none, none, none]) (sx_if (O' := [none, none, none, none]) (tx_cmp (op_eqZ b.hu) (sem_rD eqD_flat) (ex_ix (ex_var 1) (ex_int)) (ex_str) (nomark _)) (bx_one (sx_ret (ex_if (tx_cmp (op_isZ) (sem_rD isD_flat) (ex_ix (ex_ix (ex_var 0) (ex_int)) (ex_ix (ex_var 1) (ex_int))) (ex_non) (nomark _)) (ex_of_fx (fx_lst (ax_cons (ex_int) (ax_nil)))) (ex_of_fx (fx_lst (ax_cons (ex_ix (ex_ix (ex_var 0) (ex_int)) (ex_ix (ex_var 1) (ex_int))) (ax_nil))))) (exOf_no (exOf_no (exOf_nil))))) (bx_nil) (exOf_no (exOf_no (exOf_nil))))
      (bx_one (sx_ret (ex_if (tx_cmp (op_inZ b.hu) (sem_rD inD_flat) (ex_ix (ex_var 1) (ex_int)) (ex_tup (ax_cons (ex_str) (ax_cons (ex_str) (ax_cons (ex_str) (ax_cons (ex_str) (ax_nil)))))) (by with_unfolding_all rfl)) (ex_of_fx (fx_listRg1 b.calm (ex_ix (ex_var 0) (ex_int)) g.f_list g.f_range)) (ex_of_fx (fx_lst (ax_nil)))) (exOf_no (exOf_no (exOf_nil))))))) (.inl rfl)
/-! ### signs_at -/
def N_signs_at : List Str := ["form", "stand", "is_written"]
theorem sc_signs_at : FnScope N_signs_at ["form", "stand", "is_written"] (defScope (top 64)) := ⟨rfl, rfl, rfl, by decide +kernel, rfl, by decide +kernel, by decide +kernel⟩
def T_signs_at : Rho → Out Rho Flw := retT (ifT (isB (varT 2)) (callT [none, none] S_written_signs (consT (varT 0) (consT (varT 1) (nilT)))) (fun ρ => ((binT idxD (varT 0) (cT (.int 0))) ρ).bind fun d ρ1 => .of (lrg1D d) ρ1))
def S_signs_at : List D → Out (List D) D := runF [] 3 T_signs_at
theorem z_signs_at {K : PySem.W.Frag} {mg : Str → Option Value} {base : Heap} (g : Gk K mg) (z_written_signs : FnZ PgW.P PgW.w K mg base "written_signs" 2 [none, none] none S_written_signs) (hF : ∃ fd, Fun K "signs_at" "signs_at" (top 64) (He.ga K "signs_at") fd) (hm : mg "signs_at" = some (.ref (He.ga K "signs_at"))) : FnZ PgW.P PgW.w K mg base "signs_at" 3 [none, none, none] none S_signs_at := by
  obtain ⟨fd, F⟩ := hF
  refine FnZ.of F hm (ps := ["form", "stand", "is_written"]) (fun _ _ _ _ _ _ us hl => match us, hl with | [_, _, _], _ => rfl) ?_
  exact fnZ0 (k := 2) (rk := none) (N := N_signs_at) (ps := ["form", "stand", "is_written"]) (O' := [none, none, none]) (T := T_signs_at) 3 F sc_signs_at rfl (fun cdv A outer s H E b => by
    have nd := sc_signs_at.nd
    exact bx_one (sx_ret (ex_if (tx_val (ex_var 2)) (ex_fn z_written_signs (b.room.mono (by decide)) b.tk (aj_cons (ex_var 0) (aj_cons (ex_var 1) (aj_nil)))) (ex_of_fx (fx_listRg1 b.calm (ex_ix (ex_var 0) (ex_int)) g.f_list g.f_range))) (exOf_no (exOf_no (exOf_no (exOf_nil)))))) (.inl rfl)
/-! ### behind_head -/
def N_behind_head : List Str := ["form", "place", "sign", "mark"]
theorem sc_behind_head : FnScope N_behind_head ["form", "place", "sign"] (defScope (top 39)) := ⟨rfl, rfl, rfl, by decide +kernel, rfl, by decide +kernel, by decide +kernel⟩
def T_behind_head : Rho → Out Rho Flw := sqT (asgT 3 (binT idxD (binT idxD (varT 0) (cT (.int 1))) (varT 1))) (sqT (ifT (andT (isB (binT isNotD (varT 3) (cT .none))) (isB (binT neD (varT 3) (varT 2)))) (retT (cT .none)) (nxT)) (retT (ifT (isB (binT ltD (binT addD (varT 1) (cT (.int 1))) (callB lenD (consT (binT idxD (varT 0) (cT (.int 1))) (nilT))))) (tupT (consT (cT (.str ("head" : Str))) (consT (binT addD (varT 1) (cT (.int 1))) (nilT)))) (cT (.tuple [.str ("tag" : Str)])))))
def S_behind_head : List D → Out (List D) D := runF [] 4 T_behind_head
theorem z_behind_head {K : PySem.W.Frag} {mg : Str → Option Value} {base : Heap} (g : Gk K mg) (hF : ∃ fd, Fun K "behind_head" "behind_head" (top 39) (He.ga K "behind_head") fd) (hm : mg "behind_head" = some (.ref (He.ga K "behind_head"))) : FnZ PgW.P PgW.w K mg base "behind_head" 1 [none, none, none] none S_behind_head := by
  obtain ⟨fd, F⟩ := hF
  refine FnZ.of F hm (ps := ["form", "place", "sign"]) (fun _ _ _ _ _ _ us hl => match us, hl with | [_, _, _], _ => rfl) ?_
  exact fnZ0 (k := 0) (rk := none) (N := N_behind_head) (ps := ["form", "place", "sign"]) (O' := [none, none, none, none]) (T := T_behind_head) 3 F sc_behind_head rfl (fun cdv A outer s H E b => by
    have nd := sc_behind_head.nd
    exact bx_cons (O1 := [none, none, none, none]) (sx_set 3 nd (ex_ix (ex_ix (ex_var 0) (ex_int)) (ex_var 1)) (exOf_no (exOf_no (exOf_no (exOf_nil)))))
      (bx_cons (O1 := [none, none, none, none]) (sx_if (O' := [none, none, none, none]) (tx_pw (wx_and (tx_cmp (op_isNotZ) (sem_rD isNotD_flat) (ex_var 3) (ex_non) (nomark _)) (wx_and1 (tx_cmp (op_neZ b.hu) (sem_rD neD_flat) (ex_var 3) (ex_var 2) (nomark _))))) (bx_one (sx_ret (ex_non) (exOf_no (exOf_no (exOf_no (exOf_nil)))))) (bx_nil) (exOf_no (exOf_no (exOf_no (exOf_nil)))))
      (bx_one (sx_ret (ex_if (tx_cmp (op_ltZ b.hu) (sem_rD ordD_flat) (ex_op op_addZ (sem_add) (ex_var 1) (ex_int)) (ex_callB call_lenZ (sem_rDN lenD_flat) g.f_len rfl (ax_cons (ex_ix (ex_var 0) (ex_int)) (ax_nil))) (nomark _)) (ex_tup (ax_cons (ex_str) (ax_cons (ex_op op_addZ (sem_add) (ex_var 1) (ex_int)) (ax_nil)))) (ex_kon g.k_TAG)) (exOf_no (exOf_no (exOf_no (exOf_nil)))))))) (.inl rfl)
/-! ### use_at -/
def N_use_at : List Str := ["form", "sign", "tag", "use"]
theorem sc_use_at : FnScope N_use_at ["form", "sign"] (defScope (top 34)) := ⟨rfl, rfl, rfl, by decide +kernel, rfl, by decide +kernel, by decide +kernel⟩
def T_use_at : Rho → Out Rho Flw := sqT (forS (seqT (binT idxD (varT 0) (cT (.int 4)))) (tupG 2 (consG (setG 2) (consG (setG 3) (nilG)))) (ifT (isB (binT eqD (varT 2) (varT 1))) (retT (varT 3)) (nxT))) (retT (ifT (isB (binT eqD (binT idxD (varT 0) (cT (.int 5))) (cT (.str ("skip" : Str))))) (cT (.str ("skip" : Str))) (cT .none)))
def S_use_at : List D → Out (List D) D := runF [] 4 T_use_at
theorem z_use_at {K : PySem.W.Frag} {mg : Str → Option Value} {base : Heap} (g : Gk K mg) (hF : ∃ fd, Fun K "use_at" "use_at" (top 34) (He.ga K "use_at") fd) (hm : mg "use_at" = some (.ref (He.ga K "use_at"))) : FnZ PgW.P PgW.w K mg base "use_at" 1 [none, none] none S_use_at := by
  obtain ⟨fd, F⟩ := hF
  refine FnZ.of F hm (ps := ["form", "sign"]) (fun _ _ _ _ _ _ us hl => match us, hl with | [_, _], _ => rfl) ?_
  exact fnZ0 (k := 0) (rk := none) (N := N_use_at) (ps := ["form", "sign"]) (O' := [none, none, none, none]) (T := T_use_at) 2 F sc_use_at rfl (fun cdv A outer s H E b => by
    have nd := sc_use_at.nd
    exact bx_cons (O1 := [none, none, none, none]) (sx_for b.own b.calm (ix_seqZ (ex_ix (ex_var 0) (ex_int))) (gx_tup b.calm (gxs_cons (gx_name 2 nd) (gxs_cons (gx_name 3 nd) (gxs_nil)))) (bx_one (sx_if (O' := [none, none, none, none]) (tx_cmp (op_eqZ b.hu) (sem_rD eqD_flat) (ex_var 2) (ex_var 1) (nomark _)) (bx_one (sx_ret (ex_var 3) (exOf_no (exOf_no (exOf_nil))))) (bx_nil) (exOf_no (exOf_no (exOf_nil))))) (exOf_no (exOf_no (exOf_nil))))
      (bx_one (sx_ret (ex_if (tx_cmp (op_eqZ b.hu) (sem_rD eqD_flat) (ex_ix (ex_var 0) (ex_int)) (ex_kon g.k_SKIP) (nomark _)) (ex_kon g.k_SKIP) (ex_non)) (exOf_no (exOf_no (exOf_nil)))))) (.inl rfl)
/-! ### behind_tag -/
def N_behind_tag : List Str := ["form", "sign", "use"]
theorem sc_behind_tag : FnScope N_behind_tag ["form", "sign"] (defScope (top 40)) := ⟨rfl, rfl, rfl, by decide +kernel, rfl, by decide +kernel, by decide +kernel⟩
def T_behind_tag : Rho → Out Rho Flw := sqT (asgT 2 (callT [none, none] S_use_at (consT (varT 0) (consT (varT 1) (nilT))))) (sqT (ifT (isB (binT isD (varT 2) (cT .none))) (retT (cT .none)) (nxT)) (sqT (ifT (isB (binT eqD (varT 2) (cT (.str ("end" : Str))))) (retT (cT (.tuple [.str ("room" : Str)]))) (nxT)) (retT (ifT (isB (binT eqD (varT 2) (cT (.str ("stop" : Str))))) (cT (.tuple [.str ("over" : Str)])) (tupT (consT (cT (.str ("length" : Str))) (consT (varT 2) (nilT))))))))
def S_behind_tag : List D → Out (List D) D := runF [] 3 T_behind_tag
theorem z_behind_tag {K : PySem.W.Frag} {mg : Str → Option Value} {base : Heap} (g : Gk K mg) (z_use_at : FnZ PgW.P PgW.w K mg base "use_at" 1 [none, none] none S_use_at) (hF : ∃ fd, Fun K "behind_tag" "behind_tag" (top 40) (He.ga K "behind_tag") fd) (hm : mg "behind_tag" = some (.ref (He.ga K "behind_tag"))) : FnZ PgW.P PgW.w K mg base "behind_tag" 2 [none, none] none S_behind_tag := by
  obtain ⟨fd, F⟩ := hF
  refine FnZ.of F hm (ps := ["form", "sign"]) (fun _ _ _ _ _ _ us hl => match us, hl with | [_, _], _ => rfl) ?_
  exact fnZ0 (k := 1) (rk := none) (N := N_behind_tag) (ps := ["form", "sign"]) (O' := [none, none, none]) (T := T_behind_tag) 2 F sc_behind_tag rfl (fun cdv A outer s H E b => by
    have nd := sc_behind_tag.nd
    exact bx_cons (O1 := [none, none, none]) (sx_set 2 nd (ex_fn z_use_at (b.room.mono (by decide)) b.tk (aj_cons (ex_var 0) (aj_cons (ex_var 1) (aj_nil)))) (exOf_no (exOf_no (exOf_nil))))
      (bx_cons (O1 := [none, none, none]) (sx_if (O' := [none, none, none]) (tx_cmp (op_isZ) (sem_rD isD_flat) (ex_var 2) (ex_non) (nomark _)) (bx_one (sx_ret (ex_non) (exOf_no (exOf_no (exOf_nil))))) (bx_nil) (exOf_no (exOf_no (exOf_nil))))
      (bx_cons (O1 := [none, none, none]) (sx_if (O' := [none, none, none]) (tx_cmp (op_eqZ b.hu) (sem_rD eqD_flat) (ex_var 2) (ex_kon g.k_END) (nomark _)) (bx_one (sx_ret (ex_kon g.k_ROOM) (exOf_no (exOf_no (exOf_nil))))) (bx_nil) (exOf_no (exOf_no (exOf_nil))))
      (bx_one (sx_ret (ex_if (tx_cmp (op_eqZ b.hu) (sem_rD eqD_flat) (ex_var 2) (ex_kon g.k_STOP) (nomark _)) (ex_kon g.k_OVER) (ex_tup (ax_cons (ex_str) (ax_cons (ex_var 2) (ax_nil))))) (exOf_no (exOf_no (exOf_nil)))))))) (.inl rfl)
/-! ### body_stand -/
def N_body_stand : List Str := ["use", "length"]
theorem sc_body_stand : FnScope N_body_stand ["use", "length"] (defScope (top 35)) := ⟨rfl, rfl, rfl, by decide +kernel, rfl, by decide +kernel, by decide +kernel⟩
def T_body_stand : Rho → Out Rho Flw := sqT (ifT (isB (binT gtD (varT 1) (cT (.int 0)))) (retT (tupT (consT (cT (.str ("body" : Str))) (consT (varT 0) (consT (varT 1) (consT (cT (.int 0)) (nilT))))))) (nxT)) (retT (ifT (isB (binT eqD (varT 0) (cT (.str ("check" : Str))))) (tupT (consT (cT (.str ("sum" : Str))) (consT (cT (.int 0)) (nilT)))) (cT (.tuple [.str ("tag" : Str)]))))
def S_body_stand : List D → Out (List D) D := runF [] 2 T_body_stand
theorem z_body_stand {K : PySem.W.Frag} {mg : Str → Option Value} {base : Heap} (g : Gk K mg) (hF : ∃ fd, Fun K "body_stand" "body_stand" (top 35) (He.ga K "body_stand") fd) (hm : mg "body_stand" = some (.ref (He.ga K "body_stand"))) : FnZ PgW.P PgW.w K mg base "body_stand" 1 [none, none] none S_body_stand := by
  obtain ⟨fd, F⟩ := hF
  refine FnZ.of F hm (ps := ["use", "length"]) (fun _ _ _ _ _ _ us hl => match us, hl with | [_, _], _ => rfl) ?_
  exact fnZ0 (k := 0) (rk := none) (N := N_body_stand) (ps := ["use", "length"]) (O' := [none, none]) (T := T_body_stand) 2 F sc_body_stand rfl (fun cdv A outer s H E b => by
    have nd := sc_body_stand.nd
    exact bx_cons (O1 := [none, none]) (sx_if (O' := [none, none]) (tx_cmp (op_gtZ b.hu) (sem_rD ordD_flat) (ex_var 1) (ex_int) (nomark _)) (bx_one (sx_ret (ex_tup (ax_cons (ex_str) (ax_cons (ex_var 0) (ax_cons (ex_var 1) (ax_cons (ex_int) (ax_nil)))))) (exOf_no (exOf_no (exOf_nil))))) (bx_nil) (exOf_no (exOf_no (exOf_nil))))
      (bx_one (sx_ret (ex_if (tx_cmp (op_eqZ b.hu) (sem_rD eqD_flat) (ex_var 0) (ex_kon g.k_CHECK) (nomark _)) (ex_tup (ax_cons (ex_str) (ax_cons (ex_int) (ax_nil)))) (ex_kon g.k_TAG)) (exOf_no (exOf_no (exOf_nil)))))) (.inl rfl)
/-! ### behind_length -/
def N_behind_length : List Str := ["form", "use", "sign", "base", "most", "least"]
theorem sc_behind_length : FnScope N_behind_length ["form", "use", "sign"] (defScope (top 36)) := ⟨rfl, rfl, rfl, by decide +kernel, rfl, by decide +kernel, by decide +kernel⟩
def T_behind_length : Rho → Out Rho Flw := sqT (par2T 3 4 (consT (binT idxD (varT 0) (cT (.int 0))) (consT (binT idxD (varT 0) (cT (.int 3))) (nilT)))) (sqT (ifT (isB (binT eqD (binT idxD (varT 0) (cT (.int 2))) (cT (.str ("one" : Str))))) (retT (ifT (isB (binT leD (varT 2) (varT 4))) (callT [none, none] S_body_stand (consT (varT 1) (consT (varT 2) (nilT)))) (cT .none))) (nxT)) (sqT (asgT 5 (ifT (isB (binT eqD (binT idxD (varT 0) (cT (.int 2))) (cT (.str ("high" : Str))))) (binT mulD (varT 2) (varT 3)) (varT 2))) (retT (ifT (isB (binT leD (varT 5) (varT 4))) (tupT (consT (cT (.str ("second" : Str))) (consT (varT 1) (consT (varT 2) (nilT))))) (cT .none)))))
def S_behind_length : List D → Out (List D) D := runF [] 6 T_behind_length
theorem z_behind_length {K : PySem.W.Frag} {mg : Str → Option Value} {base : Heap} (g : Gk K mg) (z_body_stand : FnZ PgW.P PgW.w K mg base "body_stand" 1 [none, none] none S_body_stand) (hF : ∃ fd, Fun K "behind_length" "behind_length" (top 36) (He.ga K "behind_length") fd) (hm : mg "behind_length" = some (.ref (He.ga K "behind_length"))) : FnZ PgW.P PgW.w K mg base "behind_length" 2 [none, none, none] none S_behind_length := by
  obtain ⟨fd, F⟩ := hF
  refine FnZ.of F hm (ps := ["form", "use", "sign"]) (fun _ _ _ _ _ _ us hl => match us, hl with | [_, _, _], _ => rfl) ?_
  exact fnZ0 (k := 1) (rk := none) (N := N_behind_length) (ps := ["form", "use", "sign"]) (O' := [none, none, none, none, none, none]) (T := T_behind_length) 3 F sc_behind_length rfl (fun cdv A outer s H E b => by
    have nd := sc_behind_length.nd
    exact bx_cons (O1 := [none, none, none, none, none, none]) (sx_par2 3 4 (k := none) (l := none) b.calm nd (af_cons (ex_ix (ex_var 0) (ex_int)) (af_cons (ex_ix (ex_var 0) (ex_int)) (af_nil))) (exOf_no (exOf_no (exOf_no (exOf_nil)))) (by rfl))
      (bx_cons (O1 := [none, none, none, none, none, none]) (sx_if (O' := [none, none, none, none, none, none]) (tx_cmp (op_eqZ b.hu) (sem_rD eqD_flat) (ex_ix (ex_var 0) (ex_int)) (ex_kon g.k_ONE) (nomark _)) (bx_one (sx_ret (ex_if (tx_cmp (op_leZ b.hu) (sem_rD ordD_flat) (ex_var 2) (ex_var 4) (nomark _)) (ex_fn z_body_stand (b.room.mono (by decide)) b.tk (aj_cons (ex_var 1) (aj_cons (ex_var 2) (aj_nil)))) (ex_non)) (exOf_no (exOf_no (exOf_no (exOf_nil)))))) (bx_nil) (exOf_no (exOf_no (exOf_no (exOf_nil)))))
      (bx_cons (O1 := [none, none, none, none, none, none]) (sx_set 5 nd (ex_if (tx_cmp (op_eqZ b.hu) (sem_rD eqD_flat) (ex_ix (ex_var 0) (ex_int)) (ex_kon g.k_HIGH) (nomark _)) (ex_op op_mulZ (sem_rD intD_flat) (ex_var 2) (ex_var 3)) (ex_var 2)) (exOf_no (exOf_no (exOf_no (exOf_nil)))))
      (bx_one (sx_ret (ex_if (tx_cmp (op_leZ b.hu) (sem_rD ordD_flat) (ex_var 5) (ex_var 4) (nomark _)) (ex_tup (ax_cons (ex_str) (ax_cons (ex_var 1) (ax_cons (ex_var 2) (ax_nil))))) (ex_non)) (exOf_no (exOf_no (exOf_no (exOf_nil))))))))) (.inl rfl)
/-! ### behind_second -/
def N_behind_second : List Str := ["form", "use", "first", "sign", "length"]
theorem sc_behind_second : FnScope N_behind_second ["form", "use", "first", "sign"] (defScope (top 37)) := ⟨rfl, rfl, rfl, by decide +kernel, rfl, by decide +kernel, by decide +kernel⟩
def T_behind_second : Rho → Out Rho Flw := sqT (asgT 4 (ifT (isB (binT eqD (binT idxD (varT 0) (cT (.int 2))) (cT (.str ("high" : Str))))) (binT addD (binT mulD (varT 2) (binT idxD (varT 0) (cT (.int 0)))) (varT 3)) (binT addD (binT mulD (varT 3) (binT idxD (varT 0) (cT (.int 0)))) (varT 2)))) (retT (ifT (isB (binT leD (varT 4) (binT idxD (varT 0) (cT (.int 3))))) (callT [none, none] S_body_stand (consT (varT 1) (consT (varT 4) (nilT)))) (cT .none)))
def S_behind_second : List D → Out (List D) D := runF [] 5 T_behind_second
theorem z_behind_second {K : PySem.W.Frag} {mg : Str → Option Value} {base : Heap} (g : Gk K mg) (z_body_stand : FnZ PgW.P PgW.w K mg base "body_stand" 1 [none, none] none S_body_stand) (hF : ∃ fd, Fun K "behind_second" "behind_second" (top 37) (He.ga K "behind_second") fd) (hm : mg "behind_second" = some (.ref (He.ga K "behind_second"))) : FnZ PgW.P PgW.w K mg base "behind_second" 2 [none, none, none, none] none S_behind_second := by
  obtain ⟨fd, F⟩ := hF
  refine FnZ.of F hm (ps := ["form", "use", "first", "sign"]) (fun _ _ _ _ _ _ us hl => match us, hl with | [_, _, _, _], _ => rfl) ?_
  exact fnZ0 (k := 1) (rk := none) (N := N_behind_second) (ps := ["form", "use", "first", "sign"]) (O' := [none, none, none, none, none]) (T := T_behind_second) 4 F sc_behind_second rfl (fun cdv A outer s H E b => by
    have nd := sc_behind_second.nd
    exact bx_cons (O1 := [none, none, none, none, none]) (sx_set 4 nd (ex_if (tx_cmp (op_eqZ b.hu) (sem_rD eqD_flat) (ex_ix (ex_var 0) (ex_int)) (ex_kon g.k_HIGH) (nomark _)) (ex_op op_addZ (sem_add) (ex_op op_mulZ (sem_rD intD_flat) (ex_var 2) (ex_ix (ex_var 0) (ex_int))) (ex_var 3)) (ex_op op_addZ (sem_add) (ex_op op_mulZ (sem_rD intD_flat) (ex_var 3) (ex_ix (ex_var 0) (ex_int))) (ex_var 2))) (exOf_no (exOf_no (exOf_no (exOf_no (exOf_nil))))))
      (bx_one (sx_ret (ex_if (tx_cmp (op_leZ b.hu) (sem_rD ordD_flat) (ex_var 4) (ex_ix (ex_var 0) (ex_int)) (nomark _)) (ex_fn z_body_stand (b.room.mono (by decide)) b.tk (aj_cons (ex_var 1) (aj_cons (ex_var 4) (aj_nil)))) (ex_non)) (exOf_no (exOf_no (exOf_no (exOf_no (exOf_nil)))))))) (.inl rfl)
/-! ### behind_body -/
def N_behind_body : List Str := ["form", "stand", "sign", "use", "left", "total"]
theorem sc_behind_body : FnScope N_behind_body ["form", "stand", "sign"] (defScope (top 38)) := ⟨rfl, rfl, rfl, by decide +kernel, rfl, by decide +kernel, by decide +kernel⟩
def T_behind_body : Rho → Out Rho Flw := sqT (tgtT (tupG 3 (consG (setG 3) (consG (setG 4) (consG (setG 5) (nilG))))) (slcT (varT 1) (someP (cT (.int 1))) (noP))) (sqT (ifT (isB (binT eqD (varT 3) (cT (.str ("check" : Str))))) (asgT 5 (binT modD (callB intC (consT (binT addD (varT 5) (varT 2)) (nilT))) (binT idxD (varT 0) (cT (.int 0))))) (nxT)) (sqT (ifT (isB (binT gtD (varT 4) (cT (.int 1)))) (retT (tupT (consT (cT (.str ("body" : Str))) (consT (varT 3) (consT (binT subD (varT 4) (cT (.int 1))) (consT (varT 5) (nilT))))))) (nxT)) (retT (ifT (isB (binT eqD (varT 3) (cT (.str ("check" : Str))))) (tupT (consT (cT (.str ("sum" : Str))) (consT (varT 5) (nilT)))) (cT (.tuple [.str ("tag" : Str)]))))))
def S_behind_body : List D → Out (List D) D := runF [] 6 T_behind_body
theorem z_behind_body {K : PySem.W.Frag} {mg : Str → Option Value} {base : Heap} (g : Gk K mg) (hF : ∃ fd, Fun K "behind_body" "behind_body" (top 38) (He.ga K "behind_body") fd) (hm : mg "behind_body" = some (.ref (He.ga K "behind_body"))) : FnZ PgW.P PgW.w K mg base "behind_body" 1 [none, none, none] none S_behind_body := by
  obtain ⟨fd, F⟩ := hF
  refine FnZ.of F hm (ps := ["form", "stand", "sign"]) (fun _ _ _ _ _ _ us hl => match us, hl with | [_, _, _], _ => rfl) ?_
  exact fnZ0 (k := 0) (rk := none) (N := N_behind_body) (ps := ["form", "stand", "sign"]) (O' := [none, none, none, none, none, none]) (T := T_behind_body) 3 F sc_behind_body rfl (fun cdv A outer s H E b => by
    have nd := sc_behind_body.nd
    exact bx_cons (O1 := [none, none, none, none, none, none]) (sx_tgt (ex_slice (ex_var 1) (px_some (ex_int)) (px_none)) (gx_tup b.calm (gxs_cons (gx_name 3 nd) (gxs_cons (gx_name 4 nd) (gxs_cons (gx_name 5 nd) (gxs_nil))))) (exOf_no (exOf_no (exOf_no (exOf_nil)))))
      (bx_cons (O1 := [none, none, none, none, none, none]) (sx_if (O' := [none, none, none, none, none, none]) (tx_cmp (op_eqZ b.hu) (sem_rD eqD_flat) (ex_var 3) (ex_kon g.k_CHECK) (nomark _)) (bx_one (sx_set 5 nd (ex_op op_modZ (sem_rD intD_flat) (ex_callTy call_intZ (sem_rDN intC_flat) g.f_int rfl (ax_cons (ex_op op_addZ (sem_add) (ex_var 5) (ex_var 2)) (ax_nil))) (ex_ix (ex_var 0) (ex_int))) (exOf_no (exOf_no (exOf_no (exOf_nil)))))) (bx_nil) (exOf_no (exOf_no (exOf_no (exOf_nil)))))
      (bx_cons (O1 := [none, none, none, none, none, none]) (sx_if (O' := [none, none, none, none, none, none]) (tx_cmp (op_gtZ b.hu) (sem_rD ordD_flat) (ex_var 4) (ex_int) (nomark _)) (bx_one (sx_ret (ex_tup (ax_cons (ex_str) (ax_cons (ex_var 3) (ax_cons (ex_op op_subZ (sem_rD intD_flat) (ex_var 4) (ex_int)) (ax_cons (ex_var 5) (ax_nil)))))) (exOf_no (exOf_no (exOf_no (exOf_nil)))))) (bx_nil) (exOf_no (exOf_no (exOf_no (exOf_nil)))))
      (bx_one (sx_ret (ex_if (tx_cmp (op_eqZ b.hu) (sem_rD eqD_flat) (ex_var 3) (ex_kon g.k_CHECK) (nomark _)) (ex_tup (ax_cons (ex_str) (ax_cons (ex_var 5) (ax_nil)))) (ex_kon g.k_TAG)) (exOf_no (exOf_no (exOf_no (exOf_nil))))))))) (.inl rfl)
/-! ### step -/
def N_step : List Str := ["form", "stand", "sign", "word"]
theorem sc_step : FnScope N_step ["form", "stand", "sign"] (defScope (top 41)) := ⟨rfl, rfl, rfl, by decide +kernel, rfl, by decide +kernel, by decide +kernel⟩
def T_step : Rho → Out Rho Flw := sqT (asgT 3 (binT idxD (varT 1) (cT (.int 0)))) (sqT (ifT (isB (binT eqD (varT 3) (cT (.str ("head" : Str))))) (retT (callT [none, none, none] S_behind_head (consT (varT 0) (consT (binT idxD (varT 1) (cT (.int 1))) (consT (varT 2) (nilT)))))) (nxT)) (sqT (ifT (isB (binT eqD (varT 3) (cT (.str ("tag" : Str))))) (retT (callT [none, none] S_behind_tag (consT (varT 0) (consT (varT 2) (nilT))))) (nxT)) (sqT (ifT (isB (binT eqD (varT 3) (cT (.str ("length" : Str))))) (retT (callT [none, none, none] S_behind_length (consT (varT 0) (consT (binT idxD (varT 1) (cT (.int 1))) (consT (varT 2) (nilT)))))) (nxT)) (sqT (ifT (isB (binT eqD (varT 3) (cT (.str ("second" : Str))))) (retT (callT [none, none, none, none] S_behind_second (consT (varT 0) (consT (binT idxD (varT 1) (cT (.int 1))) (consT (binT idxD (varT 1) (cT (.int 2))) (consT (varT 2) (nilT))))))) (nxT)) (sqT (ifT (isB (binT eqD (varT 3) (cT (.str ("body" : Str))))) (retT (callT [none, none, none] S_behind_body (consT (varT 0) (consT (varT 1) (consT (varT 2) (nilT)))))) (nxT)) (sqT (ifT (isB (binT eqD (varT 3) (cT (.str ("sum" : Str))))) (retT (ifT (isB (binT eqD (varT 2) (binT idxD (varT 1) (cT (.int 1))))) (cT (.tuple [.str ("tag" : Str)])) (cT .none))) (nxT)) (retT (ifT (isB (binT eqD (varT 3) (cT (.str ("room" : Str))))) (cT (.tuple [.str ("room" : Str)])) (cT .none)))))))))
def S_step : List D → Out (List D) D := runF [] 4 T_step
theorem z_step {K : PySem.W.Frag} {mg : Str → Option Value} {base : Heap} (g : Gk K mg) (z_behind_body : FnZ PgW.P PgW.w K mg base "behind_body" 1 [none, none, none] none S_behind_body) (z_behind_head : FnZ PgW.P PgW.w K mg base "behind_head" 1 [none, none, none] none S_behind_head) (z_behind_length : FnZ PgW.P PgW.w K mg base "behind_length" 2 [none, none, none] none S_behind_length) (z_behind_second : FnZ PgW.P PgW.w K mg base "behind_second" 2 [none, none, none, none] none S_behind_second) (z_behind_tag : FnZ PgW.P PgW.w K mg base "behind_tag" 2 [none, none] none S_behind_tag) (hF : ∃ fd, Fun K "step" "step" (top 41) (He.ga K "step") fd) (hm : mg "step" = some (.ref (He.ga K "step"))) : FnZ PgW.P PgW.w K mg base "step" 3 [none, none, none] none S_step := by
  obtain ⟨fd, F⟩ := hF
  refine FnZ.of F hm (ps := ["form", "stand", "sign"]) (fun _ _ _ _ _ _ us hl => match us, hl with | [_, _, _], _ => rfl) ?_
  exact fnZ0 (k := 2) (rk := none) (N := N_step) (ps := ["form", "stand", "sign"]) (O' := [none, none, none, none]) (T := T_step) 3 F sc_step rfl (fun cdv A outer s H E b => by
    have nd := sc_step.nd
    exact bx_cons (O1 := [none, none, none, none]) (sx_set 3 nd (ex_ix (ex_var 1) (ex_int)) (exOf_no (exOf_no (exOf_no (exOf_nil)))))
      (bx_cons (O1 := [none, none, none, none]) (sx_if (O' := [none, none, none, none]) (tx_cmp (op_eqZ b.hu) (sem_rD eqD_flat) (ex_var 3) (ex_str) (nomark _)) (bx_one (sx_ret (ex_fn z_behind_head (b.room.mono (by decide)) b.tk (aj_cons (ex_var 0) (aj_cons (ex_ix (ex_var 1) (ex_int)) (aj_cons (ex_var 2) (aj_nil))))) (exOf_no (exOf_no (exOf_no (exOf_nil)))))) (bx_nil) (exOf_no (exOf_no (exOf_no (exOf_nil)))))
      (bx_cons (O1 := [none, none, none, none]) (sx_if (O' := [none, none, none, none]) (tx_cmp (op_eqZ b.hu) (sem_rD eqD_flat) (ex_var 3) (ex_str) (nomark _)) (bx_one (sx_ret (ex_fn z_behind_tag (b.room.mono (by decide)) b.tk (aj_cons (ex_var 0) (aj_cons (ex_var 2) (aj_nil)))) (exOf_no (exOf_no (exOf_no (exOf_nil)))))) (bx_nil) (exOf_no (exOf_no (exOf_no (exOf_nil)))))
      (bx_cons (O1 := [none, none, none, none]) (sx_if (O' := [none, none, none, none]) (tx_cmp (op_eqZ b.hu) (sem_rD eqD_flat) (ex_var 3) (ex_str) (nomark _)) (bx_one (sx_ret (ex_fn z_behind_length (b.room.mono (by decide)) b.tk (aj_cons (ex_var 0) (aj_cons (ex_ix (ex_var 1) (ex_int)) (aj_cons (ex_var 2) (aj_nil))))) (exOf_no (exOf_no (exOf_no (exOf_nil)))))) (bx_nil) (exOf_no (exOf_no (exOf_no (exOf_nil)))))
      (bx_cons (O1 := [none, none, none, none]) (sx_if (O' := [none, none, none, none]) (tx_cmp (op_eqZ b.hu) (sem_rD eqD_flat) (ex_var 3) (ex_str) (nomark _)) (bx_one (sx_ret (ex_fn z_behind_second (b.room.mono (by decide)) b.tk (aj_cons (ex_var 0) (aj_cons (ex_ix (ex_var 1) (ex_int)) (aj_cons (ex_ix (ex_var 1) (ex_int)) (aj_cons (ex_var 2) (aj_nil)))))) (exOf_no (exOf_no (exOf_no (exOf_nil)))))) (bx_nil) (exOf_no (exOf_no (exOf_no (exOf_nil)))))
      (bx_cons (O1 := [none, none, none, none]) (sx_if (O' := [none, none, none, none]) (tx_cmp (op_eqZ b.hu) (sem_rD eqD_flat) (ex_var 3) (ex_str) (nomark _)) (bx_one (sx_ret (ex_fn z_behind_body (b.room.mono (by decide)) b.tk (aj_cons (ex_var 0) (aj_cons (ex_var 1) (aj_cons (ex_var 2) (aj_nil))))) (exOf_no (exOf_no (exOf_no (exOf_nil)))))) (bx_nil) (exOf_no (exOf_no (exOf_no (exOf_nil)))))
      (bx_cons (O1 := [none, none, none, none]) (sx_if (O' := [none, none, none, none]) (tx_cmp (op_eqZ b.hu) (sem_rD eqD_flat) (ex_var 3) (ex_str) (nomark _)) (bx_one (sx_ret (ex_if (tx_cmp (op_eqZ b.hu) (sem_rD eqD_flat) (ex_var 2) (ex_ix (ex_var 1) (ex_int)) (nomark _)) (ex_kon g.k_TAG) (ex_non)) (exOf_no (exOf_no (exOf_no (exOf_nil)))))) (bx_nil) (exOf_no (exOf_no (exOf_no (exOf_nil)))))
      (bx_one (sx_ret (ex_if (tx_cmp (op_eqZ b.hu) (sem_rD eqD_flat) (ex_var 3) (ex_str) (nomark _)) (ex_kon g.k_ROOM) (ex_non)) (exOf_no (exOf_no (exOf_no (exOf_nil))))))))))))) (.inl rfl)
/-! ### is_news -/
def N_is_news : List Str := ["leads", "lead"]
theorem sc_is_news : FnScope N_is_news ["leads", "lead"] (defScope (top 60)) := ⟨rfl, rfl, rfl, by decide +kernel, rfl, by decide +kernel, by decide +kernel⟩
def T_is_news : Rho → Out Rho Flw := retT (andV (binT ltD (callB lenD (consT (varT 0) (nilT))) (cT (.int 2))) (andV (binT notInD (cT .none) (varT 0)) (binT notInD (varT 1) (varT 0))))
def S_is_news : List D → Out (List D) D := runF [] 2 T_is_news
theorem z_is_news {K : PySem.W.Frag} {mg : Str → Option Value} {base : Heap} (g : Gk K mg) (hF : ∃ fd, Fun K "is_news" "is_news" (top 60) (He.ga K "is_news") fd) (hm : mg "is_news" = some (.ref (He.ga K "is_news"))) : FnZ PgW.P PgW.w K mg base "is_news" 1 [none, none] none S_is_news := by
  obtain ⟨fd, F⟩ := hF
  refine FnZ.of F hm (ps := ["leads", "lead"]) (fun _ _ _ _ _ _ us hl => match us, hl with | [_, _], _ => rfl) ?_
  exact fnZ0 (k := 0) (rk := none) (N := N_is_news) (ps := ["leads", "lead"]) (O' := [none, none]) (T := T_is_news) 2 F sc_is_news rfl (fun cdv A outer s H E b => by
    have nd := sc_is_news.nd
    exact bx_one (sx_ret (ex_and (ex_cmp (op_ltZ b.hu) (sem_rD ordD_flat) (ex_callB call_lenZ (sem_rDN lenD_flat) g.f_len rfl (ax_cons (ex_var 0) (ax_nil))) (ex_int) (nomark _)) (ex_and (ex_cmp (op_notInZ b.hu) (sem_rD notInD_flat) (ex_non) (ex_var 0) (by with_unfolding_all rfl)) (ex_one (ex_cmp (op_notInZ b.hu) (sem_rD notInD_flat) (ex_var 1) (ex_var 0) (by with_unfolding_all rfl))))) (exOf_no (exOf_no (exOf_nil))))) (.inl rfl)
/-! ### lead_behind -/
def N_lead_behind : List Str := ["lead", "mine", "its", "left", "right", "at"]
theorem sc_lead_behind : FnScope N_lead_behind ["lead", "mine", "its"] (defScope (top 59)) := ⟨rfl, rfl, rfl, by decide +kernel, rfl, by decide +kernel, by decide +kernel⟩
def T_lead_behind : Rho → Out Rho Flw := sqT (ifT (isB (binT isD (varT 0) (cT .none))) (retT (cT .none)) (nxT)) (sqT (par3T 3 4 5 (consT (binT addD (binT idxD (varT 0) (cT (.int 0))) (varT 1)) (consT (binT addD (binT idxD (varT 0) (cT (.int 1))) (varT 2)) (consT (cT (.int 0)) (nilT))))) (sqT (whT (andT (isB (binT ltD (varT 5) (callB lenD (consT (varT 3) (nilT))))) (andT (isB (binT ltD (varT 5) (callB lenD (consT (varT 4) (nilT))))) (isB (binT eqD (binT idxD (varT 3) (varT 5)) (binT idxD (varT 4) (varT 5)))))) (asgT 5 (binT addD (varT 5) (cT (.int 1)))) fuel) (retT (ifT (orT (isB (binT eqD (varT 5) (callB lenD (consT (varT 3) (nilT))))) (isB (binT eqD (varT 5) (callB lenD (consT (varT 4) (nilT)))))) (tupT (consT (slcT (varT 3) (someP (varT 5)) (noP)) (consT (slcT (varT 4) (someP (varT 5)) (noP)) (nilT)))) (cT .none)))))
def S_lead_behind : List D → Out (List D) D := runF [] 6 T_lead_behind
theorem z_lead_behind {K : PySem.W.Frag} {mg : Str → Option Value} {base : Heap} (g : Gk K mg) (hF : ∃ fd, Fun K "lead_behind" "lead_behind" (top 59) (He.ga K "lead_behind") fd) (hm : mg "lead_behind" = some (.ref (He.ga K "lead_behind"))) : FnZ PgW.P PgW.w K mg base "lead_behind" 1 [none, none, none] none S_lead_behind := by
  obtain ⟨fd, F⟩ := hF
  refine FnZ.of F hm (ps := ["lead", "mine", "its"]) (fun _ _ _ _ _ _ us hl => match us, hl with | [_, _, _], _ => rfl) ?_
  exact fnZ0 (k := 0) (rk := none) (N := N_lead_behind) (ps := ["lead", "mine", "its"]) (O' := [none, none, none, none, none, none]) (T := T_lead_behind) 3 F sc_lead_behind rfl (fun cdv A outer s H E b => by
    have nd := sc_lead_behind.nd
    exact bx_cons (O1 := [none, none, none, none, none, none]) (sx_if (O' := [none, none, none, none, none, none]) (tx_cmp (op_isZ) (sem_rD isD_flat) (ex_var 0) (ex_non) (nomark _)) (bx_one (sx_ret (ex_non) (exOf_no (exOf_no (exOf_no (exOf_nil)))))) (bx_nil) (exOf_no (exOf_no (exOf_no (exOf_nil)))))
      (bx_cons (O1 := [none, none, none, none, none, none]) (sx_par3 3 4 5 b.calm nd (ax_cons (ex_op op_addZ (sem_add) (ex_ix (ex_var 0) (ex_int)) (ex_var 1)) (ax_cons (ex_op op_addZ (sem_add) (ex_ix (ex_var 0) (ex_int)) (ex_var 2)) (ax_cons (ex_int) (ax_nil)))) (exOf_no (exOf_no (exOf_no (exOf_nil)))) (by rfl))
      (bx_cons (O1 := [none, none, none, none, none, none]) (sx_while fuel b.own (tx_pw (wx_and (tx_cmp (op_ltZ b.hu) (sem_rD ordD_flat) (ex_var 5) (ex_callB call_lenZ (sem_rDN lenD_flat) g.f_len rfl (ax_cons (ex_var 3) (ax_nil))) (nomark _)) (wx_and (tx_cmp (op_ltZ b.hu) (sem_rD ordD_flat) (ex_var 5) (ex_callB call_lenZ (sem_rDN lenD_flat) g.f_len rfl (ax_cons (ex_var 4) (ax_nil))) (nomark _)) (wx_and1 (tx_cmp (op_eqZ b.hu) (sem_rD eqD_flat) (ex_ix (ex_var 3) (ex_var 5)) (ex_ix (ex_var 4) (ex_var 5)) (nomark _)))))) (bx_one (sx_set 5 nd (ex_op op_addZ (sem_add) (ex_var 5) (ex_int)) (exOf_no (exOf_no (exOf_no (exOf_nil)))))) (exOf_no (exOf_no (exOf_no (exOf_nil)))))
      (bx_one (sx_ret (ex_if (tx_pw (wx_or (tx_cmp (op_eqZ b.hu) (sem_rD eqD_flat) (ex_var 5) (ex_callB call_lenZ (sem_rDN lenD_flat) g.f_len rfl (ax_cons (ex_var 3) (ax_nil))) (nomark _)) (wx_or1 (tx_cmp (op_eqZ b.hu) (sem_rD eqD_flat) (ex_var 5) (ex_callB call_lenZ (sem_rDN lenD_flat) g.f_len rfl (ax_cons (ex_var 4) (ax_nil))) (nomark _))))) (ex_tup (ax_cons (ex_slice (ex_var 3) (px_some (ex_var 5)) (px_none)) (ax_cons (ex_slice (ex_var 4) (px_some (ex_var 5)) (px_none)) (ax_nil)))) (ex_non)) (exOf_no (exOf_no (exOf_no (exOf_nil))))))))) (.inl rfl)
/-! ### told_at_faces -/
def N_told_at_faces : List Str := ["form", "stand", "sign"]
theorem sc_told_at_faces : FnScope N_told_at_faces ["form", "stand", "sign"] (defScope (top 57)) := ⟨rfl, rfl, rfl, by decide +kernel, rfl, by decide +kernel, by decide +kernel⟩
def T_told_at_faces : Rho → Out Rho Flw := sqT (ifT (isB (binT eqD (varT 1) (cT (.tuple [.str ("tag" : Str)])))) (retT (ifT (isB (binT inD (callT [none, none] S_use_at (consT (varT 0) (consT (varT 2) (nilT)))) (cT (.tuple [.str ("keep" : Str), .str ("check" : Str)])))) (tupT (consT (binT subD (negT (cT (.int 1))) (varT 2)) (nilT))) (tupT (nilT)))) (nxT)) (retT (ifT (andT (isB (binT eqD (binT idxD (varT 1) (cT (.int 0))) (cT (.str ("body" : Str))))) (isB (binT inD (binT idxD (varT 1) (cT (.int 1))) (cT (.tuple [.str ("keep" : Str), .str ("check" : Str)]))))) (tupT (consT (varT 2) (nilT))) (tupT (nilT))))
def S_told_at_faces : List D → Out (List D) D := runF [] 3 T_told_at_faces
theorem z_told_at_faces {K : PySem.W.Frag} {mg : Str → Option Value} {base : Heap} (g : Gk K mg) (z_use_at : FnZ PgW.P PgW.w K mg base "use_at" 1 [none, none] none S_use_at) (hF : ∃ fd, Fun K "told_at" "told_at" (top 57) (He.ga K "told_at_faces") fd) (hm : mg "told_at_faces" = some (.ref (He.ga K "told_at_faces"))) : FnZ PgW.P PgW.w K mg base "told_at_faces" 2 [none, none, none] none S_told_at_faces := by
  obtain ⟨fd, F⟩ := hF
  refine FnZ.of F hm (ps := ["form", "stand", "sign"]) (fun _ _ _ _ _ _ us hl => match us, hl with | [_, _, _], _ => rfl) ?_
  exact fnZ0 (k := 1) (rk := none) (N := N_told_at_faces) (ps := ["form", "stand", "sign"]) (O' := [none, none, none]) (T := T_told_at_faces) 3 F sc_told_at_faces rfl (fun cdv A outer s H E b => by
    have nd := sc_told_at_faces.nd
    exact bx_cons (O1 := [none, none, none]) (sx_if (O' := [none, none, none]) (tx_cmp (op_eqZ b.hu) (sem_rD eqD_flat) (ex_var 1) (ex_kon g.k_TAG) (nomark _)) (bx_one (sx_ret (ex_if (tx_cmp (op_inZ b.hu) (sem_rD inD_flat) (ex_fn z_use_at (b.room.mono (by decide)) b.tk (aj_cons (ex_var 0) (aj_cons (ex_var 2) (aj_nil)))) (ex_kon g.k_TOLD) (by with_unfolding_all rfl)) (ex_tup (ax_cons (ex_op op_subZ (sem_rD intD_flat) (ex_neg (ex_int)) (ex_var 2)) (ax_nil))) (ex_tup (ax_nil))) (exOf_no (exOf_no (exOf_no (exOf_nil)))))) (bx_nil) (exOf_no (exOf_no (exOf_no (exOf_nil)))))
      (bx_one (sx_ret (ex_if (tx_pw (wx_and (tx_cmp (op_eqZ b.hu) (sem_rD eqD_flat) (ex_ix (ex_var 1) (ex_int)) (ex_str) (nomark _)) (wx_and1 (tx_cmp (op_inZ b.hu) (sem_rD inD_flat) (ex_ix (ex_var 1) (ex_int)) (ex_kon g.k_TOLD) (by with_unfolding_all rfl))))) (ex_tup (ax_cons (ex_var 2) (ax_nil))) (ex_tup (ax_nil))) (exOf_no (exOf_no (exOf_no (exOf_nil))))))) (.inl rfl)
/-! ### worse_in -/
def N_worse_in : List Str := ["one", "other", "is_written", "start", "known", "front", "later", "signs", "stand", "its", "lead", "sign", "behind", "further", "ahead", "pair"]
theorem sc_worse_in : FnScope N_worse_in ["one", "other", "is_written"] (defScope (top 65)) := ⟨rfl, rfl, rfl, by decide +kernel, rfl, by decide +kernel, by decide +kernel⟩
def T_worse_in : Rho → Out Rho Flw := sqT (asgT 3 (tupT (consT (callT [none] S_first_stand (consT (varT 0) (nilT))) (consT (callT [none] S_first_stand (consT (varT 1) (nilT))) (nilT))))) (sqT (par2T 4 5 (consT (dct1T (varT 3) (lstT (consT (cT (.tuple (List.replicate 2 (.tuple [])))) (nilT)))) (consT (lstT (consT (tupT (consT (tupT (nilT)) (consT (varT 3) (consT (cT (.tuple (List.replicate 2 (.tuple [])))) (nilT))))) (nilT))) (nilT)))) (sqT (whT (isB (binT neD (varT 5) (lstT (nilT)))) (sqT (asgT 6 (lstT (nilT))) (sqT (forS (seqT (varT 5)) (tupG 3 (consG (setG 7) (consG (tupG 2 (consG (setG 8) (consG (setG 9) (nilG)))) (consG (setG 10) (nilG))))) (sqT (ifT (isB (callT [none, none, none, none, none] S_is_worse (consT (varT 0) (consT (varT 1) (consT (varT 8) (consT (varT 9) (consT (varT 10) (nilT)))))))) (retT (varT 7)) (nxT)) (forS (seqT (callT [none, none, none] S_signs_at (consT (varT 0) (consT (varT 8) (consT (varT 2) (nilT)))))) (setG 11) (sqT (asgT 12 (callT [none, none, none] S_step (consT (varT 0) (consT (varT 8) (consT (varT 11) (nilT)))))) (ifT (isB (binT isNotD (varT 12) (cT .none))) (sqT (asgT 13 (ifT (isB (binT isD (varT 9) (cT .none))) (cT .none) (callT [none, none, none] S_step (consT (varT 1) (consT (varT 9) (consT (varT 11) (nilT))))))) (sqT (asgT 14 (cT .none)) (sqT (ifT (isB (binT isNotD (varT 13) (cT .none))) (asgT 14 (callT [none, none, none] S_lead_behind (consT (varT 10) (consT (callT [none, none, none] S_told_at_faces (consT (varT 0) (consT (varT 8) (consT (varT 11) (nilT))))) (consT (callT [none, none, none] S_told_at_faces (consT (varT 1) (consT (varT 9) (consT (varT 11) (nilT))))) (nilT)))))) (nxT)) (sqT (asgT 15 (tupT (consT (varT 12) (consT (varT 13) (nilT))))) (ifT (isB (callT [none, none] S_is_news (consT (getO 4 (varT 15) (lstT (nilT))) (consT (varT 14) (nilT))))) (sqT (stK 4 (varT 15) (binT addD (getO 4 (varT 15) (lstT (nilT))) (lstT (consT (varT 14) (nilT))))) (appT 6 (tupT (consT (tupT (starT (varT 7) (consT (varT 11) (nilT)))) (consT (varT 15) (consT (varT 14) (nilT))))))) (nxT)))))) (nxT)))))) (asgT 5 (varT 6)))) fuel) (retT (cT .none))))
def S_worse_in : List D → Out (List D) D := runF [] 16 T_worse_in
theorem z_worse_in {K : PySem.W.Frag} {mg : Str → Option Value} {base : Heap} (g : Gk K mg) (z_first_stand : FnZ PgW.P PgW.w K mg base "first_stand" 1 [none] none S_first_stand) (z_is_news : FnZ PgW.P PgW.w K mg base "is_news" 1 [none, none] none S_is_news) (z_is_worse : FnZ PgW.P PgW.w K mg base "is_worse" 2 [none, none, none, none, none] none S_is_worse) (z_lead_behind : FnZ PgW.P PgW.w K mg base "lead_behind" 1 [none, none, none] none S_lead_behind) (z_signs_at : FnZ PgW.P PgW.w K mg base "signs_at" 3 [none, none, none] none S_signs_at) (z_step : FnZ PgW.P PgW.w K mg base "step" 3 [none, none, none] none S_step) (z_told_at_faces : FnZ PgW.P PgW.w K mg base "told_at_faces" 2 [none, none, none] none S_told_at_faces) (hF : ∃ fd, Fun K "worse_in" "worse_in" (top 65) (He.ga K "worse_in") fd) (hm : mg "worse_in" = some (.ref (He.ga K "worse_in"))) : FnZ PgW.P PgW.w K mg base "worse_in" 4 [none, none, none] none S_worse_in := by
  obtain ⟨fd, F⟩ := hF
  refine FnZ.of F hm (ps := ["one", "other", "is_written"]) (fun _ _ _ _ _ _ us hl => match us, hl with | [_, _, _], _ => rfl) ?_
  exact fnZ0 (k := 3) (rk := none) (N := N_worse_in) (ps := ["one", "other", "is_written"]) (O' := [none, none, none, none, some .dct, none, none, none, none, none, none, none, none, none, none, none]) (T := T_worse_in) 3 F sc_worse_in rfl (fun cdv A outer s H E b => by
    have nd := sc_worse_in.nd
    exact bx_cons (O1 := [none, none, none, none, none, none, none, none, none, none, none, none, none, none, none, none]) (sx_set 3 nd (ex_tup (ax_cons (ex_fn z_first_stand (b.room.mono (by decide)) b.tk (aj_cons (ex_var 0) (aj_nil))) (ax_cons (ex_fn z_first_stand (b.room.mono (by decide)) b.tk (aj_cons (ex_var 1) (aj_nil))) (ax_nil)))) (exOf_no (exOf_no (exOf_no (exOf_nil)))))
      (bx_cons (O1 := [none, none, none, none, some .dct, none, none, none, none, none, none, none, none, none, none, none]) (sx_par2 4 5 (k := (some .dct)) (l := none) b.calm nd (af_new (fx_dct1 b.hu (ex_var 3) (ex_of_fx (fx_lst (ax_cons (ex_kon g.k_EVEN) (ax_nil))))) (af_cons (ex_of_fx (fx_lst (ax_cons (ex_tup (ax_cons (ex_tup (ax_nil)) (ax_cons (ex_var 3) (ax_cons (ex_kon g.k_EVEN) (ax_nil))))) (ax_nil)))) (af_nil))) (exOf_no (exOf_no (exOf_no (exOf_nil)))) (by rfl))
      (bx_cons (O1 := [none, none, none, none, some .dct, none, none, none, none, none, none, none, none, none, none, none]) (sx_while fuel b.own (tx_cmp (op_neZ b.hu) (sem_rD neD_flat) (ex_var 5) (ex_of_fx (fx_lst (ax_nil))) (nomark _)) (bx_cons (O1 := [none, none, none, none, some .dct, none, some .lst, none, none, none, none, none, none, none, none, none]) (sx_own 6 nd (fx_lst (ax_nil)) (exOf_no (exOf_no (exOf_no (exOf_nil)))))
      (bx_cons (O1 := [none, none, none, none, some .dct, none, some .lst, none, none, none, none, none, none, none, none, none]) (sx_for b.own b.calm (ix_seqZ (ex_var 5)) (gx_tup b.calm (gxs_cons (gx_name 7 nd) (gxs_cons (gx_tup b.calm (gxs_cons (gx_name 8 nd) (gxs_cons (gx_name 9 nd) (gxs_nil)))) (gxs_cons (gx_name 10 nd) (gxs_nil))))) (bx_cons (O1 := [none, none, none, none, some .dct, none, some .lst, none, none, none, none, none, none, none, none, none]) (sx_if (O' := [none, none, none, none, some .dct, none, some .lst, none, none, none, none, none, none, none, none, none]) (tx_val (ex_fn z_is_worse (b.room.mono (by decide)) b.tk (aj_cons (ex_var 0) (aj_cons (ex_var 1) (aj_cons (ex_var 8) (aj_cons (ex_var 9) (aj_cons (ex_var 10) (aj_nil)))))))) (bx_one (sx_ret (ex_var 7) (exOf_no (exOf_no (exOf_no (exOf_nil)))))) (bx_nil) (exOf_no (exOf_no (exOf_no (exOf_nil)))))
      (bx_one (sx_for b.own b.calm (ix_seqZ (ex_fn z_signs_at (b.room.mono (by decide)) b.tk (aj_cons (ex_var 0) (aj_cons (ex_var 8) (aj_cons (ex_var 2) (aj_nil)))))) (gx_name 11 nd) (bx_cons (O1 := [none, none, none, none, some .dct, none, some .lst, none, none, none, none, none, none, none, none, none]) (sx_set 12 nd (ex_fn z_step (b.room.mono (by decide)) b.tk (aj_cons (ex_var 0) (aj_cons (ex_var 8) (aj_cons (ex_var 11) (aj_nil))))) (exOf_no (exOf_no (exOf_no (exOf_nil)))))
      (bx_one (sx_if (O' := [none, none, none, none, some .dct, none, some .lst, none, none, none, none, none, none, none, none, none]) (tx_cmp (op_isNotZ) (sem_rD isNotD_flat) (ex_var 12) (ex_non) (nomark _)) (bx_cons (O1 := [none, none, none, none, some .dct, none, some .lst, none, none, none, none, none, none, none, none, none]) (sx_set 13 nd (ex_if (tx_cmp (op_isZ) (sem_rD isD_flat) (ex_var 9) (ex_non) (nomark _)) (ex_non) (ex_fn z_step (b.room.mono (by decide)) b.tk (aj_cons (ex_var 1) (aj_cons (ex_var 9) (aj_cons (ex_var 11) (aj_nil)))))) (exOf_no (exOf_no (exOf_no (exOf_nil)))))
      (bx_cons (O1 := [none, none, none, none, some .dct, none, some .lst, none, none, none, none, none, none, none, none, none]) (sx_set 14 nd (ex_non) (exOf_no (exOf_no (exOf_no (exOf_nil)))))
      (bx_cons (O1 := [none, none, none, none, some .dct, none, some .lst, none, none, none, none, none, none, none, none, none]) (sx_if (O' := [none, none, none, none, some .dct, none, some .lst, none, none, none, none, none, none, none, none, none]) (tx_cmp (op_isNotZ) (sem_rD isNotD_flat) (ex_var 13) (ex_non) (nomark _)) (bx_one (sx_set 14 nd (ex_fn z_lead_behind (b.room.mono (by decide)) b.tk (aj_cons (ex_var 10) (aj_cons (ex_fn z_told_at_faces (b.room.mono (by decide)) b.tk (aj_cons (ex_var 0) (aj_cons (ex_var 8) (aj_cons (ex_var 11) (aj_nil))))) (aj_cons (ex_fn z_told_at_faces (b.room.mono (by decide)) b.tk (aj_cons (ex_var 1) (aj_cons (ex_var 9) (aj_cons (ex_var 11) (aj_nil))))) (aj_nil))))) (exOf_no (exOf_no (exOf_no (exOf_nil)))))) (bx_nil) (exOf_no (exOf_no (exOf_no (exOf_nil)))))
      (bx_cons (O1 := [none, none, none, none, some .dct, none, some .lst, none, none, none, none, none, none, none, none, none]) (sx_set 15 nd (ex_tup (ax_cons (ex_var 12) (ax_cons (ex_var 13) (ax_nil)))) (exOf_no (exOf_no (exOf_no (exOf_nil)))))
      (bx_one (sx_if (O' := [none, none, none, none, some .dct, none, some .lst, none, none, none, none, none, none, none, none, none]) (tx_val (ex_fn z_is_news (b.room.mono (by decide)) b.tk (aj_cons (ex_getO 4 b.hu (ex_var 15) (ex_of_fx (fx_lst (ax_nil)))) (aj_cons (ex_var 14) (aj_nil))))) (bx_cons (O1 := [none, none, none, none, some .dct, none, some .lst, none, none, none, none, none, none, none, none, none]) (sx_stK 4 b.hu (ex_var 15) (ex_op op_addZ (sem_add) (ex_getO 4 b.hu (ex_var 15) (ex_of_fx (fx_lst (ax_nil)))) (ex_of_fx (fx_lst (ax_cons (ex_var 14) (ax_nil))))) (exOf_no (exOf_no (exOf_no (exOf_nil)))))
      (bx_one (sx_append 6 (ex_tup (ax_cons (ex_tup (ax_star (ex_var 7) (ax_cons (ex_var 11) (ax_nil)))) (ax_cons (ex_var 15) (ax_cons (ex_var 14) (ax_nil))))) (exOf_no (exOf_no (exOf_no (exOf_nil))))))) (bx_nil) (exOf_no (exOf_no (exOf_no (exOf_nil)))))))))) (bx_nil) (exOf_no (exOf_no (exOf_no (exOf_nil))))))) (exOf_no (exOf_no (exOf_no (exOf_nil))))))) (exOf_no (exOf_no (exOf_no (exOf_nil)))))
      (bx_one (sx_freeze 6 (O1 := [none, none, none, none, some .dct, none, none, none, none, none, none, none, none, none, none, none]) (sx_set 5 nd (ex_var 6) (exOf_no (exOf_no (exOf_no (exOf_nil))))))))) (exOf_no (exOf_no (exOf_no (exOf_nil)))))
      (bx_one (sx_ret (ex_non) (exOf_no (exOf_no (exOf_no (exOf_nil))))))))) (.inl rfl)
/-! ### told_at_readers -/
def N_told_at_readers : List Str := ["form", "stand", "sign", "told", "ahead", "tag", "body"]
theorem sc_told_at_readers : FnScope N_told_at_readers ["form", "stand", "sign", "told"] (defScope (top 44)) := ⟨rfl, rfl, rfl, by decide +kernel, rfl, by decide +kernel, by decide +kernel⟩
def T_told_at_readers : Rho → Out Rho Flw := sqT (ifT (andT (isB (binT eqD (varT 1) (cT (.tuple [.str ("tag" : Str)])))) (isB (binT inD (callT [none, none] S_use_at (consT (varT 0) (consT (varT 2) (nilT)))) (cT (.tuple [.str ("keep" : Str), .str ("check" : Str)]))))) (retT (tupT (starT (varT 3) (consT (tupT (consT (varT 2) (consT (tupT (nilT)) (nilT)))) (nilT))))) (nxT)) (sqT (ifT (andT (isB (binT eqD (binT idxD (varT 1) (cT (.int 0))) (cT (.str ("body" : Str))))) (isB (binT inD (binT idxD (varT 1) (cT (.int 1))) (cT (.tuple [.str ("keep" : Str), .str ("check" : Str)]))))) (sqT (tgtT (starG 2 0 (consG (setG 4) (consG (tupG 2 (consG (setG 5) (consG (setG 6) (nilG)))) (nilG)))) (varT 3)) (retT (tupT (starT (varT 4) (consT (tupT (consT (varT 5) (consT (tupT (starT (varT 6) (consT (varT 2) (nilT)))) (nilT)))) (nilT)))))) (nxT)) (retT (varT 3)))
def S_told_at_readers : List D → Out (List D) D := runF [] 7 T_told_at_readers
theorem z_told_at_readers {K : PySem.W.Frag} {mg : Str → Option Value} {base : Heap} (g : Gk K mg) (z_use_at : FnZ PgW.P PgW.w K mg base "use_at" 1 [none, none] none S_use_at) (hF : ∃ fd, Fun K "told_at" "told_at" (top 44) (He.ga K "told_at_readers") fd) (hm : mg "told_at_readers" = some (.ref (He.ga K "told_at_readers"))) : FnZ PgW.P PgW.w K mg base "told_at_readers" 2 [none, none, none, none] none S_told_at_readers := by
  obtain ⟨fd, F⟩ := hF
  refine FnZ.of F hm (ps := ["form", "stand", "sign", "told"]) (fun _ _ _ _ _ _ us hl => match us, hl with | [_, _, _, _], _ => rfl) ?_
  exact fnZ0 (k := 1) (rk := none) (N := N_told_at_readers) (ps := ["form", "stand", "sign", "told"]) (O' := [none, none, none, none, none, none, none]) (T := T_told_at_readers) 4 F sc_told_at_readers rfl (fun cdv A outer s H E b => by
    have nd := sc_told_at_readers.nd
    exact bx_cons (O1 := [none, none, none, none, none, none, none]) (sx_if (O' := [none, none, none, none, none, none, none]) (tx_pw (wx_and (tx_cmp (op_eqZ b.hu) (sem_rD eqD_flat) (ex_var 1) (ex_kon g.k_TAG) (nomark _)) (wx_and1 (tx_cmp (op_inZ b.hu) (sem_rD inD_flat) (ex_fn z_use_at (b.room.mono (by decide)) b.tk (aj_cons (ex_var 0) (aj_cons (ex_var 2) (aj_nil)))) (ex_kon g.k_TOLD) (by with_unfolding_all rfl))))) (bx_one (sx_ret (ex_tup (ax_star (ex_var 3) (ax_cons (ex_tup (ax_cons (ex_var 2) (ax_cons (ex_tup (ax_nil)) (ax_nil)))) (ax_nil)))) (exOf_no (exOf_no (exOf_no (exOf_no (exOf_nil))))))) (bx_nil) (exOf_no (exOf_no (exOf_no (exOf_no (exOf_nil))))))
      (bx_cons (O1 := [none, none, none, none, none, none, none]) (sx_if (O' := [none, none, none, none, none, none, none]) (tx_pw (wx_and (tx_cmp (op_eqZ b.hu) (sem_rD eqD_flat) (ex_ix (ex_var 1) (ex_int)) (ex_str) (nomark _)) (wx_and1 (tx_cmp (op_inZ b.hu) (sem_rD inD_flat) (ex_ix (ex_var 1) (ex_int)) (ex_kon g.k_TOLD) (by with_unfolding_all rfl))))) (bx_cons (O1 := [none, none, none, none, none, none, none]) (sx_star b.calm (ex_var 3) (gxs_star (gx_name 4 nd) (gxs_cons (gx_tup b.calm (gxs_cons (gx_name 5 nd) (gxs_cons (gx_name 6 nd) (gxs_nil)))) (gxs_nil))) (exOf_no (exOf_no (exOf_no (exOf_no (exOf_nil))))))
      (bx_one (sx_ret (ex_tup (ax_star (ex_var 4) (ax_cons (ex_tup (ax_cons (ex_var 5) (ax_cons (ex_tup (ax_star (ex_var 6) (ax_cons (ex_var 2) (ax_nil)))) (ax_nil)))) (ax_nil)))) (exOf_no (exOf_no (exOf_no (exOf_no (exOf_nil)))))))) (bx_nil) (exOf_no (exOf_no (exOf_no (exOf_no (exOf_nil))))))
      (bx_one (sx_ret (ex_var 3) (exOf_no (exOf_no (exOf_no (exOf_no (exOf_nil))))))))) (.inl rfl)
/-! ### told_in -/
def N_told_in : List Str := ["form", "signs", "stand", "told", "sign"]
theorem sc_told_in : FnScope N_told_in ["form", "signs"] (defScope (top 46)) := ⟨rfl, rfl, rfl, by decide +kernel, rfl, by decide +kernel, by decide +kernel⟩
def T_told_in : Rho → Out Rho Flw := sqT (par2T 2 3 (consT (callT [none] S_first_stand (consT (varT 0) (nilT))) (consT (tupT (nilT)) (nilT)))) (sqT (forS (seqT (varT 1)) (setG 4) (sqT (asgT 3 (callT [none, none, none, none] S_told_at_readers (consT (varT 0) (consT (varT 2) (consT (varT 4) (consT (varT 3) (nilT))))))) (asgT 2 (callT [none, none, none] S_step (consT (varT 0) (consT (varT 2) (consT (varT 4) (nilT)))))))) (retT (varT 3)))
def S_told_in : List D → Out (List D) D := runF [] 5 T_told_in
theorem z_told_in {K : PySem.W.Frag} {mg : Str → Option Value} {base : Heap} (g : Gk K mg) (z_first_stand : FnZ PgW.P PgW.w K mg base "first_stand" 1 [none] none S_first_stand) (z_step : FnZ PgW.P PgW.w K mg base "step" 3 [none, none, none] none S_step) (z_told_at_readers : FnZ PgW.P PgW.w K mg base "told_at_readers" 2 [none, none, none, none] none S_told_at_readers) (hF : ∃ fd, Fun K "told_in" "told_in" (top 46) (He.ga K "told_in") fd) (hm : mg "told_in" = some (.ref (He.ga K "told_in"))) : FnZ PgW.P PgW.w K mg base "told_in" 4 [none, none] none S_told_in := by
  obtain ⟨fd, F⟩ := hF
  refine FnZ.of F hm (ps := ["form", "signs"]) (fun _ _ _ _ _ _ us hl => match us, hl with | [_, _], _ => rfl) ?_
  exact fnZ0 (k := 3) (rk := none) (N := N_told_in) (ps := ["form", "signs"]) (O' := [none, none, none, none, none]) (T := T_told_in) 2 F sc_told_in rfl (fun cdv A outer s H E b => by
    have nd := sc_told_in.nd
    exact bx_cons (O1 := [none, none, none, none, none]) (sx_par2 2 3 (k := none) (l := none) b.calm nd (af_cons (ex_fn z_first_stand (b.room.mono (by decide)) b.tk (aj_cons (ex_var 0) (aj_nil))) (af_cons (ex_tup (ax_nil)) (af_nil))) (exOf_no (exOf_no (exOf_nil))) (by rfl))
      (bx_cons (O1 := [none, none, none, none, none]) (sx_for b.own b.calm (ix_seqZ (ex_var 1)) (gx_name 4 nd) (bx_cons (O1 := [none, none, none, none, none]) (sx_set 3 nd (ex_fn z_told_at_readers (b.room.mono (by decide)) b.tk (aj_cons (ex_var 0) (aj_cons (ex_var 2) (aj_cons (ex_var 4) (aj_cons (ex_var 3) (aj_nil)))))) (exOf_no (exOf_no (exOf_nil))))
      (bx_one (sx_set 2 nd (ex_fn z_step (b.room.mono (by decide)) b.tk (aj_cons (ex_var 0) (aj_cons (ex_var 2) (aj_cons (ex_var 4) (aj_nil))))) (exOf_no (exOf_no (exOf_nil)))))) (exOf_no (exOf_no (exOf_nil))))
      (bx_one (sx_ret (ex_var 3) (exOf_no (exOf_no (exOf_nil))))))) (.inl rfl)
/-! ### relayed_in -/
def N_relayed_in : List Str := ["one", "other", "file"]
theorem sc_relayed_in : FnScope N_relayed_in ["one", "other"] (defScope (top 66)) := ⟨rfl, rfl, rfl, by decide +kernel, rfl, by decide +kernel, by decide +kernel⟩
def T_relayed_in : Rho → Out Rho Flw := sqT (asgT 2 (callT [none, none, none] S_worse_in (consT (varT 0) (consT (varT 1) (consT (cT (.bool true)) (nilT)))))) (retT (ifT (isB (binT isD (varT 2) (cT .none))) (cT .none) (callT [none, none] S_told_in (consT (varT 0) (consT (varT 2) (nilT))))))
def S_relayed_in : List D → Out (List D) D := runF [] 3 T_relayed_in
theorem z_relayed_in {K : PySem.W.Frag} {mg : Str → Option Value} {base : Heap} (g : Gk K mg) (z_told_in : FnZ PgW.P PgW.w K mg base "told_in" 4 [none, none] none S_told_in) (z_worse_in : FnZ PgW.P PgW.w K mg base "worse_in" 4 [none, none, none] none S_worse_in) (hF : ∃ fd, Fun K "relayed_in" "relayed_in" (top 66) (He.ga K "relayed_in") fd) (hm : mg "relayed_in" = some (.ref (He.ga K "relayed_in"))) : FnZ PgW.P PgW.w K mg base "relayed_in" 5 [none, none] none S_relayed_in := by
  obtain ⟨fd, F⟩ := hF
  refine FnZ.of F hm (ps := ["one", "other"]) (fun _ _ _ _ _ _ us hl => match us, hl with | [_, _], _ => rfl) ?_
  exact fnZ0 (k := 4) (rk := none) (N := N_relayed_in) (ps := ["one", "other"]) (O' := [none, none, none]) (T := T_relayed_in) 2 F sc_relayed_in rfl (fun cdv A outer s H E b => by
    have nd := sc_relayed_in.nd
    exact bx_cons (O1 := [none, none, none]) (sx_set 2 nd (ex_fn z_worse_in (b.room.mono (by decide)) b.tk (aj_cons (ex_var 0) (aj_cons (ex_var 1) (aj_cons (ex_bl) (aj_nil))))) (exOf_no (exOf_no (exOf_nil))))
      (bx_one (sx_ret (ex_if (tx_cmp (op_isZ) (sem_rD isD_flat) (ex_var 2) (ex_non) (nomark _)) (ex_non) (ex_fn z_told_in (b.room.mono (by decide)) b.tk (aj_cons (ex_var 0) (aj_cons (ex_var 2) (aj_nil))))) (exOf_no (exOf_no (exOf_nil)))))) (.inl rfl)
/-! ### relayed -/
def N_relayed : List Str := ["one", "other"]
theorem sc_relayed : FnScope N_relayed ["one", "other"] (defScope (top 68)) := ⟨rfl, rfl, rfl, by decide +kernel, rfl, by decide +kernel, by decide +kernel⟩
def T_relayed : Rho → Out Rho Flw := sqT (dropT (callT [none, none] S_check_two (consT (varT 0) (consT (varT 1) (nilT))))) (retT (callT [none, none] S_relayed_in (consT (varT 0) (consT (varT 1) (nilT)))))
def S_relayed : List D → Out (List D) D := runF [] 2 T_relayed
theorem z_relayed {K : PySem.W.Frag} {mg : Str → Option Value} {base : Heap} (g : Gk K mg) (z_check_two : FnZ PgW.P PgW.w K mg base "check_two" 6 [none, none] none S_check_two) (z_relayed_in : FnZ PgW.P PgW.w K mg base "relayed_in" 5 [none, none] none S_relayed_in) (hF : ∃ fd, Fun K "relayed" "relayed" (top 68) (He.ga K "relayed") fd) (hm : mg "relayed" = some (.ref (He.ga K "relayed"))) : FnZ PgW.P PgW.w K mg base "relayed" 7 [none, none] none S_relayed := by
  obtain ⟨fd, F⟩ := hF
  refine FnZ.of F hm (ps := ["one", "other"]) (fun _ _ _ _ _ _ us hl => match us, hl with | [_, _], _ => rfl) ?_
  exact fnZ0 (k := 6) (rk := none) (N := N_relayed) (ps := ["one", "other"]) (O' := [none, none]) (T := T_relayed) 2 F sc_relayed rfl (fun cdv A outer s H E b => by
    have nd := sc_relayed.nd
    exact bx_cons (O1 := [none, none]) (sx_expr (ex_fn z_check_two (b.room.mono (by decide)) b.tk (aj_cons (ex_var 0) (aj_cons (ex_var 1) (aj_nil)))) (exOf_no (exOf_no (exOf_nil))))
      (bx_one (sx_ret (ex_fn z_relayed_in (b.room.mono (by decide)) b.tk (aj_cons (ex_var 0) (aj_cons (ex_var 1) (aj_nil)))) (exOf_no (exOf_no (exOf_nil)))))) (.inl rfl)
/-! ### greatest_length -/
def N_greatest_length : List Str := ["form", "base", "width", "most"]
theorem sc_greatest_length : FnScope N_greatest_length ["form"] (defScope (top 47)) := ⟨rfl, rfl, rfl, by decide +kernel, rfl, by decide +kernel, by decide +kernel⟩
def T_greatest_length : Rho → Out Rho Flw := sqT (par3T 1 2 3 (consT (binT idxD (varT 0) (cT (.int 0))) (consT (binT idxD (varT 0) (cT (.int 2))) (consT (binT idxD (varT 0) (cT (.int 3))) (nilT))))) (retT (callB minD (consT (varT 3) (consT (ifT (isB (binT eqD (varT 2) (cT (.str ("one" : Str))))) (binT subD (varT 1) (cT (.int 1))) (binT subD (binT mulD (varT 1) (varT 1)) (cT (.int 1)))) (nilT)))))
def S_greatest_length : List D → Out (List D) D := runF [] 4 T_greatest_length
theorem z_greatest_length {K : PySem.W.Frag} {mg : Str → Option Value} {base : Heap} (g : Gk K mg) (hF : ∃ fd, Fun K "greatest_length" "greatest_length" (top 47) (He.ga K "greatest_length") fd) (hm : mg "greatest_length" = some (.ref (He.ga K "greatest_length"))) : FnZ PgW.P PgW.w K mg base "greatest_length" 1 [none] none S_greatest_length := by
  obtain ⟨fd, F⟩ := hF
  refine FnZ.of F hm (ps := ["form"]) (fun _ _ _ _ _ _ us hl => match us, hl with | [_], _ => rfl) ?_
  exact fnZ0 (k := 0) (rk := none) (N := N_greatest_length) (ps := ["form"]) (O' := [none, none, none, none]) (T := T_greatest_length) 1 F sc_greatest_length rfl (fun cdv A outer s H E b => by
    have nd := sc_greatest_length.nd
    exact bx_cons (O1 := [none, none, none, none]) (sx_par3 1 2 3 b.calm nd (ax_cons (ex_ix (ex_var 0) (ex_int)) (ax_cons (ex_ix (ex_var 0) (ex_int)) (ax_cons (ex_ix (ex_var 0) (ex_int)) (ax_nil)))) (exOf_no (exOf_nil)) (by rfl))
      (bx_one (sx_ret (ex_callB (call_minZ b.calm) (sem_rDN minD_flat) g.f_min rfl (ax_cons (ex_var 3) (ax_cons (ex_if (tx_cmp (op_eqZ b.hu) (sem_rD eqD_flat) (ex_var 2) (ex_kon g.k_ONE) (nomark _)) (ex_op op_subZ (sem_rD intD_flat) (ex_var 1) (ex_int)) (ex_op op_subZ (sem_rD intD_flat) (ex_op op_mulZ (sem_rD intD_flat) (ex_var 1) (ex_var 1)) (ex_int))) (ax_nil)))) (exOf_no (exOf_nil))))) (.inl rfl)
/-! ### is_signs -/
def N_is_signs : List Str := ["base", "value", "sign"]
theorem sc_is_signs : FnScope N_is_signs ["base", "value"] (defScope (top 26)) := ⟨rfl, rfl, rfl, by decide +kernel, rfl, by decide +kernel, by decide +kernel⟩
def T_is_signs : Rho → Out Rho Flw := retT (andV (isiT "tuple" (varT 1)) (callB allD (consT (lcT [2] (seqT (varT 1)) (setG 2) (yesT) (callT [none, none] S_is_sign (consT (varT 0) (consT (varT 2) (nilT))))) (nilT))))
def S_is_signs : List D → Out (List D) D := runF [] 3 T_is_signs
theorem z_is_signs {K : PySem.W.Frag} {mg : Str → Option Value} {base : Heap} (g : Gk K mg) (z_is_sign : FnZ PgW.P PgW.w K mg base "is_sign" 2 [none, none] none S_is_sign) (hF : ∃ fd, Fun K "is_signs" "is_signs" (top 26) (He.ga K "is_signs") fd) (hm : mg "is_signs" = some (.ref (He.ga K "is_signs"))) : FnZ PgW.P PgW.w K mg base "is_signs" 3 [none, none] none S_is_signs := by
  obtain ⟨fd, F⟩ := hF
  refine FnZ.of F hm (ps := ["base", "value"]) (fun _ _ _ _ _ _ us hl => match us, hl with | [_, _], _ => rfl) ?_
  exact fnZ0 (k := 2) (rk := none) (N := N_is_signs) (ps := ["base", "value"]) (O' := [none, none, none]) (T := T_is_signs) 2 F sc_is_signs rfl (fun cdv A outer s H E b => by
    have nd := sc_is_signs.nd
    exact bx_one (sx_ret (ex_and (ex_isi (b := "tuple") (ex_var 1) (by decide) g.f_isinstance g.f_tuple rfl) (ex_one (ex_callB (call_allZ b.calm) (sem_rDN allD_flat) g.f_all rfl (ax_cons (ex_of_fx (fx_lc (own := [("sign", 2)]) b.calm nd (ix_seqZ (ex_var 1)) (blkOk_of (by kernel_rfl)) (none_cons rfl (fun _ h => nomatch h)) (fun _ _ _ _ _ => gx_name 2 nd) (fun _ _ _ _ _ => txs_nil) (fun _ _ _ _ _ => ex_fn z_is_sign (by exact b.room.mono (by decide)) takes0 (aj_cons (ex_var 0) (aj_cons (ex_var 2) (aj_nil)))))) (ax_nil))))) (exOf_no (exOf_no (exOf_nil))))) (.inl rfl)
/-! ### is_chunk -/
def N_is_chunk : List Str := ["form", "value"]
theorem sc_is_chunk : FnScope N_is_chunk ["form", "value"] (defScope (top 48)) := ⟨rfl, rfl, rfl, by decide +kernel, rfl, by decide +kernel, by decide +kernel⟩
def T_is_chunk : Rho → Out Rho Flw := sqT (ifT (orT (notT (isB (isiT "tuple" (varT 1)))) (orT (isB (binT neD (callB lenD (consT (varT 1) (nilT))) (cT (.int 2)))) (notT (isB (callT [none, none] S_is_sign (consT (binT idxD (varT 0) (cT (.int 0))) (consT (binT idxD (varT 1) (cT (.int 0))) (nilT)))))))) (retT (cT (.bool false))) (nxT)) (sqT (ifT (orT (isB (binT notInD (callT [none, none] S_use_at (consT (varT 0) (consT (binT idxD (varT 1) (cT (.int 0))) (nilT)))) (cT (.tuple [.str ("keep" : Str), .str ("check" : Str)])))) (notT (isB (callT [none, none] S_is_signs (consT (binT idxD (varT 0) (cT (.int 0))) (consT (binT idxD (varT 1) (cT (.int 1))) (nilT))))))) (retT (cT (.bool false))) (nxT)) (retT (binT leD (callB lenD (consT (binT idxD (varT 1) (cT (.int 1))) (nilT))) (callT [none] S_greatest_length (consT (varT 0) (nilT))))))
def S_is_chunk : List D → Out (List D) D := runF [] 2 T_is_chunk
theorem z_is_chunk {K : PySem.W.Frag} {mg : Str → Option Value} {base : Heap} (g : Gk K mg) (z_greatest_length : FnZ PgW.P PgW.w K mg base "greatest_length" 1 [none] none S_greatest_length) (z_is_sign : FnZ PgW.P PgW.w K mg base "is_sign" 2 [none, none] none S_is_sign) (z_is_signs : FnZ PgW.P PgW.w K mg base "is_signs" 3 [none, none] none S_is_signs) (z_use_at : FnZ PgW.P PgW.w K mg base "use_at" 1 [none, none] none S_use_at) (hF : ∃ fd, Fun K "is_chunk" "is_chunk" (top 48) (He.ga K "is_chunk") fd) (hm : mg "is_chunk" = some (.ref (He.ga K "is_chunk"))) : FnZ PgW.P PgW.w K mg base "is_chunk" 4 [none, none] none S_is_chunk := by
  obtain ⟨fd, F⟩ := hF
  refine FnZ.of F hm (ps := ["form", "value"]) (fun _ _ _ _ _ _ us hl => match us, hl with | [_, _], _ => rfl) ?_
  exact fnZ0 (k := 3) (rk := none) (N := N_is_chunk) (ps := ["form", "value"]) (O' := [none, none]) (T := T_is_chunk) 2 F sc_is_chunk rfl (fun cdv A outer s H E b => by
    have nd := sc_is_chunk.nd
    exact bx_cons (O1 := [none, none]) (sx_if (O' := [none, none]) (tx_pw (wx_or (tx_not (tx_val (ex_isi (b := "tuple") (ex_var 1) (by decide) g.f_isinstance g.f_tuple rfl))) (wx_or (tx_cmp (op_neZ b.hu) (sem_rD neD_flat) (ex_callB call_lenZ (sem_rDN lenD_flat) g.f_len rfl (ax_cons (ex_var 1) (ax_nil))) (ex_int) (nomark _)) (wx_or1 (tx_not (tx_val (ex_fn z_is_sign (b.room.mono (by decide)) b.tk (aj_cons (ex_ix (ex_var 0) (ex_int)) (aj_cons (ex_ix (ex_var 1) (ex_int)) (aj_nil)))))))))) (bx_one (sx_ret (ex_bl) (exOf_no (exOf_no (exOf_nil))))) (bx_nil) (exOf_no (exOf_no (exOf_nil))))
      (bx_cons (O1 := [none, none]) (sx_if (O' := [none, none]) (tx_pw (wx_or (tx_cmp (op_notInZ b.hu) (sem_rD notInD_flat) (ex_fn z_use_at (b.room.mono (by decide)) b.tk (aj_cons (ex_var 0) (aj_cons (ex_ix (ex_var 1) (ex_int)) (aj_nil)))) (ex_kon g.k_TOLD) (by with_unfolding_all rfl)) (wx_or1 (tx_not (tx_val (ex_fn z_is_signs (b.room.mono (by decide)) b.tk (aj_cons (ex_ix (ex_var 0) (ex_int)) (aj_cons (ex_ix (ex_var 1) (ex_int)) (aj_nil))))))))) (bx_one (sx_ret (ex_bl) (exOf_no (exOf_no (exOf_nil))))) (bx_nil) (exOf_no (exOf_no (exOf_nil))))
      (bx_one (sx_ret (ex_cmp (op_leZ b.hu) (sem_rD ordD_flat) (ex_callB call_lenZ (sem_rDN lenD_flat) g.f_len rfl (ax_cons (ex_ix (ex_var 1) (ex_int)) (ax_nil))) (ex_fn z_greatest_length (b.room.mono (by decide)) b.tk (aj_cons (ex_var 0) (aj_nil))) (nomark _)) (exOf_no (exOf_no (exOf_nil))))))) (.inl rfl)
/-! ### is_content_of -/
def N_is_content_of : List Str := ["form", "value", "chunk"]
theorem sc_is_content_of : FnScope N_is_content_of ["form", "value"] (defScope (top 49)) := ⟨rfl, rfl, rfl, by decide +kernel, rfl, by decide +kernel, by decide +kernel⟩
def T_is_content_of : Rho → Out Rho Flw := retT (andV (isiT "tuple" (varT 1)) (callB allD (consT (lcT [2] (seqT (varT 1)) (setG 2) (yesT) (callT [none, none] S_is_chunk (consT (varT 0) (consT (varT 2) (nilT))))) (nilT))))
def S_is_content_of : List D → Out (List D) D := runF [] 3 T_is_content_of
theorem z_is_content_of {K : PySem.W.Frag} {mg : Str → Option Value} {base : Heap} (g : Gk K mg) (z_is_chunk : FnZ PgW.P PgW.w K mg base "is_chunk" 4 [none, none] none S_is_chunk) (hF : ∃ fd, Fun K "is_content_of" "is_content_of" (top 49) (He.ga K "is_content_of") fd) (hm : mg "is_content_of" = some (.ref (He.ga K "is_content_of"))) : FnZ PgW.P PgW.w K mg base "is_content_of" 5 [none, none] none S_is_content_of := by
  obtain ⟨fd, F⟩ := hF
  refine FnZ.of F hm (ps := ["form", "value"]) (fun _ _ _ _ _ _ us hl => match us, hl with | [_, _], _ => rfl) ?_
  exact fnZ0 (k := 4) (rk := none) (N := N_is_content_of) (ps := ["form", "value"]) (O' := [none, none, none]) (T := T_is_content_of) 2 F sc_is_content_of rfl (fun cdv A outer s H E b => by
    have nd := sc_is_content_of.nd
    exact bx_one (sx_ret (ex_and (ex_isi (b := "tuple") (ex_var 1) (by decide) g.f_isinstance g.f_tuple rfl) (ex_one (ex_callB (call_allZ b.calm) (sem_rDN allD_flat) g.f_all rfl (ax_cons (ex_of_fx (fx_lc (own := [("chunk", 2)]) b.calm nd (ix_seqZ (ex_var 1)) (blkOk_of (by kernel_rfl)) (none_cons rfl (fun _ h => nomatch h)) (fun _ _ _ _ _ => gx_name 2 nd) (fun _ _ _ _ _ => txs_nil) (fun _ _ _ _ _ => ex_fn z_is_chunk (by exact b.room.mono (by decide)) takes0 (aj_cons (ex_var 0) (aj_cons (ex_var 2) (aj_nil)))))) (ax_nil))))) (exOf_no (exOf_no (exOf_nil))))) (.inl rfl)
/-! ### check_content -/
def N_check_content : List Str := ["form", "content"]
theorem sc_check_content : FnScope N_check_content ["form", "content"] (defScope (top 50)) := ⟨rfl, rfl, rfl, by decide +kernel, rfl, by decide +kernel, by decide +kernel⟩
def T_check_content : Rho → Out Rho Flw := ifT (notT (isB (callT [none, none] S_is_content_of (consT (varT 0) (consT (varT 1) (nilT)))))) (badT) (nxT)
def S_check_content : List D → Out (List D) D := runF [] 2 T_check_content
theorem z_check_content {K : PySem.W.Frag} {mg : Str → Option Value} {base : Heap} (g : Gk K mg) (z_is_content_of : FnZ PgW.P PgW.w K mg base "is_content_of" 5 [none, none] none S_is_content_of) (hF : ∃ fd, Fun K "check_content" "check_content" (top 50) (He.ga K "check_content") fd) (hm : mg "check_content" = some (.ref (He.ga K "check_content"))) : FnZ PgW.P PgW.w K mg base "check_content" 6 [none, none] none S_check_content := by
  obtain ⟨fd, F⟩ := hF
  refine FnZ.of F hm (ps := ["form", "content"]) (fun _ _ _ _ _ _ us hl => match us, hl with | [_, _], _ => rfl) ?_
  exact fnZ0 (k := 5) (rk := none) (N := N_check_content) (ps := ["form", "content"]) (O' := [none, none]) (T := T_check_content) 2 F sc_check_content rfl (fun cdv A outer s H E b => by
    have nd := sc_check_content.nd
    exact bx_one (sx_if (O' := [none, none]) (tx_not (tx_val (ex_fn z_is_content_of (b.room.mono (by decide)) b.tk (aj_cons (ex_var 0) (aj_cons (ex_var 1) (aj_nil)))))) (bx_one (sx_bad)) (bx_nil) (exOf_no (exOf_no (exOf_nil))))) (.inl rfl)
/-! ### length_signs -/
def N_length_signs : List Str := ["form", "length", "high", "low"]
theorem sc_length_signs : FnScope N_length_signs ["form", "length"] (defScope (top 51)) := ⟨rfl, rfl, rfl, by decide +kernel, rfl, by decide +kernel, by decide +kernel⟩
def T_length_signs : Rho → Out Rho Flw := sqT (par2T 2 3 (consT (binT fdivD (varT 1) (binT idxD (varT 0) (cT (.int 0)))) (consT (binT modD (callB intC (consT (varT 1) (nilT))) (binT idxD (varT 0) (cT (.int 0)))) (nilT)))) (sqT (ifT (isB (binT eqD (binT idxD (varT 0) (cT (.int 2))) (cT (.str ("one" : Str))))) (retT (tupT (consT (varT 1) (nilT)))) (nxT)) (retT (ifT (isB (binT eqD (binT idxD (varT 0) (cT (.int 2))) (cT (.str ("high" : Str))))) (tupT (consT (varT 2) (consT (varT 3) (nilT)))) (tupT (consT (varT 3) (consT (varT 2) (nilT)))))))
def S_length_signs : List D → Out (List D) D := runF [] 4 T_length_signs
theorem z_length_signs {K : PySem.W.Frag} {mg : Str → Option Value} {base : Heap} (g : Gk K mg) (hF : ∃ fd, Fun K "length_signs" "length_signs" (top 51) (He.ga K "length_signs") fd) (hm : mg "length_signs" = some (.ref (He.ga K "length_signs"))) : FnZ PgW.P PgW.w K mg base "length_signs" 1 [none, none] none S_length_signs := by
  obtain ⟨fd, F⟩ := hF
  refine FnZ.of F hm (ps := ["form", "length"]) (fun _ _ _ _ _ _ us hl => match us, hl with | [_, _], _ => rfl) ?_
  exact fnZ0 (k := 0) (rk := none) (N := N_length_signs) (ps := ["form", "length"]) (O' := [none, none, none, none]) (T := T_length_signs) 2 F sc_length_signs rfl (fun cdv A outer s H E b => by
    have nd := sc_length_signs.nd
    exact bx_cons (O1 := [none, none, none, none]) (sx_par2 2 3 (k := none) (l := none) b.calm nd (af_cons (ex_op op_fdivZ (sem_rD intD_flat) (ex_var 1) (ex_ix (ex_var 0) (ex_int))) (af_cons (ex_op op_modZ (sem_rD intD_flat) (ex_callTy call_intZ (sem_rDN intC_flat) g.f_int rfl (ax_cons (ex_var 1) (ax_nil))) (ex_ix (ex_var 0) (ex_int))) (af_nil))) (exOf_no (exOf_no (exOf_nil))) (by rfl))
      (bx_cons (O1 := [none, none, none, none]) (sx_if (O' := [none, none, none, none]) (tx_cmp (op_eqZ b.hu) (sem_rD eqD_flat) (ex_ix (ex_var 0) (ex_int)) (ex_kon g.k_ONE) (nomark _)) (bx_one (sx_ret (ex_tup (ax_cons (ex_var 1) (ax_nil))) (exOf_no (exOf_no (exOf_nil))))) (bx_nil) (exOf_no (exOf_no (exOf_nil))))
      (bx_one (sx_ret (ex_if (tx_cmp (op_eqZ b.hu) (sem_rD eqD_flat) (ex_ix (ex_var 0) (ex_int)) (ex_kon g.k_HIGH) (nomark _)) (ex_tup (ax_cons (ex_var 2) (ax_cons (ex_var 3) (ax_nil)))) (ex_tup (ax_cons (ex_var 3) (ax_cons (ex_var 2) (ax_nil))))) (exOf_no (exOf_no (exOf_nil))))))) (.inl rfl)
/-! ### chunk_signs -/
def N_chunk_signs : List Str := ["form", "chunk", "tag", "body", "signs"]
theorem sc_chunk_signs : FnScope N_chunk_signs ["form", "chunk"] (defScope (top 52)) := ⟨rfl, rfl, rfl, by decide +kernel, rfl, by decide +kernel, by decide +kernel⟩
def T_chunk_signs : Rho → Out Rho Flw := sqT (tgtT (tupG 2 (consG (setG 2) (consG (setG 3) (nilG)))) (varT 1)) (sqT (asgT 4 (tupT (consT (varT 2) (starT (callT [none, none] S_length_signs (consT (varT 0) (consT (callB lenD (consT (varT 3) (nilT))) (nilT)))) (starT (varT 3) (nilT)))))) (retT (ifT (isB (binT eqD (callT [none, none] S_use_at (consT (varT 0) (consT (varT 2) (nilT)))) (cT (.str ("check" : Str))))) (tupT (starT (varT 4) (consT (binT modD (callB intC (consT (callB sumD (consT (lstT (starT (varT 3) (nilT))) (nilT))) (nilT))) (binT idxD (varT 0) (cT (.int 0)))) (nilT)))) (varT 4))))
def S_chunk_signs : List D → Out (List D) D := runF [] 5 T_chunk_signs
theorem z_chunk_signs {K : PySem.W.Frag} {mg : Str → Option Value} {base : Heap} (g : Gk K mg) (z_length_signs : FnZ PgW.P PgW.w K mg base "length_signs" 1 [none, none] none S_length_signs) (z_use_at : FnZ PgW.P PgW.w K mg base "use_at" 1 [none, none] none S_use_at) (hF : ∃ fd, Fun K "chunk_signs" "chunk_signs" (top 52) (He.ga K "chunk_signs") fd) (hm : mg "chunk_signs" = some (.ref (He.ga K "chunk_signs"))) : FnZ PgW.P PgW.w K mg base "chunk_signs" 2 [none, none] none S_chunk_signs := by
  obtain ⟨fd, F⟩ := hF
  refine FnZ.of F hm (ps := ["form", "chunk"]) (fun _ _ _ _ _ _ us hl => match us, hl with | [_, _], _ => rfl) ?_
  exact fnZ0 (k := 1) (rk := none) (N := N_chunk_signs) (ps := ["form", "chunk"]) (O' := [none, none, none, none, none]) (T := T_chunk_signs) 2 F sc_chunk_signs rfl (fun cdv A outer s H E b => by
    have nd := sc_chunk_signs.nd
    exact bx_cons (O1 := [none, none, none, none, none]) (sx_tgt (ex_var 1) (gx_tup b.calm (gxs_cons (gx_name 2 nd) (gxs_cons (gx_name 3 nd) (gxs_nil)))) (exOf_no (exOf_no (exOf_nil))))
      (bx_cons (O1 := [none, none, none, none, none]) (sx_set 4 nd (ex_tup (ax_cons (ex_var 2) (ax_star (ex_fn z_length_signs (b.room.mono (by decide)) b.tk (aj_cons (ex_var 0) (aj_cons (ex_callB call_lenZ (sem_rDN lenD_flat) g.f_len rfl (ax_cons (ex_var 3) (ax_nil))) (aj_nil)))) (ax_star (ex_var 3) (ax_nil))))) (exOf_no (exOf_no (exOf_nil))))
      (bx_one (sx_ret (ex_if (tx_cmp (op_eqZ b.hu) (sem_rD eqD_flat) (ex_fn z_use_at (b.room.mono (by decide)) b.tk (aj_cons (ex_var 0) (aj_cons (ex_var 2) (aj_nil)))) (ex_kon g.k_CHECK) (nomark _)) (ex_tup (ax_star (ex_var 4) (ax_cons (ex_op op_modZ (sem_rD intD_flat) (ex_callTy call_intZ (sem_rDN intC_flat) g.f_int rfl (ax_cons (ex_callB (call_sumZ b.calm) (sem_rDN sumD_flat) g.f_sum rfl (ax_cons (ex_of_fx (fx_lst (ax_star (ex_var 3) (ax_nil)))) (ax_nil))) (ax_nil))) (ex_ix (ex_var 0) (ex_int))) (ax_nil)))) (ex_var 4)) (exOf_no (exOf_no (exOf_nil))))))) (.inl rfl)
/-! ### written -/
def N_written : List Str := ["form", "content", "found", "chunk", "ends", "sign", "use", "mark"]
theorem sc_written : FnScope N_written ["form", "content"] (defScope (top 53)) := ⟨rfl, rfl, rfl, by decide +kernel, rfl, by decide +kernel, by decide +kernel⟩
def T_written : Rho → Out Rho Flw := sqT (asgT 2 (callB tupC (consT (lcT [7] (seqT (binT idxD (varT 0) (cT (.int 1)))) (setG 7) (yesT) (ifT (isB (binT isD (varT 7) (cT .none))) (cT (.int 0)) (varT 7))) (nilT)))) (sqT (forS (seqT (varT 1)) (setG 3) (asgT 2 (tupT (starT (varT 2) (starT (callT [none, none] S_chunk_signs (consT (varT 0) (consT (varT 3) (nilT)))) (nilT)))))) (sqT (asgT 4 (lcT [5, 6] (seqT (binT idxD (varT 0) (cT (.int 4)))) (tupG 2 (consG (setG 5) (consG (setG 6) (nilG)))) (isB (binT inD (varT 6) (tupT (consT (cT (.str ("end" : Str))) (consT (cT (.str ("stop" : Str))) (nilT)))))) (varT 5))) (retT (ifT (isB (binO 4 neD (lstT (nilT)))) (tupT (starT (varT 2) (consT (binO 4 idxD (cT (.int 0))) (nilT)))) (varT 2)))))
def S_written : List D → Out (List D) D := runF [] 8 T_written
theorem z_written {K : PySem.W.Frag} {mg : Str → Option Value} {base : Heap} (g : Gk K mg) (z_chunk_signs : FnZ PgW.P PgW.w K mg base "chunk_signs" 2 [none, none] none S_chunk_signs) (hF : ∃ fd, Fun K "written" "written" (top 53) (He.ga K "written") fd) (hm : mg "written" = some (.ref (He.ga K "written"))) : FnZ PgW.P PgW.w K mg base "written" 3 [none, none] none S_written := by
  obtain ⟨fd, F⟩ := hF
  refine FnZ.of F hm (ps := ["form", "content"]) (fun _ _ _ _ _ _ us hl => match us, hl with | [_, _], _ => rfl) ?_
  exact fnZ0 (k := 2) (rk := none) (N := N_written) (ps := ["form", "content"]) (O' := [none, none, none, none, some .lst, none, none, none]) (T := T_written) 2 F sc_written rfl (fun cdv A outer s H E b => by
    have nd := sc_written.nd
    exact bx_cons (O1 := [none, none, none, none, none, none, none, none]) (sx_set 2 nd (ex_callTy call_tuple_of sem_tupC g.f_tuple rfl (ax_cons (ex_of_fx (fx_lc (own := [("mark", 7)]) b.calm nd (ix_seqZ (ex_ix (ex_var 0) (ex_int))) (blkOk_of (by kernel_rfl)) (none_cons rfl (fun _ h => nomatch h)) (fun _ _ _ _ _ => gx_name 7 nd) (fun _ _ _ _ _ => txs_nil) (fun _ _ _ _ _ => ex_if (tx_cmp (op_isZ) (sem_rD isD_flat) (ex_var 7) (ex_non) (nomark _)) (ex_int) (ex_var 7)))) (ax_nil))) (exOf_no (exOf_no (exOf_nil))))
      (bx_cons (O1 := [none, none, none, none, none, none, none, none]) (sx_for b.own b.calm (ix_seqZ (ex_var 1)) (gx_name 3 nd) (bx_one (sx_set 2 nd (ex_tup (ax_star (ex_var 2) (ax_star (ex_fn z_chunk_signs (b.room.mono (by decide)) b.tk (aj_cons (ex_var 0) (aj_cons (ex_var 3) (aj_nil)))) (ax_nil)))) (exOf_no (exOf_no (exOf_nil))))) (exOf_no (exOf_no (exOf_nil))))
      (bx_cons (O1 := [none, none, none, none, some .lst, none, none, none]) (sx_lc 4 (own := [("sign", 5), ("use", 6)]) b.calm nd (exOf_no (exOf_no (exOf_nil))) (ix_seqZ (ex_ix (ex_var 0) (ex_int))) (blkOk_of (by kernel_rfl)) (none_cons rfl (none_cons rfl (fun _ h => nomatch h))) (fun _ _ _ _ _ => gx_tup (by exact b.calm) (gxs_cons (gx_name 5 nd) (gxs_cons (gx_name 6 nd) (gxs_nil)))) (fun _ _ _ _ _ => txs_one (tx_cmp (op_inZ (by exact b.hu)) (sem_rD inD_flat) (ex_var 6) (ex_tup (ax_cons (ex_kon g.k_END) (ax_cons (ex_kon g.k_STOP) (ax_nil)))) (by with_unfolding_all rfl))) (fun _ _ _ _ _ => ex_var 5))
      (bx_one (sx_ret (ex_if (tx_cmpO 4 (op_neZ b.hu) neD_flat (ex_of_fx (fx_lst (ax_nil))) (nomark _)) (ex_tup (ax_star (ex_var 2) (ax_cons (ex_ixO 4 (ex_int)) (ax_nil)))) (ex_var 2)) (exOf_no (exOf_no (exOf_nil)))))))) (.inl rfl)
/-! ### write -/
def N_write : List Str := ["form", "content"]
theorem sc_write : FnScope N_write ["form", "content"] (defScope (top 54)) := ⟨rfl, rfl, rfl, by decide +kernel, rfl, by decide +kernel, by decide +kernel⟩
def T_write : Rho → Out Rho Flw := sqT (dropT (callT [none] S_check_format (consT (varT 0) (nilT)))) (sqT (dropT (callT [none, none] S_check_content (consT (varT 0) (consT (varT 1) (nilT))))) (retT (callT [none, none] S_written (consT (varT 0) (consT (varT 1) (nilT))))))
def S_write : List D → Out (List D) D := runF [] 2 T_write
theorem z_write {K : PySem.W.Frag} {mg : Str → Option Value} {base : Heap} (g : Gk K mg) (z_check_content : FnZ PgW.P PgW.w K mg base "check_content" 6 [none, none] none S_check_content) (z_check_format : FnZ PgW.P PgW.w K mg base "check_format" 5 [none] none S_check_format) (z_written : FnZ PgW.P PgW.w K mg base "written" 3 [none, none] none S_written) (hF : ∃ fd, Fun K "write" "write" (top 54) (He.ga K "write") fd) (hm : mg "write" = some (.ref (He.ga K "write"))) : FnZ PgW.P PgW.w K mg base "write" 7 [none, none] none S_write := by
  obtain ⟨fd, F⟩ := hF
  refine FnZ.of F hm (ps := ["form", "content"]) (fun _ _ _ _ _ _ us hl => match us, hl with | [_, _], _ => rfl) ?_
  exact fnZ0 (k := 6) (rk := none) (N := N_write) (ps := ["form", "content"]) (O' := [none, none]) (T := T_write) 2 F sc_write rfl (fun cdv A outer s H E b => by
    have nd := sc_write.nd
    exact bx_cons (O1 := [none, none]) (sx_expr (ex_fn z_check_format (b.room.mono (by decide)) b.tk (aj_cons (ex_var 0) (aj_nil))) (exOf_no (exOf_no (exOf_nil))))
      (bx_cons (O1 := [none, none]) (sx_expr (ex_fn z_check_content (b.room.mono (by decide)) b.tk (aj_cons (ex_var 0) (aj_cons (ex_var 1) (aj_nil)))) (exOf_no (exOf_no (exOf_nil))))
      (bx_one (sx_ret (ex_fn z_written (b.room.mono (by decide)) b.tk (aj_cons (ex_var 0) (aj_cons (ex_var 1) (aj_nil)))) (exOf_no (exOf_no (exOf_nil))))))) (.inl rfl)
/-! ### _law_content -/
def N__law_content : List Str := ["bag", "form_here", "told_tags", "found", "base", "top", "worth", "k", "size", "most", "body_here", "row", "turn"]
theorem sc__law_content : FnScope N__law_content ["bag", "form_here"] (defScope (top 80)) := ⟨rfl, rfl, rfl, by decide +kernel, rfl, by decide +kernel, by decide +kernel⟩
def T__law_content : Rho → Out Rho Flw := sqT (par2T 2 3 (consT (lcT [11] (seqT (binT idxD (varT 1) (cT (.int 4)))) (setG 11) (isB (binT inD (binT idxD (varT 11) (cT (.int 1))) (tupT (consT (cT (.str ("keep" : Str))) (consT (cT (.str ("check" : Str))) (nilT)))))) (binT idxD (varT 11) (cT (.int 0)))) (consT (lstT (nilT)) (nilT)))) (sqT (par2T 4 5 (consT (binT idxD (varT 1) (cT (.int 0))) (consT (binT idxD (varT 1) (cT (.int 3))) (nilT)))) (sqT (asgT 6 (ifT (isB (binT eqD (binT idxD (varT 1) (cT (.int 2))) (cT (.str ("one" : Str))))) (callB minD (consT (varT 5) (consT (binT subD (varT 4) (cT (.int 1))) (nilT)))) (callB minD (consT (varT 5) (consT (binT subD (binT powD (varT 4) (cT (.int 2))) (cT (.int 1))) (nilT)))))) (sqT (forS (rngT rng1D (consT (callT [some 0, none] S__law_grab (ownT 0 (consT (cT (.int 4)) (nilT)))) (nilT))) (setG 7) (ifT (isB (binT neD (varT 2) (lstT (nilT)))) (sqT (par2T 8 9 (consT (callT [some 0, none] S__law_grab (ownT 0 (consT (binT addD (callB minD (consT (varT 6) (consT (binT idxD (lstT (consT (cT (.int 1)) (consT (cT (.int 5)) (nilT)))) (callT [some 0, none] S__law_grab (ownT 0 (consT (cT (.int 2)) (nilT))))) (nilT)))) (cT (.int 1))) (nilT)))) (consT (binT idxD (lstT (consT (cT (.int 1)) (consT (varT 4) (nilT)))) (callT [some 0, none] S__law_grab (ownT 0 (consT (cT (.int 2)) (nilT))))) (nilT)))) (sqT (asgT 10 (callB tupC (consT (lcT [12] (rngT rng1D (consT (varT 8) (nilT))) (setG 12) (yesT) (callT [some 0, none] S__law_grab (ownT 0 (consT (varT 9) (nilT))))) (nilT)))) (appT 3 (tupT (consT (binT idxD (varT 2) (callT [some 0, none] S__law_grab (ownT 0 (consT (callB lenD (consT (varT 2) (nilT))) (nilT))))) (consT (varT 10) (nilT))))))) (nxT))) (retT (callO 3 tupC)))))
def S__law_content : List D → Out (List D) D := runF [0] 13 T__law_content
theorem z__law_content {K : PySem.W.Frag} {mg : Str → Option Value} {base : Heap} (g : Gk K mg) (z__law_grab : FnZ PgW.P PgW.w K mg base "_law_grab" 1 [some .lst, none] none S__law_grab) (hF : ∃ fd, Fun K "_law_content" "_law_content" (top 80) (He.ga K "_law_content") fd) (hm : mg "_law_content" = some (.ref (He.ga K "_law_content"))) : FnZ PgW.P PgW.w K mg base "_law_content" 2 [some .lst, none] none S__law_content := by
  obtain ⟨fd, F⟩ := hF
  refine FnZ.of F hm (ps := ["bag", "form_here"]) (fun _ _ _ _ _ _ us hl => match us, hl with | [_, _], _ => rfl) ?_
  exact fnZ1 (k := 1) (rk := none) (N := N__law_content) (ps := ["bag", "form_here"]) (O' := [some .lst, none, none, some .lst, none, none, none, none, none, none, none, none, none]) (T := T__law_content) .lst 1 F sc__law_content rfl (fun cdv A outer s H E a b => by
    have nd := sc__law_content.nd
    exact bx_cons (O1 := [some .lst, none, none, some .lst, none, none, none, none, none, none, none, none, none]) (sx_par2 2 3 (k := none) (l := (some .lst)) b.calm nd (af_cons (ex_of_fx (fx_lc (own := [("row", 11)]) b.calm nd (ix_seqZ (ex_ix (ex_var 1) (ex_int))) (blkOk_of (by kernel_rfl)) (none_cons rfl (fun _ h => nomatch h)) (fun _ _ _ _ _ => gx_name 11 nd) (fun _ _ _ _ _ => txs_one (tx_cmp (op_inZ (by exact b.hu)) (sem_rD inD_flat) (ex_ix (ex_var 11) (ex_int)) (ex_tup (ax_cons (ex_str) (ax_cons (ex_str) (ax_nil)))) (by with_unfolding_all rfl))) (fun _ _ _ _ _ => ex_ix (ex_var 11) (ex_int)))) (af_new (fx_lst (ax_nil)) (af_nil))) (exOf_yes (exOf_no (exOf_nil))) (by rfl))
      (bx_cons (O1 := [some .lst, none, none, some .lst, none, none, none, none, none, none, none, none, none]) (sx_par2 4 5 (k := none) (l := none) b.calm nd (af_cons (ex_ix (ex_var 1) (ex_int)) (af_cons (ex_ix (ex_var 1) (ex_int)) (af_nil))) (exOf_yes (exOf_no (exOf_nil))) (by rfl))
      (bx_cons (O1 := [some .lst, none, none, some .lst, none, none, none, none, none, none, none, none, none]) (sx_set 6 nd (ex_if (tx_cmp (op_eqZ b.hu) (sem_rD eqD_flat) (ex_ix (ex_var 1) (ex_int)) (ex_str) (nomark _)) (ex_callB (call_minZ b.calm) (sem_rDN minD_flat) g.f_min rfl (ax_cons (ex_var 5) (ax_cons (ex_op op_subZ (sem_rD intD_flat) (ex_var 4) (ex_int)) (ax_nil)))) (ex_callB (call_minZ b.calm) (sem_rDN minD_flat) g.f_min rfl (ax_cons (ex_var 5) (ax_cons (ex_op op_subZ (sem_rD intD_flat) (ex_op op_powZ (sem_rD intD_flat) (ex_var 4) (ex_int)) (ex_int)) (ax_nil))))) (exOf_yes (exOf_no (exOf_nil))))
      (bx_cons (O1 := [some .lst, none, none, some .lst, none, none, none, none, none, none, none, none, none]) (sx_for b.own b.calm (ix_rng1 g.f_range (ax_cons (ex_fn z__law_grab (b.room.mono (by decide)) b.tk (aj_own 0 (aj_cons (ex_int) (aj_nil)))) (ax_nil))) (gx_name 7 nd) (bx_one (sx_if (O' := [some .lst, none, none, some .lst, none, none, none, none, none, none, none, none, none]) (tx_cmp (op_neZ b.hu) (sem_rD neD_flat) (ex_var 2) (ex_of_fx (fx_lst (ax_nil))) (nomark _)) (bx_cons (O1 := [some .lst, none, none, some .lst, none, none, none, none, none, none, none, none, none]) (sx_parL 8 9 (k := none) (l := none) b.calm nd (af_cons (ex_fn z__law_grab (b.room.mono (by decide)) b.tk (aj_own 0 (aj_cons (ex_op op_addZ (sem_add) (ex_callB (call_minZ b.calm) (sem_rDN minD_flat) g.f_min rfl (ax_cons (ex_var 6) (ax_cons (ex_ix (ex_of_fx (fx_lst (ax_cons (ex_int) (ax_cons (ex_int) (ax_nil))))) (ex_fn z__law_grab (b.room.mono (by decide)) b.tk (aj_own 0 (aj_cons (ex_int) (aj_nil))))) (ax_nil)))) (ex_int)) (aj_nil)))) (af_cons (ex_ix (ex_of_fx (fx_lst (ax_cons (ex_int) (ax_cons (ex_var 4) (ax_nil))))) (ex_fn z__law_grab (b.room.mono (by decide)) b.tk (aj_own 0 (aj_cons (ex_int) (aj_nil))))) (af_nil))) (exOf_yes (exOf_no (exOf_nil))))
      (bx_cons (O1 := [some .lst, none, none, some .lst, none, none, none, none, none, none, none, none, none]) (sx_set 10 nd (ex_callTy call_tuple_of sem_tupC g.f_tuple rfl (ax_cons (ex_of_fx (fx_lc (own := [("turn", 12)]) b.calm nd (ix_rng1 g.f_range (ax_cons (ex_var 8) (ax_nil))) (blkOk_of (by kernel_rfl)) (none_cons rfl (fun _ h => nomatch h)) (fun _ _ _ _ _ => gx_name 12 nd) (fun _ _ _ _ _ => txs_nil) (fun _ _ _ _ _ => ex_fn z__law_grab (by exact b.room.mono (by decide)) takes0 (aj_own 0 (aj_cons (ex_var 9) (aj_nil)))))) (ax_nil))) (exOf_yes (exOf_no (exOf_nil))))
      (bx_one (sx_append 3 (ex_tup (ax_cons (ex_ix (ex_var 2) (ex_fn z__law_grab (b.room.mono (by decide)) b.tk (aj_own 0 (aj_cons (ex_callB call_lenZ (sem_rDN lenD_flat) g.f_len rfl (ax_cons (ex_var 2) (ax_nil))) (aj_nil))))) (ax_cons (ex_var 10) (ax_nil)))) (exOf_yes (exOf_no (exOf_nil))))))) (bx_nil) (exOf_yes (exOf_no (exOf_nil))))) (exOf_yes (exOf_no (exOf_nil))))
      (bx_one (sx_ret (ex_callTyO 3 call_tuple_of own_tupC g.f_tuple rfl (ax_own1 3)) (exOf_yes (exOf_no (exOf_nil))))))))) (.inl rfl) (exOf_yes (exOf_no (exOf_nil)))
/-! ### _law_use -/
def N__law_use : List Str := ["form_here", "sign", "row"]
theorem sc__law_use : FnScope N__law_use ["form_here", "sign"] (defScope (top 74)) := ⟨rfl, rfl, rfl, by decide +kernel, rfl, by decide +kernel, by decide +kernel⟩
def T__law_use : Rho → Out Rho Flw := sqT (forS (seqT (binT idxD (varT 0) (cT (.int 4)))) (setG 2) (ifT (isB (binT eqD (binT idxD (varT 2) (cT (.int 0))) (varT 1))) (retT (binT idxD (varT 2) (cT (.int 1)))) (nxT))) (retT (ifT (isB (binT eqD (binT idxD (varT 0) (cT (.int 5))) (cT (.str ("skip" : Str))))) (cT (.str ("skip" : Str))) (cT (.str ("" : Str)))))
def S__law_use : List D → Out (List D) D := runF [] 3 T__law_use
theorem z__law_use {K : PySem.W.Frag} {mg : Str → Option Value} {base : Heap} (g : Gk K mg) (hF : ∃ fd, Fun K "_law_use" "_law_use" (top 74) (He.ga K "_law_use") fd) (hm : mg "_law_use" = some (.ref (He.ga K "_law_use"))) : FnZ PgW.P PgW.w K mg base "_law_use" 1 [none, none] none S__law_use := by
  obtain ⟨fd, F⟩ := hF
  refine FnZ.of F hm (ps := ["form_here", "sign"]) (fun _ _ _ _ _ _ us hl => match us, hl with | [_, _], _ => rfl) ?_
  exact fnZ0 (k := 0) (rk := none) (N := N__law_use) (ps := ["form_here", "sign"]) (O' := [none, none, none]) (T := T__law_use) 2 F sc__law_use rfl (fun cdv A outer s H E b => by
    have nd := sc__law_use.nd
    exact bx_cons (O1 := [none, none, none]) (sx_for b.own b.calm (ix_seqZ (ex_ix (ex_var 0) (ex_int))) (gx_name 2 nd) (bx_one (sx_if (O' := [none, none, none]) (tx_cmp (op_eqZ b.hu) (sem_rD eqD_flat) (ex_ix (ex_var 2) (ex_int)) (ex_var 1) (nomark _)) (bx_one (sx_ret (ex_ix (ex_var 2) (ex_int)) (exOf_no (exOf_no (exOf_nil))))) (bx_nil) (exOf_no (exOf_no (exOf_nil))))) (exOf_no (exOf_no (exOf_nil))))
      (bx_one (sx_ret (ex_if (tx_cmp (op_eqZ b.hu) (sem_rD eqD_flat) (ex_ix (ex_var 0) (ex_int)) (ex_str) (nomark _)) (ex_str) (ex_str)) (exOf_no (exOf_no (exOf_nil)))))) (.inl rfl)
/-! ### _law_long -/
def N__law_long : List Str := ["form_here", "signs_here", "at", "base", "wide", "top", "first", "second", "worth"]
theorem sc__law_long : FnScope N__law_long ["form_here", "signs_here", "at"] (defScope (top 75)) := ⟨rfl, rfl, rfl, by decide +kernel, rfl, by decide +kernel, by decide +kernel⟩
def T__law_long : Rho → Out Rho Flw := sqT (par3T 3 4 5 (consT (binT idxD (varT 0) (cT (.int 0))) (consT (binT idxD (varT 0) (cT (.int 2))) (consT (binT idxD (varT 0) (cT (.int 3))) (nilT))))) (sqT (ifT (isB (binT geD (varT 2) (callB lenD (consT (varT 1) (nilT))))) (retT (tupT (consT (cT .none) (consT (tupT (consT (callB lenD (consT (varT 1) (nilT))) (consT (cT (.str ("short" : Str))) (nilT)))) (nilT))))) (nxT)) (sqT (asgT 6 (binT idxD (varT 1) (varT 2))) (sqT (ifT (isB (binT eqD (varT 4) (cT (.str ("one" : Str))))) (retT (ifT (isB (binT leD (varT 6) (varT 5))) (tupT (consT (varT 6) (consT (binT addD (varT 2) (cT (.int 1))) (nilT)))) (tupT (consT (cT .none) (consT (tupT (consT (varT 2) (consT (cT (.str ("length" : Str))) (nilT)))) (nilT)))))) (nxT)) (sqT (ifT (isB (binT gtD (ifT (isB (binT eqD (varT 4) (cT (.str ("high" : Str))))) (binT mulD (varT 6) (varT 3)) (varT 6)) (varT 5))) (retT (tupT (consT (cT .none) (consT (tupT (consT (varT 2) (consT (cT (.str ("length" : Str))) (nilT)))) (nilT))))) (nxT)) (sqT (ifT (isB (binT geD (binT addD (varT 2) (cT (.int 1))) (callB lenD (consT (varT 1) (nilT))))) (retT (tupT (consT (cT .none) (consT (tupT (consT (callB lenD (consT (varT 1) (nilT))) (consT (cT (.str ("short" : Str))) (nilT)))) (nilT))))) (nxT)) (sqT (asgT 7 (binT idxD (varT 1) (binT addD (varT 2) (cT (.int 1))))) (sqT (asgT 8 (ifT (isB (binT eqD (varT 4) (cT (.str ("high" : Str))))) (binT addD (binT mulD (varT 6) (varT 3)) (varT 7)) (binT addD (binT mulD (varT 7) (varT 3)) (varT 6)))) (retT (ifT (isB (binT leD (varT 8) (varT 5))) (tupT (consT (varT 8) (consT (binT addD (varT 2) (cT (.int 2))) (nilT)))) (tupT (consT (cT .none) (consT (tupT (consT (binT addD (varT 2) (cT (.int 1))) (consT (cT (.str ("length" : Str))) (nilT)))) (nilT)))))))))))))
def S__law_long : List D → Out (List D) D := runF [] 9 T__law_long
theorem z__law_long {K : PySem.W.Frag} {mg : Str → Option Value} {base : Heap} (g : Gk K mg) (hF : ∃ fd, Fun K "_law_long" "_law_long" (top 75) (He.ga K "_law_long") fd) (hm : mg "_law_long" = some (.ref (He.ga K "_law_long"))) : FnZ PgW.P PgW.w K mg base "_law_long" 1 [none, none, none] none S__law_long := by
  obtain ⟨fd, F⟩ := hF
  refine FnZ.of F hm (ps := ["form_here", "signs_here", "at"]) (fun _ _ _ _ _ _ us hl => match us, hl with | [_, _, _], _ => rfl) ?_
  exact fnZ0 (k := 0) (rk := none) (N := N__law_long) (ps := ["form_here", "signs_here", "at"]) (O' := [none, none, none, none, none, none, none, none, none]) (T := T__law_long) 3 F sc__law_long rfl (fun cdv A outer s H E b => by
    have nd := sc__law_long.nd
    exact bx_cons (O1 := [none, none, none, none, none, none, none, none, none]) (sx_par3 3 4 5 b.calm nd (ax_cons (ex_ix (ex_var 0) (ex_int)) (ax_cons (ex_ix (ex_var 0) (ex_int)) (ax_cons (ex_ix (ex_var 0) (ex_int)) (ax_nil)))) (exOf_no (exOf_no (exOf_no (exOf_nil)))) (by rfl))
      (bx_cons (O1 := [none, none, none, none, none, none, none, none, none]) (sx_if (O' := [none, none, none, none, none, none, none, none, none]) (tx_cmp (op_geZ b.hu) (sem_rD ordD_flat) (ex_var 2) (ex_callB call_lenZ (sem_rDN lenD_flat) g.f_len rfl (ax_cons (ex_var 1) (ax_nil))) (nomark _)) (bx_one (sx_ret (ex_tup (ax_cons (ex_non) (ax_cons (ex_tup (ax_cons (ex_callB call_lenZ (sem_rDN lenD_flat) g.f_len rfl (ax_cons (ex_var 1) (ax_nil))) (ax_cons (ex_str) (ax_nil)))) (ax_nil)))) (exOf_no (exOf_no (exOf_no (exOf_nil)))))) (bx_nil) (exOf_no (exOf_no (exOf_no (exOf_nil)))))
      (bx_cons (O1 := [none, none, none, none, none, none, none, none, none]) (sx_set 6 nd (ex_ix (ex_var 1) (ex_var 2)) (exOf_no (exOf_no (exOf_no (exOf_nil)))))
      (bx_cons (O1 := [none, none, none, none, none, none, none, none, none]) (sx_if (O' := [none, none, none, none, none, none, none, none, none]) (tx_cmp (op_eqZ b.hu) (sem_rD eqD_flat) (ex_var 4) (ex_str) (nomark _)) (bx_one (sx_ret (ex_if (tx_cmp (op_leZ b.hu) (sem_rD ordD_flat) (ex_var 6) (ex_var 5) (nomark _)) (ex_tup (ax_cons (ex_var 6) (ax_cons (ex_op op_addZ (sem_add) (ex_var 2) (ex_int)) (ax_nil)))) (ex_tup (ax_cons (ex_non) (ax_cons (ex_tup (ax_cons (ex_var 2) (ax_cons (ex_str) (ax_nil)))) (ax_nil))))) (exOf_no (exOf_no (exOf_no (exOf_nil)))))) (bx_nil) (exOf_no (exOf_no (exOf_no (exOf_nil)))))
      (bx_cons (O1 := [none, none, none, none, none, none, none, none, none]) (sx_if (O' := [none, none, none, none, none, none, none, none, none]) (tx_cmp (op_gtZ b.hu) (sem_rD ordD_flat) (ex_if (tx_cmp (op_eqZ b.hu) (sem_rD eqD_flat) (ex_var 4) (ex_str) (nomark _)) (ex_op op_mulZ (sem_rD intD_flat) (ex_var 6) (ex_var 3)) (ex_var 6)) (ex_var 5) (nomark _)) (bx_one (sx_ret (ex_tup (ax_cons (ex_non) (ax_cons (ex_tup (ax_cons (ex_var 2) (ax_cons (ex_str) (ax_nil)))) (ax_nil)))) (exOf_no (exOf_no (exOf_no (exOf_nil)))))) (bx_nil) (exOf_no (exOf_no (exOf_no (exOf_nil)))))
      (bx_cons (O1 := [none, none, none, none, none, none, none, none, none]) (sx_if (O' := [none, none, none, none, none, none, none, none, none]) (tx_cmp (op_geZ b.hu) (sem_rD ordD_flat) (ex_op op_addZ (sem_add) (ex_var 2) (ex_int)) (ex_callB call_lenZ (sem_rDN lenD_flat) g.f_len rfl (ax_cons (ex_var 1) (ax_nil))) (nomark _)) (bx_one (sx_ret (ex_tup (ax_cons (ex_non) (ax_cons (ex_tup (ax_cons (ex_callB call_lenZ (sem_rDN lenD_flat) g.f_len rfl (ax_cons (ex_var 1) (ax_nil))) (ax_cons (ex_str) (ax_nil)))) (ax_nil)))) (exOf_no (exOf_no (exOf_no (exOf_nil)))))) (bx_nil) (exOf_no (exOf_no (exOf_no (exOf_nil)))))
      (bx_cons (O1 := [none, none, none, none, none, none, none, none, none]) (sx_set 7 nd (ex_ix (ex_var 1) (ex_op op_addZ (sem_add) (ex_var 2) (ex_int))) (exOf_no (exOf_no (exOf_no (exOf_nil)))))
      (bx_cons (O1 := [none, none, none, none, none, none, none, none, none]) (sx_set 8 nd (ex_if (tx_cmp (op_eqZ b.hu) (sem_rD eqD_flat) (ex_var 4) (ex_str) (nomark _)) (ex_op op_addZ (sem_add) (ex_op op_mulZ (sem_rD intD_flat) (ex_var 6) (ex_var 3)) (ex_var 7)) (ex_op op_addZ (sem_add) (ex_op op_mulZ (sem_rD intD_flat) (ex_var 7) (ex_var 3)) (ex_var 6))) (exOf_no (exOf_no (exOf_no (exOf_nil)))))
      (bx_one (sx_ret (ex_if (tx_cmp (op_leZ b.hu) (sem_rD ordD_flat) (ex_var 8) (ex_var 5) (nomark _)) (ex_tup (ax_cons (ex_var 8) (ax_cons (ex_op op_addZ (sem_add) (ex_var 2) (ex_int)) (ax_nil)))) (ex_tup (ax_cons (ex_non) (ax_cons (ex_tup (ax_cons (ex_op op_addZ (sem_add) (ex_var 2) (ex_int)) (ax_cons (ex_str) (ax_nil)))) (ax_nil))))) (exOf_no (exOf_no (exOf_no (exOf_nil)))))))))))))) (.inl rfl)
/-! ### _law_chunk -/
def N__law_chunk : List Str := ["form_here", "signs_here", "at", "use_here", "worth", "body_here", "good"]
theorem sc__law_chunk : FnScope N__law_chunk ["form_here", "signs_here", "at", "use_here"] (defScope (top 76)) := ⟨rfl, rfl, rfl, by decide +kernel, rfl, by decide +kernel, by decide +kernel⟩
def T__law_chunk : Rho → Out Rho Flw := sqT (tgtT (tupG 2 (consG (setG 4) (consG (setG 2) (nilG)))) (callT [none, none, none] S__law_long (consT (varT 0) (consT (varT 1) (consT (varT 2) (nilT)))))) (sqT (ifT (isB (binT isD (varT 4) (cT .none))) (retT (tupT (consT (cT .none) (consT (varT 2) (nilT))))) (nxT)) (sqT (ifT (isB (binT gtD (binT addD (varT 2) (varT 4)) (callB lenD (consT (varT 1) (nilT))))) (retT (tupT (consT (cT .none) (consT (tupT (consT (callB lenD (consT (varT 1) (nilT))) (consT (cT (.str ("short" : Str))) (nilT)))) (nilT))))) (nxT)) (sqT (asgT 5 (slcT (varT 1) (someP (varT 2)) (someP (binT addD (varT 2) (varT 4))))) (sqT (asgT 2 (binT addD (varT 2) (varT 4))) (sqT (ifT (isB (binT neD (varT 3) (cT (.str ("check" : Str))))) (retT (tupT (consT (varT 5) (consT (varT 2) (nilT))))) (nxT)) (sqT (ifT (isB (binT geD (varT 2) (callB lenD (consT (varT 1) (nilT))))) (retT (tupT (consT (cT .none) (consT (tupT (consT (callB lenD (consT (varT 1) (nilT))) (consT (cT (.str ("short" : Str))) (nilT)))) (nilT))))) (nxT)) (sqT (asgT 6 (binT eqD (binT idxD (varT 1) (varT 2)) (binT modD (callB intC (consT (callB sumD (consT (varT 5) (nilT))) (nilT))) (binT idxD (varT 0) (cT (.int 0)))))) (retT (ifT (isB (varT 6)) (tupT (consT (varT 5) (consT (binT addD (varT 2) (cT (.int 1))) (nilT)))) (tupT (consT (cT .none) (consT (tupT (consT (varT 2) (consT (cT (.str ("check" : Str))) (nilT)))) (nilT)))))))))))))
def S__law_chunk : List D → Out (List D) D := runF [] 7 T__law_chunk
theorem z__law_chunk {K : PySem.W.Frag} {mg : Str → Option Value} {base : Heap} (g : Gk K mg) (z__law_long : FnZ PgW.P PgW.w K mg base "_law_long" 1 [none, none, none] none S__law_long) (hF : ∃ fd, Fun K "_law_chunk" "_law_chunk" (top 76) (He.ga K "_law_chunk") fd) (hm : mg "_law_chunk" = some (.ref (He.ga K "_law_chunk"))) : FnZ PgW.P PgW.w K mg base "_law_chunk" 2 [none, none, none, none] none S__law_chunk := by
  obtain ⟨fd, F⟩ := hF
  refine FnZ.of F hm (ps := ["form_here", "signs_here", "at", "use_here"]) (fun _ _ _ _ _ _ us hl => match us, hl with | [_, _, _, _], _ => rfl) ?_
  exact fnZ0 (k := 1) (rk := none) (N := N__law_chunk) (ps := ["form_here", "signs_here", "at", "use_here"]) (O' := [none, none, none, none, none, none, none]) (T := T__law_chunk) 4 F sc__law_chunk rfl (fun cdv A outer s H E b => by
    have nd := sc__law_chunk.nd
    exact bx_cons (O1 := [none, none, none, none, none, none, none]) (sx_tgt (ex_fn z__law_long (b.room.mono (by decide)) b.tk (aj_cons (ex_var 0) (aj_cons (ex_var 1) (aj_cons (ex_var 2) (aj_nil))))) (gx_tup b.calm (gxs_cons (gx_name 4 nd) (gxs_cons (gx_name 2 nd) (gxs_nil)))) (exOf_no (exOf_no (exOf_no (exOf_no (exOf_nil))))))
      (bx_cons (O1 := [none, none, none, none, none, none, none]) (sx_if (O' := [none, none, none, none, none, none, none]) (tx_cmp (op_isZ) (sem_rD isD_flat) (ex_var 4) (ex_non) (nomark _)) (bx_one (sx_ret (ex_tup (ax_cons (ex_non) (ax_cons (ex_var 2) (ax_nil)))) (exOf_no (exOf_no (exOf_no (exOf_no (exOf_nil))))))) (bx_nil) (exOf_no (exOf_no (exOf_no (exOf_no (exOf_nil))))))
      (bx_cons (O1 := [none, none, none, none, none, none, none]) (sx_if (O' := [none, none, none, none, none, none, none]) (tx_cmp (op_gtZ b.hu) (sem_rD ordD_flat) (ex_op op_addZ (sem_add) (ex_var 2) (ex_var 4)) (ex_callB call_lenZ (sem_rDN lenD_flat) g.f_len rfl (ax_cons (ex_var 1) (ax_nil))) (nomark _)) (bx_one (sx_ret (ex_tup (ax_cons (ex_non) (ax_cons (ex_tup (ax_cons (ex_callB call_lenZ (sem_rDN lenD_flat) g.f_len rfl (ax_cons (ex_var 1) (ax_nil))) (ax_cons (ex_str) (ax_nil)))) (ax_nil)))) (exOf_no (exOf_no (exOf_no (exOf_no (exOf_nil))))))) (bx_nil) (exOf_no (exOf_no (exOf_no (exOf_no (exOf_nil))))))
      (bx_cons (O1 := [none, none, none, none, none, none, none]) (sx_set 5 nd (ex_slice (ex_var 1) (px_some (ex_var 2)) (px_some (ex_op op_addZ (sem_add) (ex_var 2) (ex_var 4)))) (exOf_no (exOf_no (exOf_no (exOf_no (exOf_nil))))))
      (bx_cons (O1 := [none, none, none, none, none, none, none]) (sx_set 2 nd (ex_op op_addZ (sem_add) (ex_var 2) (ex_var 4)) (exOf_no (exOf_no (exOf_no (exOf_no (exOf_nil))))))
      (bx_cons (O1 := [none, none, none, none, none, none, none]) (sx_if (O' := [none, none, none, none, none, none, none]) (tx_cmp (op_neZ b.hu) (sem_rD neD_flat) (ex_var 3) (ex_str) (nomark _)) (bx_one (sx_ret (ex_tup (ax_cons (ex_var 5) (ax_cons (ex_var 2) (ax_nil)))) (exOf_no (exOf_no (exOf_no (exOf_no (exOf_nil))))))) (bx_nil) (exOf_no (exOf_no (exOf_no (exOf_no (exOf_nil))))))
      (bx_cons (O1 := [none, none, none, none, none, none, none]) (sx_if (O' := [none, none, none, none, none, none, none]) (tx_cmp (op_geZ b.hu) (sem_rD ordD_flat) (ex_var 2) (ex_callB call_lenZ (sem_rDN lenD_flat) g.f_len rfl (ax_cons (ex_var 1) (ax_nil))) (nomark _)) (bx_one (sx_ret (ex_tup (ax_cons (ex_non) (ax_cons (ex_tup (ax_cons (ex_callB call_lenZ (sem_rDN lenD_flat) g.f_len rfl (ax_cons (ex_var 1) (ax_nil))) (ax_cons (ex_str) (ax_nil)))) (ax_nil)))) (exOf_no (exOf_no (exOf_no (exOf_no (exOf_nil))))))) (bx_nil) (exOf_no (exOf_no (exOf_no (exOf_no (exOf_nil))))))
      (bx_cons (O1 := [none, none, none, none, none, none, none]) (sx_set 6 nd (ex_cmp (op_eqZ b.hu) (sem_rD eqD_flat) (ex_ix (ex_var 1) (ex_var 2)) (ex_op op_modZ (sem_rD intD_flat) (ex_callTy call_intZ (sem_rDN intC_flat) g.f_int rfl (ax_cons (ex_callB (call_sumZ b.calm) (sem_rDN sumD_flat) g.f_sum rfl (ax_cons (ex_var 5) (ax_nil))) (ax_nil))) (ex_ix (ex_var 0) (ex_int))) (nomark _)) (exOf_no (exOf_no (exOf_no (exOf_no (exOf_nil))))))
      (bx_one (sx_ret (ex_if (tx_val (ex_var 6)) (ex_tup (ax_cons (ex_var 5) (ax_cons (ex_op op_addZ (sem_add) (ex_var 2) (ex_int)) (ax_nil)))) (ex_tup (ax_cons (ex_non) (ax_cons (ex_tup (ax_cons (ex_var 2) (ax_cons (ex_str) (ax_nil)))) (ax_nil))))) (exOf_no (exOf_no (exOf_no (exOf_no (exOf_nil))))))))))))))) (.inl rfl)
/-! ### _law_reading -/
def N__law_reading : List Str := ["form_here", "signs_here", "content_here", "blind", "k", "at", "use_here", "good", "body_here", "after", "row"]
theorem sc__law_reading : FnScope N__law_reading ["form_here", "signs_here"] (defScope (top 77)) := ⟨rfl, rfl, rfl, by decide +kernel, rfl, by decide +kernel, by decide +kernel⟩
def T__law_reading : Rho → Out Rho Flw := sqT (par2T 2 3 (consT (lstT (nilT)) (consT (lstT (nilT)) (nilT)))) (sqT (forS (rngT rng1D (consT (callB lenD (consT (binT idxD (varT 0) (cT (.int 1))) (nilT))) (nilT))) (setG 4) (sqT (ifT (isB (binT geD (varT 4) (callB lenD (consT (varT 1) (nilT))))) (retT (tupT (consT (cT .none) (consT (cT .none) (consT (tupT (consT (callB lenD (consT (varT 1) (nilT))) (consT (cT (.str ("short" : Str))) (nilT)))) (nilT)))))) (nxT)) (ifT (isB (binT isD (binT idxD (binT idxD (varT 0) (cT (.int 1))) (varT 4)) (cT .none))) (appT 3 (varT 4)) (ifT (isB (binT neD (binT idxD (binT idxD (varT 0) (cT (.int 1))) (varT 4)) (binT idxD (varT 1) (varT 4)))) (retT (tupT (consT (cT .none) (consT (cT .none) (consT (tupT (consT (varT 4) (consT (cT (.str ("head" : Str))) (nilT)))) (nilT)))))) (nxT))))) (sqT (asgT 5 (callB lenD (consT (binT idxD (varT 0) (cT (.int 1))) (nilT)))) (sqT (whT (isB (binT ltD (varT 5) (callB lenD (consT (varT 1) (nilT))))) (sqT (asgT 6 (callT [none, none] S__law_use (consT (varT 0) (consT (binT idxD (varT 1) (varT 5)) (nilT))))) (sqT (ifT (isB (binT eqD (varT 6) (cT (.str ("" : Str))))) (retT (tupT (consT (cT .none) (consT (cT .none) (consT (tupT (consT (varT 5) (consT (cT (.str ("tag" : Str))) (nilT)))) (nilT)))))) (nxT)) (sqT (ifT (isB (binT eqD (varT 6) (cT (.str ("end" : Str))))) (retT (tupT (consT (callO 2 tupC) (consT (binT addD (varT 3) (binT lrgD (binT addD (varT 5) (cT (.int 1))) (callB lenD (consT (varT 1) (nilT))))) (consT (cT .none) (nilT)))))) (nxT)) (sqT (ifT (isB (binT eqD (varT 6) (cT (.str ("stop" : Str))))) (sqT (asgT 7 (binT eqD (binT addD (varT 5) (cT (.int 1))) (callB lenD (consT (varT 1) (nilT))))) (retT (ifT (isB (varT 7)) (tupT (consT (callO 2 tupC) (consT (varT 3) (consT (cT .none) (nilT))))) (tupT (consT (cT .none) (consT (cT .none) (consT (tupT (consT (binT addD (varT 5) (cT (.int 1))) (consT (cT (.str ("behind" : Str))) (nilT)))) (nilT)))))))) (nxT)) (sqT (tgtT (tupG 2 (consG (setG 8) (consG (setG 9) (nilG)))) (callT [none, none, none, none] S__law_chunk (consT (varT 0) (consT (varT 1) (consT (binT addD (varT 5) (cT (.int 1))) (consT (varT 6) (nilT))))))) (sqT (ifT (isB (binT isD (varT 8) (cT .none))) (retT (tupT (consT (cT .none) (consT (cT .none) (consT (varT 9) (nilT)))))) (nxT)) (sqT (ifT (isB (binT eqD (varT 6) (cT (.str ("skip" : Str))))) (asgT 3 (binT catLD (varT 3) (binT lrgD (binT subD (varT 9) (callB lenD (consT (varT 8) (nilT)))) (varT 9)))) (appT 2 (tupT (consT (binT idxD (varT 1) (varT 5)) (consT (varT 8) (nilT)))))) (asgT 5 (varT 9))))))))) fuel) (sqT (ifT (isB (binT neD (lcT [10] (seqT (binT idxD (varT 0) (cT (.int 4)))) (setG 10) (isB (binT inD (binT idxD (varT 10) (cT (.int 1))) (tupT (consT (cT (.str ("end" : Str))) (consT (cT (.str ("stop" : Str))) (nilT)))))) (varT 10)) (lstT (nilT)))) (retT (tupT (consT (cT .none) (consT (cT .none) (consT (tupT (consT (callB lenD (consT (varT 1) (nilT))) (consT (cT (.str ("short" : Str))) (nilT)))) (nilT)))))) (nxT)) (retT (tupT (consT (callO 2 tupC) (consT (varT 3) (consT (cT .none) (nilT))))))))))
def S__law_reading : List D → Out (List D) D := runF [] 11 T__law_reading
theorem z__law_reading {K : PySem.W.Frag} {mg : Str → Option Value} {base : Heap} (g : Gk K mg) (z__law_chunk : FnZ PgW.P PgW.w K mg base "_law_chunk" 2 [none, none, none, none] none S__law_chunk) (z__law_use : FnZ PgW.P PgW.w K mg base "_law_use" 1 [none, none] none S__law_use) (hF : ∃ fd, Fun K "_law_reading" "_law_reading" (top 77) (He.ga K "_law_reading") fd) (hm : mg "_law_reading" = some (.ref (He.ga K "_law_reading"))) : FnZ PgW.P PgW.w K mg base "_law_reading" 3 [none, none] none S__law_reading := by
  obtain ⟨fd, F⟩ := hF
  refine FnZ.of F hm (ps := ["form_here", "signs_here"]) (fun _ _ _ _ _ _ us hl => match us, hl with | [_, _], _ => rfl) ?_
  exact fnZ0 (k := 2) (rk := none) (N := N__law_reading) (ps := ["form_here", "signs_here"]) (O' := [none, none, some .lst, none, none, none, none, none, none, none, none]) (T := T__law_reading) 2 F sc__law_reading rfl (fun cdv A outer s H E b => by
    have nd := sc__law_reading.nd
    exact bx_cons (O1 := [none, none, some .lst, some .lst, none, none, none, none, none, none, none]) (sx_par2 2 3 (k := (some .lst)) (l := (some .lst)) b.calm nd (af_new (fx_lst (ax_nil)) (af_new (fx_lst (ax_nil)) (af_nil))) (exOf_no (exOf_no (exOf_nil))) (by rfl))
      (bx_cons (O1 := [none, none, some .lst, some .lst, none, none, none, none, none, none, none]) (sx_for b.own b.calm (ix_rng1 g.f_range (ax_cons (ex_callB call_lenZ (sem_rDN lenD_flat) g.f_len rfl (ax_cons (ex_ix (ex_var 0) (ex_int)) (ax_nil))) (ax_nil))) (gx_name 4 nd) (bx_cons (O1 := [none, none, some .lst, some .lst, none, none, none, none, none, none, none]) (sx_if (O' := [none, none, some .lst, some .lst, none, none, none, none, none, none, none]) (tx_cmp (op_geZ b.hu) (sem_rD ordD_flat) (ex_var 4) (ex_callB call_lenZ (sem_rDN lenD_flat) g.f_len rfl (ax_cons (ex_var 1) (ax_nil))) (nomark _)) (bx_one (sx_ret (ex_tup (ax_cons (ex_non) (ax_cons (ex_non) (ax_cons (ex_tup (ax_cons (ex_callB call_lenZ (sem_rDN lenD_flat) g.f_len rfl (ax_cons (ex_var 1) (ax_nil))) (ax_cons (ex_str) (ax_nil)))) (ax_nil))))) (exOf_no (exOf_no (exOf_nil))))) (bx_nil) (exOf_no (exOf_no (exOf_nil))))
      (bx_one (sx_if (O' := [none, none, some .lst, some .lst, none, none, none, none, none, none, none]) (tx_cmp (op_isZ) (sem_rD isD_flat) (ex_ix (ex_ix (ex_var 0) (ex_int)) (ex_var 4)) (ex_non) (nomark _)) (bx_one (sx_append 3 (ex_var 4) (exOf_no (exOf_no (exOf_nil))))) (bx_one (sx_if (O' := [none, none, some .lst, some .lst, none, none, none, none, none, none, none]) (tx_cmp (op_neZ b.hu) (sem_rD neD_flat) (ex_ix (ex_ix (ex_var 0) (ex_int)) (ex_var 4)) (ex_ix (ex_var 1) (ex_var 4)) (nomark _)) (bx_one (sx_ret (ex_tup (ax_cons (ex_non) (ax_cons (ex_non) (ax_cons (ex_tup (ax_cons (ex_var 4) (ax_cons (ex_str) (ax_nil)))) (ax_nil))))) (exOf_no (exOf_no (exOf_nil))))) (bx_nil) (exOf_no (exOf_no (exOf_nil))))) (exOf_no (exOf_no (exOf_nil)))))) (exOf_no (exOf_no (exOf_nil))))
      (bx_cons (O1 := [none, none, some .lst, some .lst, none, none, none, none, none, none, none]) (sx_set 5 nd (ex_callB call_lenZ (sem_rDN lenD_flat) g.f_len rfl (ax_cons (ex_ix (ex_var 0) (ex_int)) (ax_nil))) (exOf_no (exOf_no (exOf_nil))))
      (bx_cons (O1 := [none, none, some .lst, some .lst, none, none, none, none, none, none, none]) (sx_while fuel b.own (tx_cmp (op_ltZ b.hu) (sem_rD ordD_flat) (ex_var 5) (ex_callB call_lenZ (sem_rDN lenD_flat) g.f_len rfl (ax_cons (ex_var 1) (ax_nil))) (nomark _)) (bx_cons (O1 := [none, none, some .lst, some .lst, none, none, none, none, none, none, none]) (sx_set 6 nd (ex_fn z__law_use (b.room.mono (by decide)) b.tk (aj_cons (ex_var 0) (aj_cons (ex_ix (ex_var 1) (ex_var 5)) (aj_nil)))) (exOf_no (exOf_no (exOf_nil))))
      (bx_cons (O1 := [none, none, some .lst, some .lst, none, none, none, none, none, none, none]) (sx_if (O' := [none, none, some .lst, some .lst, none, none, none, none, none, none, none]) (tx_cmp (op_eqZ b.hu) (sem_rD eqD_flat) (ex_var 6) (ex_str) (nomark _)) (bx_one (sx_ret (ex_tup (ax_cons (ex_non) (ax_cons (ex_non) (ax_cons (ex_tup (ax_cons (ex_var 5) (ax_cons (ex_str) (ax_nil)))) (ax_nil))))) (exOf_no (exOf_no (exOf_nil))))) (bx_nil) (exOf_no (exOf_no (exOf_nil))))
      (bx_cons (O1 := [none, none, some .lst, some .lst, none, none, none, none, none, none, none]) (sx_if (O' := [none, none, some .lst, some .lst, none, none, none, none, none, none, none]) (tx_cmp (op_eqZ b.hu) (sem_rD eqD_flat) (ex_var 6) (ex_str) (nomark _)) (bx_one (sx_freeze 3 (O1 := [none, none, some .lst, none, none, none, none, none, none, none, none]) (sx_ret (ex_tup (ax_cons (ex_callTyO 2 call_tuple_of own_tupC g.f_tuple rfl (ax_own1 2)) (ax_cons (ex_op op_addZ (sem_add) (ex_var 3) (ex_of_fx (fx_listRg b.calm (ex_op op_addZ (sem_add) (ex_var 5) (ex_int)) (ex_callB call_lenZ (sem_rDN lenD_flat) g.f_len rfl (ax_cons (ex_var 1) (ax_nil))) g.f_list g.f_range))) (ax_cons (ex_non) (ax_nil))))) (exOf_no (exOf_no (exOf_nil)))))) (bx_nil) (exOf_no (exOf_no (exOf_nil))))
      (bx_cons (O1 := [none, none, some .lst, some .lst, none, none, none, none, none, none, none]) (sx_if (O' := [none, none, some .lst, some .lst, none, none, none, none, none, none, none]) (tx_cmp (op_eqZ b.hu) (sem_rD eqD_flat) (ex_var 6) (ex_str) (nomark _)) (bx_cons (O1 := [none, none, some .lst, some .lst, none, none, none, none, none, none, none]) (sx_set 7 nd (ex_cmp (op_eqZ b.hu) (sem_rD eqD_flat) (ex_op op_addZ (sem_add) (ex_var 5) (ex_int)) (ex_callB call_lenZ (sem_rDN lenD_flat) g.f_len rfl (ax_cons (ex_var 1) (ax_nil))) (nomark _)) (exOf_no (exOf_no (exOf_nil))))
      (bx_one (sx_freeze 3 (O1 := [none, none, some .lst, none, none, none, none, none, none, none, none]) (sx_ret (ex_if (tx_val (ex_var 7)) (ex_tup (ax_cons (ex_callTyO 2 call_tuple_of own_tupC g.f_tuple rfl (ax_own1 2)) (ax_cons (ex_var 3) (ax_cons (ex_non) (ax_nil))))) (ex_tup (ax_cons (ex_non) (ax_cons (ex_non) (ax_cons (ex_tup (ax_cons (ex_op op_addZ (sem_add) (ex_var 5) (ex_int)) (ax_cons (ex_str) (ax_nil)))) (ax_nil)))))) (exOf_no (exOf_no (exOf_nil))))))) (bx_nil) (exOf_no (exOf_no (exOf_nil))))
      (bx_cons (O1 := [none, none, some .lst, some .lst, none, none, none, none, none, none, none]) (sx_tgt (ex_fn z__law_chunk (b.room.mono (by decide)) b.tk (aj_cons (ex_var 0) (aj_cons (ex_var 1) (aj_cons (ex_op op_addZ (sem_add) (ex_var 5) (ex_int)) (aj_cons (ex_var 6) (aj_nil)))))) (gx_tup b.calm (gxs_cons (gx_name 8 nd) (gxs_cons (gx_name 9 nd) (gxs_nil)))) (exOf_no (exOf_no (exOf_nil))))
      (bx_cons (O1 := [none, none, some .lst, some .lst, none, none, none, none, none, none, none]) (sx_if (O' := [none, none, some .lst, some .lst, none, none, none, none, none, none, none]) (tx_cmp (op_isZ) (sem_rD isD_flat) (ex_var 8) (ex_non) (nomark _)) (bx_one (sx_ret (ex_tup (ax_cons (ex_non) (ax_cons (ex_non) (ax_cons (ex_var 9) (ax_nil))))) (exOf_no (exOf_no (exOf_nil))))) (bx_nil) (exOf_no (exOf_no (exOf_nil))))
      (bx_cons (O1 := [none, none, some .lst, some .lst, none, none, none, none, none, none, none]) (sx_if (O' := [none, none, some .lst, some .lst, none, none, none, none, none, none, none]) (tx_cmp (op_eqZ b.hu) (sem_rD eqD_flat) (ex_var 6) (ex_str) (nomark _)) (bx_one (sx_freeze 3 (O1 := [none, none, some .lst, none, none, none, none, none, none, none, none]) (sx_own 3 nd (fx_cat (ex_var 3) (ex_of_fx (fx_listRg b.calm (ex_op op_subZ (sem_rD intD_flat) (ex_var 9) (ex_callB call_lenZ (sem_rDN lenD_flat) g.f_len rfl (ax_cons (ex_var 8) (ax_nil)))) (ex_var 9) g.f_list g.f_range))) (exOf_no (exOf_no (exOf_nil)))))) (bx_one (sx_append 2 (ex_tup (ax_cons (ex_ix (ex_var 1) (ex_var 5)) (ax_cons (ex_var 8) (ax_nil)))) (exOf_no (exOf_no (exOf_nil))))) (exOf_no (exOf_no (exOf_nil))))
      (bx_one (sx_set 5 nd (ex_var 9) (exOf_no (exOf_no (exOf_nil)))))))))))) (exOf_no (exOf_no (exOf_nil))))
      (bx_cons (O1 := [none, none, some .lst, some .lst, none, none, none, none, none, none, none]) (sx_if (O' := [none, none, some .lst, some .lst, none, none, none, none, none, none, none]) (tx_cmp (op_neZ b.hu) (sem_rD neD_flat) (ex_of_fx (fx_lc (own := [("row", 10)]) b.calm nd (ix_seqZ (ex_ix (ex_var 0) (ex_int))) (blkOk_of (by kernel_rfl)) (none_cons rfl (fun _ h => nomatch h)) (fun _ _ _ _ _ => gx_name 10 nd) (fun _ _ _ _ _ => txs_one (tx_cmp (op_inZ (by exact b.hu)) (sem_rD inD_flat) (ex_ix (ex_var 10) (ex_int)) (ex_tup (ax_cons (ex_str) (ax_cons (ex_str) (ax_nil)))) (by with_unfolding_all rfl))) (fun _ _ _ _ _ => ex_var 10))) (ex_of_fx (fx_lst (ax_nil))) (nomark _)) (bx_one (sx_ret (ex_tup (ax_cons (ex_non) (ax_cons (ex_non) (ax_cons (ex_tup (ax_cons (ex_callB call_lenZ (sem_rDN lenD_flat) g.f_len rfl (ax_cons (ex_var 1) (ax_nil))) (ax_cons (ex_str) (ax_nil)))) (ax_nil))))) (exOf_no (exOf_no (exOf_nil))))) (bx_nil) (exOf_no (exOf_no (exOf_nil))))
      (bx_one (sx_freeze 3 (O1 := [none, none, some .lst, none, none, none, none, none, none, none, none]) (sx_ret (ex_tup (ax_cons (ex_callTyO 2 call_tuple_of own_tupC g.f_tuple rfl (ax_own1 2)) (ax_cons (ex_var 3) (ax_cons (ex_non) (ax_nil))))) (exOf_no (exOf_no (exOf_nil))))))))))) (.inl rfl)
/-! ### _law_right -/
def N__law_right : List Str := ["bag", "left", "right", "found", "least", "turn", "content_here", "path", "is_lost_here"]
theorem sc__law_right : FnScope N__law_right ["bag", "left", "right"] (defScope (top 81)) := ⟨rfl, rfl, rfl, by decide +kernel, rfl, by decide +kernel, by decide +kernel⟩
def T__law_right : Rho → Out Rho Flw := sqT (asgT 3 (callT [none, none] S_relayed (consT (varT 1) (consT (varT 2) (nilT))))) (sqT (asgT 4 (ifT (isB (binT isD (varT 3) (cT .none))) (cT .none) (callT [none, none] S_write (consT (varT 1) (consT (varT 3) (nilT)))))) (sqT (ifT (andT (isB (binT isNotD (varT 3) (cT .none))) (isB (binT eqD (binT idxD (callT [none, none] S__law_reading (consT (varT 2) (consT (varT 4) (nilT)))) (cT (.int 0))) (varT 3)))) (retT (cT (.bool false))) (nxT)) (sqT (forS (rngT rng1D (consT (cT (.int 8)) (nilT))) (setG 5) (sqT (asgT 6 (callT [some 0, none] S__law_content (ownT 0 (consT (varT 1) (nilT))))) (sqT (asgT 7 (callT [none, none] S_write (consT (varT 1) (consT (varT 6) (nilT))))) (sqT (ifT (isB (binT neD (binT idxD (callT [none, none] S__law_reading (consT (varT 1) (consT (varT 7) (nilT)))) (cT (.int 0))) (varT 6))) (retT (cT (.bool false))) (nxT)) (sqT (asgT 8 (binT neD (binT idxD (callT [none, none] S__law_reading (consT (varT 2) (consT (varT 7) (nilT)))) (cT (.int 0))) (varT 6))) (ifT (andT (isB (varT 8)) (orT (isB (binT isD (varT 4) (cT .none))) (isB (binT gtD (tupT (consT (callB lenD (consT (varT 4) (nilT))) (consT (varT 4) (nilT)))) (tupT (consT (callB lenD (consT (varT 7) (nilT))) (consT (varT 7) (nilT)))))))) (retT (cT (.bool false))) (nxT))))))) (retT (cT (.bool true))))))
def S__law_right : List D → Out (List D) D := runF [0] 9 T__law_right
theorem z__law_right {K : PySem.W.Frag} {mg : Str → Option Value} {base : Heap} (g : Gk K mg) (z__law_content : FnZ PgW.P PgW.w K mg base "_law_content" 2 [some .lst, none] none S__law_content) (z__law_reading : FnZ PgW.P PgW.w K mg base "_law_reading" 3 [none, none] none S__law_reading) (z_relayed : FnZ PgW.P PgW.w K mg base "relayed" 7 [none, none] none S_relayed) (z_write : FnZ PgW.P PgW.w K mg base "write" 7 [none, none] none S_write) (hF : ∃ fd, Fun K "_law_right" "_law_right" (top 81) (He.ga K "_law_right") fd) (hm : mg "_law_right" = some (.ref (He.ga K "_law_right"))) : FnZ PgW.P PgW.w K mg base "_law_right" 8 [some .lst, none, none] none S__law_right := by
  obtain ⟨fd, F⟩ := hF
  refine FnZ.of F hm (ps := ["bag", "left", "right"]) (fun _ _ _ _ _ _ us hl => match us, hl with | [_, _, _], _ => rfl) ?_
  exact fnZ1 (k := 7) (rk := none) (N := N__law_right) (ps := ["bag", "left", "right"]) (O' := [some .lst, none, none, none, none, none, none, none, none]) (T := T__law_right) .lst 2 F sc__law_right rfl (fun cdv A outer s H E a b => by
    have nd := sc__law_right.nd
    exact bx_cons (O1 := [some .lst, none, none, none, none, none, none, none, none]) (sx_set 3 nd (ex_fn z_relayed (b.room.mono (by decide)) b.tk (aj_cons (ex_var 1) (aj_cons (ex_var 2) (aj_nil)))) (exOf_yes (exOf_no (exOf_no (exOf_nil)))))
      (bx_cons (O1 := [some .lst, none, none, none, none, none, none, none, none]) (sx_set 4 nd (ex_if (tx_cmp (op_isZ) (sem_rD isD_flat) (ex_var 3) (ex_non) (nomark _)) (ex_non) (ex_fn z_write (b.room.mono (by decide)) b.tk (aj_cons (ex_var 1) (aj_cons (ex_var 3) (aj_nil))))) (exOf_yes (exOf_no (exOf_no (exOf_nil)))))
      (bx_cons (O1 := [some .lst, none, none, none, none, none, none, none, none]) (sx_if (O' := [some .lst, none, none, none, none, none, none, none, none]) (tx_pw (wx_and (tx_cmp (op_isNotZ) (sem_rD isNotD_flat) (ex_var 3) (ex_non) (nomark _)) (wx_and1 (tx_cmp (op_eqZ b.hu) (sem_rD eqD_flat) (ex_ix (ex_fn z__law_reading (b.room.mono (by decide)) b.tk (aj_cons (ex_var 2) (aj_cons (ex_var 4) (aj_nil)))) (ex_int)) (ex_var 3) (nomark _))))) (bx_one (sx_ret (ex_bl) (exOf_yes (exOf_no (exOf_no (exOf_nil)))))) (bx_nil) (exOf_yes (exOf_no (exOf_no (exOf_nil)))))
      (bx_cons (O1 := [some .lst, none, none, none, none, none, none, none, none]) (sx_for b.own b.calm (ix_rng1 g.f_range (ax_cons (ex_int) (ax_nil))) (gx_name 5 nd) (bx_cons (O1 := [some .lst, none, none, none, none, none, none, none, none]) (sx_set 6 nd (ex_fn z__law_content (b.room.mono (by decide)) b.tk (aj_own 0 (aj_cons (ex_var 1) (aj_nil)))) (exOf_yes (exOf_no (exOf_no (exOf_nil)))))
      (bx_cons (O1 := [some .lst, none, none, none, none, none, none, none, none]) (sx_set 7 nd (ex_fn z_write (b.room.mono (by decide)) b.tk (aj_cons (ex_var 1) (aj_cons (ex_var 6) (aj_nil)))) (exOf_yes (exOf_no (exOf_no (exOf_nil)))))
      (bx_cons (O1 := [some .lst, none, none, none, none, none, none, none, none]) (sx_if (O' := [some .lst, none, none, none, none, none, none, none, none]) (tx_cmp (op_neZ b.hu) (sem_rD neD_flat) (ex_ix (ex_fn z__law_reading (b.room.mono (by decide)) b.tk (aj_cons (ex_var 1) (aj_cons (ex_var 7) (aj_nil)))) (ex_int)) (ex_var 6) (nomark _)) (bx_one (sx_ret (ex_bl) (exOf_yes (exOf_no (exOf_no (exOf_nil)))))) (bx_nil) (exOf_yes (exOf_no (exOf_no (exOf_nil)))))
      (bx_cons (O1 := [some .lst, none, none, none, none, none, none, none, none]) (sx_set 8 nd (ex_cmp (op_neZ b.hu) (sem_rD neD_flat) (ex_ix (ex_fn z__law_reading (b.room.mono (by decide)) b.tk (aj_cons (ex_var 2) (aj_cons (ex_var 7) (aj_nil)))) (ex_int)) (ex_var 6) (nomark _)) (exOf_yes (exOf_no (exOf_no (exOf_nil)))))
      (bx_one (sx_if (O' := [some .lst, none, none, none, none, none, none, none, none]) (tx_pw (wx_and (tx_val (ex_var 8)) (wx_and1 (tx_pw (wx_or (tx_cmp (op_isZ) (sem_rD isD_flat) (ex_var 4) (ex_non) (nomark _)) (wx_or1 (tx_cmp (op_gtZ b.hu) (sem_rD ordD_flat) (ex_tup (ax_cons (ex_callB call_lenZ (sem_rDN lenD_flat) g.f_len rfl (ax_cons (ex_var 4) (ax_nil))) (ax_cons (ex_var 4) (ax_nil)))) (ex_tup (ax_cons (ex_callB call_lenZ (sem_rDN lenD_flat) g.f_len rfl (ax_cons (ex_var 7) (ax_nil))) (ax_cons (ex_var 7) (ax_nil)))) (nomark _)))))))) (bx_one (sx_ret (ex_bl) (exOf_yes (exOf_no (exOf_no (exOf_nil)))))) (bx_nil) (exOf_yes (exOf_no (exOf_no (exOf_nil)))))))))) (exOf_yes (exOf_no (exOf_no (exOf_nil)))))
      (bx_one (sx_ret (ex_bl) (exOf_yes (exOf_no (exOf_no (exOf_nil)))))))))) (.inl rfl) (exOf_yes (exOf_no (exOf_no (exOf_nil))))
/-! ### law -/
def N_law : List Str := ["script", "at", "bag", "left", "right", "rows"]
theorem sc_law : FnScope N_law ["script"] (defScope (top 82)) := ⟨rfl, rfl, rfl, by decide +kernel, rfl, by decide +kernel, by decide +kernel⟩
def T_law : Rho → Out Rho Flw := sqT (forS (rngT rng1D (consT (callB maxD (consT (cT (.int 1)) (consT (callB minD (consT (callB lenD (consT (varT 0) (nilT))) (consT (cT (.int 8)) (nilT)))) (nilT)))) (nilT))) (setG 1) (sqT (asgT 2 (callT [none, none] S__law_bag (consT (varT 0) (consT (varT 1) (nilT))))) (sqT (tgtT (tupG 2 (consG (setG 3) (consG (setG 4) (nilG)))) (callT [some 2, none, none, none] S__law_some_forms (ownT 2 (consT (binT addD (cT (.int 2)) (callT [some 2, none] S__law_grab (ownT 2 (consT (cT (.int 3)) (nilT))))) (consT (cT (.int 2)) (consT (lstT (consT (cT (.int 4)) (consT (cT (.int 5)) (consT (cT (.int 4)) (nilT))))) (nilT))))))) (sqT (ifT (isB (binT eqD (callT [some 2, none] S__law_grab (ownT 2 (consT (cT (.int 3)) (nilT)))) (cT (.int 0)))) (asgT 4 (binT addD (binT addD (slcT (varT 3) (noP) (someP (cT (.int 3)))) (tupT (consT (callB maxD (consT (cT (.int 0)) (consT (binT subD (binT idxD (varT 3) (cT (.int 3))) (cT (.int 1))) (nilT)))) (nilT)))) (slcT (varT 3) (someP (cT (.int 4))) (noP)))) (nxT)) (sqT (ifT (orT (notT (isB (callT [some 2, none, none] S__law_right (ownT 2 (consT (varT 3) (consT (varT 4) (nilT))))))) (notT (isB (callT [some 2, none, none] S__law_right (ownT 2 (consT (varT 4) (consT (varT 3) (nilT)))))))) (retT (cT (.bool false))) (nxT)) (nxT)))))) (sqT (asgT 5 (tupT (consT (tupT (consT (cT (.int 0)) (consT (cT (.str ("stop" : Str))) (nilT)))) (consT (tupT (consT (cT (.int 1)) (consT (cT (.str ("keep" : Str))) (nilT)))) (consT (tupT (consT (cT (.int 2)) (consT (cT (.str ("keep" : Str))) (nilT)))) (nilT)))))) (retT (binT eqD (callT [none, none] S_relayed (consT (tupT (consT (cT (.int 4)) (consT (tupT (nilT)) (consT (cT (.str ("one" : Str))) (consT (cT (.int 3)) (consT (varT 5) (consT (cT (.str ("refuse" : Str))) (nilT)))))))) (consT (tupT (consT (cT (.int 4)) (consT (tupT (nilT)) (consT (cT (.str ("one" : Str))) (consT (cT (.int 2)) (consT (varT 5) (consT (cT (.str ("refuse" : Str))) (nilT)))))))) (nilT)))) (tupT (consT (tupT (consT (cT (.int 1)) (consT (tupT (consT (cT (.int 0)) (consT (cT (.int 0)) (consT (cT (.int 0)) (nilT))))) (nilT)))) (nilT))))))
def S_law : List D → Out (List D) D := runF [] 6 T_law
theorem z_law {K : PySem.W.Frag} {mg : Str → Option Value} {base : Heap} (g : Gk K mg) (z__law_bag : FnZ PgW.P PgW.w K mg base "_law_bag" 1 [none, none] (some .lst) S__law_bag) (z__law_grab : FnZ PgW.P PgW.w K mg base "_law_grab" 1 [some .lst, none] none S__law_grab) (z__law_right : FnZ PgW.P PgW.w K mg base "_law_right" 8 [some .lst, none, none] none S__law_right) (z__law_some_forms : FnZ PgW.P PgW.w K mg base "_law_some_forms" 4 [some .lst, none, none, none] none S__law_some_forms) (z_relayed : FnZ PgW.P PgW.w K mg base "relayed" 7 [none, none] none S_relayed) {fd : FuncData} (F : Fun K "law" "law" (top 82) (He.ga K "law") fd) : FnOk PgW.P PgW.w K mg base (L2.CX PgW.P PgW.w) 9 (He.ga K "law") fd ["script"] (spZ K mg [none] none S_law) := by
  exact fnZ0 (k := 8) (rk := none) (N := N_law) (ps := ["script"]) (O' := [none, none, none, none, none, none]) (T := T_law) 1 F sc_law rfl (fun cdv A outer s H E b => by
    have nd := sc_law.nd
    exact bx_cons (O1 := [none, none, none, none, none, none]) (sx_for b.own b.calm (ix_rng1 g.f_range (ax_cons (ex_callB (call_maxZ b.calm) (sem_rDN maxD_flat) g.f_max rfl (ax_cons (ex_int) (ax_cons (ex_callB (call_minZ b.calm) (sem_rDN minD_flat) g.f_min rfl (ax_cons (ex_callB call_lenZ (sem_rDN lenD_flat) g.f_len rfl (ax_cons (ex_var 0) (ax_nil))) (ax_cons (ex_int) (ax_nil)))) (ax_nil)))) (ax_nil))) (gx_name 1 nd) (bx_cons (O1 := [none, none, some .lst, none, none, none]) (sx_own 2 nd (fx_fn z__law_bag (b.room.mono (by decide)) b.tk (aj_cons (ex_var 0) (aj_cons (ex_var 1) (aj_nil)))) (exOf_no (exOf_nil)))
      (bx_cons (O1 := [none, none, some .lst, none, none, none]) (sx_tgt (ex_fn z__law_some_forms (b.room.mono (by decide)) b.tk (aj_own 2 (aj_cons (ex_op op_addZ (sem_add) (ex_int) (ex_fn z__law_grab (b.room.mono (by decide)) b.tk (aj_own 2 (aj_cons (ex_int) (aj_nil))))) (aj_cons (ex_int) (aj_cons (ex_of_fx (fx_lst (ax_cons (ex_int) (ax_cons (ex_int) (ax_cons (ex_int) (ax_nil)))))) (aj_nil)))))) (gx_tup b.calm (gxs_cons (gx_name 3 nd) (gxs_cons (gx_name 4 nd) (gxs_nil)))) (exOf_no (exOf_nil)))
      (bx_cons (O1 := [none, none, some .lst, none, none, none]) (sx_if (O' := [none, none, some .lst, none, none, none]) (tx_cmp (op_eqZ b.hu) (sem_rD eqD_flat) (ex_fn z__law_grab (b.room.mono (by decide)) b.tk (aj_own 2 (aj_cons (ex_int) (aj_nil)))) (ex_int) (nomark _)) (bx_one (sx_set 4 nd (ex_op op_addZ (sem_add) (ex_op op_addZ (sem_add) (ex_slice (ex_var 3) (px_none) (px_some (ex_int))) (ex_tup (ax_cons (ex_callB (call_maxZ b.calm) (sem_rDN maxD_flat) g.f_max rfl (ax_cons (ex_int) (ax_cons (ex_op op_subZ (sem_rD intD_flat) (ex_ix (ex_var 3) (ex_int)) (ex_int)) (ax_nil)))) (ax_nil)))) (ex_slice (ex_var 3) (px_some (ex_int)) (px_none))) (exOf_no (exOf_nil)))) (bx_nil) (exOf_no (exOf_nil)))
      (bx_cons (O1 := [none, none, some .lst, none, none, none]) (sx_if (O' := [none, none, some .lst, none, none, none]) (tx_pw (wx_or (tx_not (tx_val (ex_fn z__law_right (b.room.mono (by decide)) b.tk (aj_own 2 (aj_cons (ex_var 3) (aj_cons (ex_var 4) (aj_nil))))))) (wx_or1 (tx_not (tx_val (ex_fn z__law_right (b.room.mono (by decide)) b.tk (aj_own 2 (aj_cons (ex_var 4) (aj_cons (ex_var 3) (aj_nil)))))))))) (bx_one (sx_ret (ex_bl) (exOf_no (exOf_nil)))) (bx_nil) (exOf_no (exOf_nil)))
      (bx_freeze 2 (O1 := [none, none, none, none, none, none]) (bx_nil)))))) (exOf_no (exOf_nil)))
      (bx_cons (O1 := [none, none, none, none, none, none]) (sx_set 5 nd (ex_tup (ax_cons (ex_tup (ax_cons (ex_int) (ax_cons (ex_str) (ax_nil)))) (ax_cons (ex_tup (ax_cons (ex_int) (ax_cons (ex_str) (ax_nil)))) (ax_cons (ex_tup (ax_cons (ex_int) (ax_cons (ex_str) (ax_nil)))) (ax_nil))))) (exOf_no (exOf_nil)))
      (bx_one (sx_ret (ex_cmp (op_eqZ b.hu) (sem_rD eqD_flat) (ex_fn z_relayed (b.room.mono (by decide)) b.tk (aj_cons (ex_tup (ax_cons (ex_int) (ax_cons (ex_tup (ax_nil)) (ax_cons (ex_str) (ax_cons (ex_int) (ax_cons (ex_var 5) (ax_cons (ex_str) (ax_nil)))))))) (aj_cons (ex_tup (ax_cons (ex_int) (ax_cons (ex_tup (ax_nil)) (ax_cons (ex_str) (ax_cons (ex_int) (ax_cons (ex_var 5) (ax_cons (ex_str) (ax_nil)))))))) (aj_nil)))) (ex_tup (ax_cons (ex_tup (ax_cons (ex_int) (ax_cons (ex_tup (ax_cons (ex_int) (ax_cons (ex_int) (ax_cons (ex_int) (ax_nil))))) (ax_nil)))) (ax_nil))) (nomark _)) (exOf_no (exOf_nil)))))) (.inl rfl)
/-! ### the head -/
def fnL : List He5.DefA := [dfZ (fun K => He.ga K "_law_bag") "_law_bag" "_law_bag" (top 70),
  dfZ (fun K => He.ga K "_law_grab") "_law_grab" "_law_grab" (top 71),
  dfZ (fun K => He.ga K "_law_drawn_tags") "_law_drawn_tags" "_law_drawn_tags" (top 72),
  dfZ (fun K => He.ga K "_law_drawn_form") "_law_drawn_form" "_law_drawn_form" (top 73),
  dfZ (fun K => He.ga K "_law_near_form") "_law_near_form" "_law_near_form" (top 78),
  dfZ (fun K => He.ga K "_law_some_forms") "_law_some_forms" "_law_some_forms" (top 79),
  dfZ (fun K => He.ga K "is_integer") "is_integer" "is_integer" (top 23),
  dfZ (fun K => He.ga K "is_sign") "is_sign" "is_sign" (top 25),
  dfZ (fun K => He.ga K "is_word_of") "is_word_of" "is_word_of" (top 27),
  dfZ (fun K => He.ga K "is_tags") "is_tags" "is_tags" (top 28),
  dfZ (fun K => He.ga K "is_at_least") "is_at_least" "is_at_least" (top 24),
  dfZ (fun K => He.ga K "is_head") "is_head" "is_head" (top 29),
  dfZ (fun K => He.ga K "is_format") "is_format" "is_format" (top 30),
  dfZ (fun K => He.ga K "check_format") "check_format" "check_format" (top 31),
  dfZ (fun K => He.ga K "check_base") "check_base" "check_base" (top 32),
  dfZ (fun K => He.ga K "check_two") "check_two" "check_two" (top 67),
  dfZ (fun K => He.ga K "first_stand") "first_stand" "first_stand" (top 33),
  dfZ (fun K => He.ga K "is_ending") "is_ending" "is_ending" (top 42),
  dfZ (fun K => He.ga K "is_worse") "is_worse" "is_worse" (top 61),
  dfZ (fun K => He.ga K "ending_tag") "ending_tag" "ending_tag" (top 62),
  dfZ (fun K => He.ga K "written_signs") "written_signs" "written_signs" (top 63),
  dfZ (fun K => He.ga K "signs_at") "signs_at" "signs_at" (top 64),
  dfZ (fun K => He.ga K "behind_head") "behind_head" "behind_head" (top 39),
  dfZ (fun K => He.ga K "use_at") "use_at" "use_at" (top 34),
  dfZ (fun K => He.ga K "behind_tag") "behind_tag" "behind_tag" (top 40),
  dfZ (fun K => He.ga K "body_stand") "body_stand" "body_stand" (top 35),
  dfZ (fun K => He.ga K "behind_length") "behind_length" "behind_length" (top 36),
  dfZ (fun K => He.ga K "behind_second") "behind_second" "behind_second" (top 37),
  dfZ (fun K => He.ga K "behind_body") "behind_body" "behind_body" (top 38),
  dfZ (fun K => He.ga K "step") "step" "step" (top 41),
  dfZ (fun K => He.ga K "is_news") "is_news" "is_news" (top 60),
  dfZ (fun K => He.ga K "lead_behind") "lead_behind" "lead_behind" (top 59),
  dfZ (fun K => He.ga K "told_at_faces") "told_at" "told_at" (top 57),
  dfZ (fun K => He.ga K "worse_in") "worse_in" "worse_in" (top 65),
  dfZ (fun K => He.ga K "told_at_readers") "told_at" "told_at" (top 44),
  dfZ (fun K => He.ga K "told_in") "told_in" "told_in" (top 46),
  dfZ (fun K => He.ga K "relayed_in") "relayed_in" "relayed_in" (top 66),
  dfZ (fun K => He.ga K "relayed") "relayed" "relayed" (top 68),
  dfZ (fun K => He.ga K "greatest_length") "greatest_length" "greatest_length" (top 47),
  dfZ (fun K => He.ga K "is_signs") "is_signs" "is_signs" (top 26),
  dfZ (fun K => He.ga K "is_chunk") "is_chunk" "is_chunk" (top 48),
  dfZ (fun K => He.ga K "is_content_of") "is_content_of" "is_content_of" (top 49),
  dfZ (fun K => He.ga K "check_content") "check_content" "check_content" (top 50),
  dfZ (fun K => He.ga K "length_signs") "length_signs" "length_signs" (top 51),
  dfZ (fun K => He.ga K "chunk_signs") "chunk_signs" "chunk_signs" (top 52),
  dfZ (fun K => He.ga K "written") "written" "written" (top 53),
  dfZ (fun K => He.ga K "write") "write" "write" (top 54),
  dfZ (fun K => He.ga K "_law_content") "_law_content" "_law_content" (top 80),
  dfZ (fun K => He.ga K "_law_use") "_law_use" "_law_use" (top 74),
  dfZ (fun K => He.ga K "_law_long") "_law_long" "_law_long" (top 75),
  dfZ (fun K => He.ga K "_law_chunk") "_law_chunk" "_law_chunk" (top 76),
  dfZ (fun K => He.ga K "_law_reading") "_law_reading" "_law_reading" (top 77),
  dfZ (fun K => He.ga K "_law_right") "_law_right" "_law_right" (top 81),
  dfZ (fun K => He.ga K "law") "law" "law" (top 82)]
def exL (K : PySem.W.Frag) : List Bool := [(He.Fa.free "abs").ok K,
  (He.Fa.free "all").ok K,
  (He.Fa.free "any").ok K,
  (He.Fa.free "bool").ok K,
  (He.Fa.free "int").ok K,
  (He.Fa.free "isinstance").ok K,
  (He.Fa.free "len").ok K,
  (He.Fa.free "list").ok K,
  (He.Fa.free "max").ok K,
  (He.Fa.free "min").ok K,
  (He.Fa.free "range").ok K,
  (He.Fa.free "sorted").ok K,
  (He.Fa.free "str").ok K,
  (He.Fa.free "sum").ok K,
  (He.Fa.free "tuple").ok K,
  (He.Fa.free "zip").ok K,
  (He.Fa.str "CHECK" ("check" : Str)).ok K,
  (He.Fa.str "END" ("end" : Str)).ok K,
  (He.Fa.glo "EVEN").ok K,
  etsB K "EVEN" 2,
  (He.Fa.int "GREATEST_BASE" 256).ok K,
  (He.Fa.str "HIGH" ("high" : Str)).ok K,
  (He.Fa.str "ONE" ("one" : Str)).ok K,
  (He.Fa.glo "OTHERS").ok K,
  He.tupB K "OTHERS" [.str ("skip" : Str), .str ("refuse" : Str)],
  (He.Fa.glo "OVER").ok K,
  He.tupB K "OVER" [.str ("over" : Str)],
  (He.Fa.glo "ROOM").ok K,
  He.tupB K "ROOM" [.str ("room" : Str)],
  (He.Fa.str "SKIP" ("skip" : Str)).ok K,
  (He.Fa.str "STOP" ("stop" : Str)).ok K,
  (He.Fa.glo "TAG").ok K,
  He.tupB K "TAG" [.str ("tag" : Str)],
  (He.Fa.glo "TOLD").ok K,
  He.tupB K "TOLD" [.str ("keep" : Str), .str ("check" : Str)],
  (He.Fa.glo "USES").ok K,
  He.tupB K "USES" [.str ("keep" : Str), .str ("check" : Str), .str ("skip" : Str), .str ("end" : Str), .str ("stop" : Str)],
  (He.Fa.glo "WIDTHS").ok K,
  He.tupB K "WIDTHS" [.str ("one" : Str), .str ("high" : Str), .str ("low" : Str)],
  (He.Fa.glo "_law_bag").ok K,
  (He.Fa.glo "_law_grab").ok K,
  (He.Fa.glo "_law_drawn_tags").ok K,
  (He.Fa.glo "_law_drawn_form").ok K,
  (He.Fa.glo "_law_near_form").ok K,
  (He.Fa.glo "_law_some_forms").ok K,
  (He.Fa.glo "is_integer").ok K,
  (He.Fa.glo "is_sign").ok K,
  (He.Fa.glo "is_word_of").ok K,
  (He.Fa.glo "is_tags").ok K,
  (He.Fa.glo "is_at_least").ok K,
  (He.Fa.glo "is_head").ok K,
  (He.Fa.glo "is_format").ok K,
  (He.Fa.glo "check_format").ok K,
  (He.Fa.glo "check_base").ok K,
  (He.Fa.glo "check_two").ok K,
  (He.Fa.glo "first_stand").ok K,
  (He.Fa.glo "is_ending").ok K,
  (He.Fa.glo "is_worse").ok K,
  (He.Fa.glo "ending_tag").ok K,
  (He.Fa.glo "written_signs").ok K,
  (He.Fa.glo "signs_at").ok K,
  (He.Fa.glo "behind_head").ok K,
  (He.Fa.glo "use_at").ok K,
  (He.Fa.glo "behind_tag").ok K,
  (He.Fa.glo "body_stand").ok K,
  (He.Fa.glo "behind_length").ok K,
  (He.Fa.glo "behind_second").ok K,
  (He.Fa.glo "behind_body").ok K,
  (He.Fa.glo "step").ok K,
  (He.Fa.glo "is_news").ok K,
  (He.Fa.glo "lead_behind").ok K,
  (He.Fa.glo "told_at_faces").ok K,
  (He.Fa.glo "worse_in").ok K,
  (He.Fa.glo "told_at_readers").ok K,
  (He.Fa.glo "told_in").ok K,
  (He.Fa.glo "relayed_in").ok K,
  (He.Fa.glo "relayed").ok K,
  (He.Fa.glo "greatest_length").ok K,
  (He.Fa.glo "is_signs").ok K,
  (He.Fa.glo "is_chunk").ok K,
  (He.Fa.glo "is_content_of").ok K,
  (He.Fa.glo "check_content").ok K,
  (He.Fa.glo "length_signs").ok K,
  (He.Fa.glo "chunk_signs").ok K,
  (He.Fa.glo "written").ok K,
  (He.Fa.glo "write").ok K,
  (He.Fa.glo "_law_content").ok K,
  (He.Fa.glo "_law_use").ok K,
  (He.Fa.glo "_law_long").ok K,
  (He.Fa.glo "_law_chunk").ok K,
  (He.Fa.glo "_law_reading").ok K,
  (He.Fa.glo "_law_right").ok K,
  (He.Fa.glo "law").ok K]
def exB (K : PySem.W.Frag) : Bool := (exL K).all id
theorem gk {K : PySem.W.Frag} {h0 : Heap} {mg : Str → Option Value} (X : K.In h0) (G : h0.Ns mainGlobals mg) (h : (exL K).all id = true) : Gk K mg where
  f_abs := He.free_ok X G (all_at (p := id) h 0)
  f_all := He.free_ok X G (all_at (p := id) h 1)
  f_any := He.free_ok X G (all_at (p := id) h 2)
  f_bool := He.free_ok X G (all_at (p := id) h 3)
  f_int := He.free_ok X G (all_at (p := id) h 4)
  f_isinstance := He.free_ok X G (all_at (p := id) h 5)
  f_len := He.free_ok X G (all_at (p := id) h 6)
  f_list := He.free_ok X G (all_at (p := id) h 7)
  f_max := He.free_ok X G (all_at (p := id) h 8)
  f_min := He.free_ok X G (all_at (p := id) h 9)
  f_range := He.free_ok X G (all_at (p := id) h 10)
  f_sorted := He.free_ok X G (all_at (p := id) h 11)
  f_str := He.free_ok X G (all_at (p := id) h 12)
  f_sum := He.free_ok X G (all_at (p := id) h 13)
  f_tuple := He.free_ok X G (all_at (p := id) h 14)
  f_zip := He.free_ok X G (all_at (p := id) h 15)
  k_CHECK := kon_str X G (all_at (p := id) h 16)
  k_END := kon_str X G (all_at (p := id) h 17)
  k_EVEN := kon_ets X G (all_at (p := id) h 18) (all_at (p := id) h 19)
  k_GREATEST_BASE := kon_int X G (all_at (p := id) h 20)
  k_HIGH := kon_str X G (all_at (p := id) h 21)
  k_ONE := kon_str X G (all_at (p := id) h 22)
  k_OTHERS := kon_tup (vs := [.str ("skip" : Str), .str ("refuse" : Str)]) X G (all_at (p := id) h 23) (all_at (p := id) h 24) rfl
  k_OVER := kon_tup (vs := [.str ("over" : Str)]) X G (all_at (p := id) h 25) (all_at (p := id) h 26) rfl
  k_ROOM := kon_tup (vs := [.str ("room" : Str)]) X G (all_at (p := id) h 27) (all_at (p := id) h 28) rfl
  k_SKIP := kon_str X G (all_at (p := id) h 29)
  k_STOP := kon_str X G (all_at (p := id) h 30)
  k_TAG := kon_tup (vs := [.str ("tag" : Str)]) X G (all_at (p := id) h 31) (all_at (p := id) h 32) rfl
  k_TOLD := kon_tup (vs := [.str ("keep" : Str), .str ("check" : Str)]) X G (all_at (p := id) h 33) (all_at (p := id) h 34) rfl
  k_USES := kon_tup (vs := [.str ("keep" : Str), .str ("check" : Str), .str ("skip" : Str), .str ("end" : Str), .str ("stop" : Str)]) X G (all_at (p := id) h 35) (all_at (p := id) h 36) rfl
  k_WIDTHS := kon_tup (vs := [.str ("one" : Str), .str ("high" : Str), .str ("low" : Str)]) X G (all_at (p := id) h 37) (all_at (p := id) h 38) rfl
theorem all_ok {K : PySem.W.Frag} {h0 : Heap} {mg : Str → Option Value} (X : K.In h0) (G : h0.Ns mainGlobals mg) (c : SaysZ fnL exB K) : LawZ PgW.P PgW.w K mg (He.ga K "law") 9 "script" S_law := by
  have h : (exL K).all id = true := c.more
  have g := gk X G h
  obtain ⟨fd, F⟩ := c.def_ 53
  refine ⟨fd, bindsA F (fun _ _ _ _ _ _ us hl => match us, hl with | [_], _ => rfl), fun base => ?_⟩
  have z__law_bag := z__law_bag (base := base) g  (c.def_ 0) (He.glo_ok X G (all_at (p := id) h 39))
  have z__law_grab := z__law_grab (base := base) g  (c.def_ 1) (He.glo_ok X G (all_at (p := id) h 40))
  have z__law_drawn_tags := z__law_drawn_tags (base := base) g z__law_grab (c.def_ 2) (He.glo_ok X G (all_at (p := id) h 41))
  have z__law_drawn_form := z__law_drawn_form (base := base) g z__law_drawn_tags z__law_grab (c.def_ 3) (He.glo_ok X G (all_at (p := id) h 42))
  have z__law_near_form := z__law_near_form (base := base) g z__law_drawn_tags z__law_grab (c.def_ 4) (He.glo_ok X G (all_at (p := id) h 43))
  have z__law_some_forms := z__law_some_forms (base := base) g z__law_drawn_form z__law_grab z__law_near_form (c.def_ 5) (He.glo_ok X G (all_at (p := id) h 44))
  have z_is_integer := z_is_integer (base := base) g  (c.def_ 6) (He.glo_ok X G (all_at (p := id) h 45))
  have z_is_sign := z_is_sign (base := base) g z_is_integer (c.def_ 7) (He.glo_ok X G (all_at (p := id) h 46))
  have z_is_word_of := z_is_word_of (base := base) g  (c.def_ 8) (He.glo_ok X G (all_at (p := id) h 47))
  have z_is_tags := z_is_tags (base := base) g z_is_sign z_is_word_of (c.def_ 9) (He.glo_ok X G (all_at (p := id) h 48))
  have z_is_at_least := z_is_at_least (base := base) g z_is_integer (c.def_ 10) (He.glo_ok X G (all_at (p := id) h 49))
  have z_is_head := z_is_head (base := base) g z_is_sign (c.def_ 11) (He.glo_ok X G (all_at (p := id) h 50))
  have z_is_format := z_is_format (base := base) g z_is_at_least z_is_head z_is_tags z_is_word_of (c.def_ 12) (He.glo_ok X G (all_at (p := id) h 51))
  have z_check_format := z_check_format (base := base) g z_is_format (c.def_ 13) (He.glo_ok X G (all_at (p := id) h 52))
  have z_check_base := z_check_base (base := base) g  (c.def_ 14) (He.glo_ok X G (all_at (p := id) h 53))
  have z_check_two := z_check_two (base := base) g z_check_base z_check_format (c.def_ 15) (He.glo_ok X G (all_at (p := id) h 54))
  have z_first_stand := z_first_stand (base := base) g  (c.def_ 16) (He.glo_ok X G (all_at (p := id) h 55))
  have z_is_ending := z_is_ending (base := base) g  (c.def_ 17) (He.glo_ok X G (all_at (p := id) h 56))
  have z_is_worse := z_is_worse (base := base) g z_is_ending (c.def_ 18) (He.glo_ok X G (all_at (p := id) h 57))
  have z_ending_tag := z_ending_tag (base := base) g  (c.def_ 19) (He.glo_ok X G (all_at (p := id) h 58))
  have z_written_signs := z_written_signs (base := base) g z_ending_tag (c.def_ 20) (He.glo_ok X G (all_at (p := id) h 59))
  have z_signs_at := z_signs_at (base := base) g z_written_signs (c.def_ 21) (He.glo_ok X G (all_at (p := id) h 60))
  have z_behind_head := z_behind_head (base := base) g  (c.def_ 22) (He.glo_ok X G (all_at (p := id) h 61))
  have z_use_at := z_use_at (base := base) g  (c.def_ 23) (He.glo_ok X G (all_at (p := id) h 62))
  have z_behind_tag := z_behind_tag (base := base) g z_use_at (c.def_ 24) (He.glo_ok X G (all_at (p := id) h 63))
  have z_body_stand := z_body_stand (base := base) g  (c.def_ 25) (He.glo_ok X G (all_at (p := id) h 64))
  have z_behind_length := z_behind_length (base := base) g z_body_stand (c.def_ 26) (He.glo_ok X G (all_at (p := id) h 65))
  have z_behind_second := z_behind_second (base := base) g z_body_stand (c.def_ 27) (He.glo_ok X G (all_at (p := id) h 66))
  have z_behind_body := z_behind_body (base := base) g  (c.def_ 28) (He.glo_ok X G (all_at (p := id) h 67))
  have z_step := z_step (base := base) g z_behind_body z_behind_head z_behind_length z_behind_second z_behind_tag (c.def_ 29) (He.glo_ok X G (all_at (p := id) h 68))
  have z_is_news := z_is_news (base := base) g  (c.def_ 30) (He.glo_ok X G (all_at (p := id) h 69))
  have z_lead_behind := z_lead_behind (base := base) g  (c.def_ 31) (He.glo_ok X G (all_at (p := id) h 70))
  have z_told_at_faces := z_told_at_faces (base := base) g z_use_at (c.def_ 32) (He.glo_ok X G (all_at (p := id) h 71))
  have z_worse_in := z_worse_in (base := base) g z_first_stand z_is_news z_is_worse z_lead_behind z_signs_at z_step z_told_at_faces (c.def_ 33) (He.glo_ok X G (all_at (p := id) h 72))
  have z_told_at_readers := z_told_at_readers (base := base) g z_use_at (c.def_ 34) (He.glo_ok X G (all_at (p := id) h 73))
  have z_told_in := z_told_in (base := base) g z_first_stand z_step z_told_at_readers (c.def_ 35) (He.glo_ok X G (all_at (p := id) h 74))
  have z_relayed_in := z_relayed_in (base := base) g z_told_in z_worse_in (c.def_ 36) (He.glo_ok X G (all_at (p := id) h 75))
  have z_relayed := z_relayed (base := base) g z_check_two z_relayed_in (c.def_ 37) (He.glo_ok X G (all_at (p := id) h 76))
  have z_greatest_length := z_greatest_length (base := base) g  (c.def_ 38) (He.glo_ok X G (all_at (p := id) h 77))
  have z_is_signs := z_is_signs (base := base) g z_is_sign (c.def_ 39) (He.glo_ok X G (all_at (p := id) h 78))
  have z_is_chunk := z_is_chunk (base := base) g z_greatest_length z_is_sign z_is_signs z_use_at (c.def_ 40) (He.glo_ok X G (all_at (p := id) h 79))
  have z_is_content_of := z_is_content_of (base := base) g z_is_chunk (c.def_ 41) (He.glo_ok X G (all_at (p := id) h 80))
  have z_check_content := z_check_content (base := base) g z_is_content_of (c.def_ 42) (He.glo_ok X G (all_at (p := id) h 81))
  have z_length_signs := z_length_signs (base := base) g  (c.def_ 43) (He.glo_ok X G (all_at (p := id) h 82))
  have z_chunk_signs := z_chunk_signs (base := base) g z_length_signs z_use_at (c.def_ 44) (He.glo_ok X G (all_at (p := id) h 83))
  have z_written := z_written (base := base) g z_chunk_signs (c.def_ 45) (He.glo_ok X G (all_at (p := id) h 84))
  have z_write := z_write (base := base) g z_check_content z_check_format z_written (c.def_ 46) (He.glo_ok X G (all_at (p := id) h 85))
  have z__law_content := z__law_content (base := base) g z__law_grab (c.def_ 47) (He.glo_ok X G (all_at (p := id) h 86))
  have z__law_use := z__law_use (base := base) g  (c.def_ 48) (He.glo_ok X G (all_at (p := id) h 87))
  have z__law_long := z__law_long (base := base) g  (c.def_ 49) (He.glo_ok X G (all_at (p := id) h 88))
  have z__law_chunk := z__law_chunk (base := base) g z__law_long (c.def_ 50) (He.glo_ok X G (all_at (p := id) h 89))
  have z__law_reading := z__law_reading (base := base) g z__law_chunk z__law_use (c.def_ 51) (He.glo_ok X G (all_at (p := id) h 90))
  have z__law_right := z__law_right (base := base) g z__law_content z__law_reading z_relayed z_write (c.def_ 52) (He.glo_ok X G (all_at (p := id) h 91))
  exact z_law (base := base) g z__law_bag z__law_grab z__law_right z__law_some_forms z_relayed F
theorem law_at {K : PySem.W.Frag} {h0 : Heap} {mg : Str → Option Value} (X : K.In h0) (G : h0.Ns mainGlobals mg) (c : SaysZ fnL exB K) : mg "law" = some (.ref (He.ga K "law")) := He.glo_ok X G (all_at (p := id) (l := exL K) c.more 92)
def loose0 : List Str := ["__name__", "FileError", "InvalidFormat", "InvalidContent", "OtherBase", "KEEP", "CHECK", "SKIP", "END", "STOP", "REFUSE", "USES", "TOLD", "OTHERS", "ONE", "HIGH", "LOW", "WIDTHS", "GREATEST_BASE", "TAG", "ROOM", "OVER", "is_integer", "is_at_least", "is_sign", "is_signs", "is_word_of", "is_tags", "is_head", "is_format"]
def loose1 : List Str := ["check_format", "check_base", "first_stand", "use_at", "body_stand", "behind_length", "behind_second", "behind_body", "behind_head", "behind_tag", "step", "is_ending", "told_at", "told_at_readers", "told_in", "greatest_length", "is_chunk", "is_content_of", "check_content", "length_signs", "chunk_signs", "written", "write", "EVEN", "told_at_faces", "lead_behind", "is_news", "is_worse", "ending_tag", "written_signs"]
def loose2 : List Str := ["signs_at", "worse_in", "relayed_in", "check_two", "relayed", "_law_bag", "_law_grab", "_law_drawn_tags", "_law_drawn_form", "_law_use", "_law_long", "_law_chunk", "_law_reading", "_law_near_form", "_law_some_forms", "_law_content", "_law_right"]
def loose : List Str := loose0 ++ loose1 ++ loose2
end K66

/-! file K66Bank -/
set_option Elab.async false
set_option linter.all false
set_option autoImplicit false
set_option maxRecDepth 100000
set_option maxHeartbeats 4000000
namespace K66
open PySem PySem.Spec L2 Z
/-! ### formats and stands -/
inductive Use where
  | keep | check | skip | end_ | stop
  deriving DecidableEq
def Use.s : Use → Str
  | .keep => "keep" | .check => "check" | .skip => "skip" | .end_ => "end" | .stop => "stop"
inductive Wd where
  | one | high | low
  deriving DecidableEq
def Wd.s : Wd → Str
  | .one => "one" | .high => "high" | .low => "low"
structure Fmt where
  base : Int
  head : List (Option Int)
  width : Wd
  most : Int
  tags : List (Int × Use)
  rest : Bool
def mkD : Option Int → D
  | none => .none
  | some i => .int i
def tgD (t : Int × Use) : D := .tuple [.int t.1, .str t.2.s]
def Fmt.d (f : Fmt) : D := .tuple [.int f.base, .tuple (f.head.map mkD), .str f.width.s, .int f.most, .tuple (f.tags.map tgD), .str (if f.rest then "skip" else "refuse")]
def sgD (l : List Int) : D := .tuple (l.map .int)
structure Fmt.Ok (f : Fmt) : Prop where
  b2 : 2 ≤ f.base
  b256 : f.base ≤ 256
  hd : ∀ i, some i ∈ f.head → 0 ≤ i ∧ i < f.base
  hl : f.head.length ≤ 1000
  m0 : 0 ≤ f.most
  tg : ∀ t ∈ f.tags, 0 ≤ t.1 ∧ t.1 < f.base
  so : f.tags.Pairwise fun a b => a.1 < b.1
  tl : f.tags.length ≤ 1000
inductive Std where
  | head (p : Nat)
  | tag
  | len (u : Use)
  | second (u : Use) (a : Int)
  | body (u : Use) (l t : Int)
  | sum (t : Int)
  | room
  | over
  deriving DecidableEq
def Std.d : Std → D
  | .head p => .tuple [.str "head", .int p]
  | .tag => .tuple [.str "tag"]
  | .len u => .tuple [.str "length", .str u.s]
  | .second u a => .tuple [.str "second", .str u.s, .int a]
  | .body u l t => .tuple [.str "body", .str u.s, .int l, .int t]
  | .sum t => .tuple [.str "sum", .int t]
  | .room => .tuple [.str "room"]
  | .over => .tuple [.str "over"]
def stD : Option Std → D
  | none => .none
  | some s => s.d
def useD : Option Use → D
  | none => .none
  | some u => .str u.s
def use (f : Fmt) (s : Int) : Option Use := match f.tags.find? (fun t => decide (t.1 = s)) with
  | some t => some t.2
  | none => if f.rest then some .skip else none
def bodyStd (u : Use) (n : Int) : Std := if 0 < n then .body u n 0 else if u = .check then .sum 0 else .tag
def step (f : Fmt) : Std → Int → Option Std
  | .head p, s => match f.head[p]? with
    | none => none
    | some none => some (if p + 1 < f.head.length then .head (p + 1) else .tag)
    | some (some m) => if m = s then some (if p + 1 < f.head.length then .head (p + 1) else .tag) else none
  | .tag, s => match use f s with
    | none => none
    | some .end_ => some .room
    | some .stop => some .over
    | some u => some (.len u)
  | .len u, s => match f.width with
    | .one => if s ≤ f.most then some (bodyStd u s) else none
    | .high => if s * f.base ≤ f.most then some (.second u s) else none
    | .low => if s ≤ f.most then some (.second u s) else none
  | .second u a, s => if (if f.width = .high then a * f.base + s else s * f.base + a) ≤ f.most then some (bodyStd u (if f.width = .high then a * f.base + s else s * f.base + a)) else none
  | .body u l t, s => some (if 1 < l then .body u (l - 1) (if u = .check then (t + s) % f.base else t) else if u = .check then .sum ((t + s) % f.base) else .tag)
  | .sum t, s => if s = t then some .tag else none
  | .room, _ => some .room
  | .over, _ => none

@[simp] theorem fd0 (f : Fmt) : idxD f.d (.int 0) = some (.int f.base) := by simp [Fmt.d]
@[simp] theorem fd1 (f : Fmt) : idxD f.d (.int 1) = some (.tuple (f.head.map mkD)) := by simp [Fmt.d]
@[simp] theorem fd2 (f : Fmt) : idxD f.d (.int 2) = some (.str f.width.s) := by simp [Fmt.d]
@[simp] theorem fd3 (f : Fmt) : idxD f.d (.int 3) = some (.int f.most) := by simp [Fmt.d]
@[simp] theorem fd4 (f : Fmt) : idxD f.d (.int 4) = some (.tuple (f.tags.map tgD)) := by simp [Fmt.d]
@[simp] theorem fd5 (f : Fmt) : idxD f.d (.int 5) = some (.str (if f.rest then "skip" else "refuse")) := by simp [Fmt.d]
theorem use_ok (u : Use) : PyData.strOk u.s = true := by cases u <;> decide +kernel
theorem use_eq (u : Use) (v : Use) : (u.s = v.s) ↔ u = v := by cases u <;> cases v <;> decide +kernel
theorem wd_ok (u : Wd) : PyData.strOk u.s = true := by cases u <;> decide +kernel
theorem mul_ok {a b : Int} (h : 2 ≤ b) (h' : b ≤ 256) : mulOk a b = true := by
  unfold mulOk
  exact decide_eq_true (.inr ⟨by omega, by omega⟩)
theorem Fmt.Ok.mul {f : Fmt} (h : f.Ok) (a : Int) : mulD (.int a) (.int f.base) = some (.int (a * f.base)) := mulD_int _ _ (mul_ok h.b2 h.b256)
theorem Fmt.Ok.mod {f : Fmt} (h : f.Ok) (a : Int) : modD (.int a) (.int f.base) = some (.int (a % f.base)) := modD_int _ _ (by have := h.b2; omega)
theorem Fmt.Ok.fdiv {f : Fmt} (h : f.Ok) (a : Int) : fdivD (.int a) (.int f.base) = some (.int (a / f.base)) := fdivD_int _ _ (by
  unfold divOk
  have h1 := h.b2
  have h2 := h.b256
  refine decide_eq_true ⟨by omega, ?_⟩
  have : f.base.natAbs.log2 ≤ f.base.natAbs := Nat.log2_le_self _
  omega)

theorem is_integer_int (i : Int) : S_is_integer [.int i] = .ok (.bool true) [] := by
  simp [S_is_integer, runF_eq, T_is_integer, rho0, subTy]
theorem is_sign_int (b i : Int) : S_is_sign [.int b, .int i] = .ok (.bool (decide (0 ≤ i ∧ i < b))) [] := by
  simp [S_is_sign, runF_eq, T_is_sign, rho0, is_integer_int]
  split <;> simp [*]
theorem is_at_least_int (i l : Int) : S_is_at_least [.int i, .int l] = .ok (.bool (decide (l ≤ i))) [] := by
  simp [S_is_at_least, runF_eq, T_is_at_least, rho0, is_integer_int]
theorem body_stand_eq (u : Use) (n : Int) : S_body_stand [.str u.s, .int n] = .ok (bodyStd u n).d [] := by
  have e := eqD_str u.s "check" (use_ok u) (by decide +kernel)
  simp [S_body_stand, runF_eq, T_body_stand, rho0, e, bodyStd]
  have q : (u.s = Str.ofString "check") ↔ u = .check := use_eq u .check
  by_cases h : 0 < n
  · simp [h, Std.d]
  · by_cases h2 : u = .check
    · simp [h, h2, Std.d, Use.s]
    · simp [h, h2, Std.d, mt q.mp h2]
theorem use_at_loop (s : Int) : ∀ (ts : List (Int × Use)) (ρ : Rho) (F : D) (x y : Option D), ρ = [some F, some (.int s), x, y] → ∃ x' y', forT (tupG 2 (consG (setG 2) (consG (setG 3) (nilG)))) (ifT (isB (binT eqD (varT 2) (varT 1))) (retT (varT 3)) (nxT)) (ts.map tgD) ρ =
    match ts.find? (fun t => decide (t.1 = s)) with
    | some t => .ok (.rt (.str t.2.s)) [some F, some (.int s), x', y']
    | none => .ok .nx [some F, some (.int s), x', y']
  | [], ρ, F, x, y, h => ⟨x, y, by simp [h]⟩
  | t :: ts, ρ, F, x, y, h => by
    subst h
    rw [List.map_cons, forT_cons]
    by_cases e : t.1 = s
    · refine ⟨some (.int t.1), some (.str t.2.s), ?_⟩
      simp [tgD, e]
    · obtain ⟨x', y', q⟩ := use_at_loop s ts [some F, some (.int s), some (.int t.1), some (.str t.2.s)] F _ _ rfl
      refine ⟨x', y', ?_⟩
      simp [tgD, e, q]
theorem use_at_eq (f : Fmt) (s : Int) : S_use_at [f.d, .int s] = .ok (useD (use f s)) [] := by
  obtain ⟨x', y', q⟩ := use_at_loop s f.tags [some f.d, some (.int s), none, none] f.d none none rfl
  have e0 : eqD (.str (if f.rest then "skip" else "refuse")) (.str "skip") = some (.bool f.rest) := by
    cases f.rest
    · exact eqD_strF "refuse" "skip" (by decide +kernel) (by decide +kernel) (by decide +kernel)
    · exact eqD_strT "skip" "skip" (by decide +kernel) (by decide +kernel) rfl
  unfold use
  cases h : f.tags.find? (fun t => decide (t.1 = s)) with
  | some t =>
    simp only [h] at q
    simp [S_use_at, T_use_at, runF_eq, rho0, q, useD]
  | none =>
    simp only [h] at q
    simp [S_use_at, T_use_at, runF_eq, rho0, q, e0]
    cases f.rest <;> simp [useD, Use.s]
theorem wd_one (w : Wd) : eqD (.str w.s) (.str "one") = some (.bool (decide (w = .one))) := by
  cases w
  · exact eqD_strT "one" "one" (by decide +kernel) (by decide +kernel) rfl
  · exact eqD_strF "high" "one" (by decide +kernel) (by decide +kernel) (by decide +kernel)
  · exact eqD_strF "low" "one" (by decide +kernel) (by decide +kernel) (by decide +kernel)
theorem wd_high (w : Wd) : eqD (.str w.s) (.str "high") = some (.bool (decide (w = .high))) := by
  cases w
  · exact eqD_strF "one" "high" (by decide +kernel) (by decide +kernel) (by decide +kernel)
  · exact eqD_strT "high" "high" (by decide +kernel) (by decide +kernel) rfl
  · exact eqD_strF "low" "high" (by decide +kernel) (by decide +kernel) (by decide +kernel)
theorem us_eq (u v : Use) : eqD (.str u.s) (.str v.s) = some (.bool (decide (u = v))) := by
  rw [eqD_str _ _ (use_ok u) (use_ok v)]
  congr 2
  exact decide_eq_decide.mpr (use_eq u v)
theorem us_check (u : Use) : eqD (.str u.s) (.str "check") = some (.bool (decide (u = .check))) := us_eq u .check
theorem us_end (u : Use) : eqD (.str u.s) (.str "end") = some (.bool (decide (u = .end_))) := us_eq u .end_
theorem us_stop (u : Use) : eqD (.str u.s) (.str "stop") = some (.bool (decide (u = .stop))) := us_eq u .stop
theorem us_skip (u : Use) : eqD (.str u.s) (.str "skip") = some (.bool (decide (u = .skip))) := us_eq u .skip
def lenS (f : Fmt) (n : Int) : List Int := match f.width with
  | .one => [n]
  | .high => [n / f.base, n % f.base]
  | .low => [n % f.base, n / f.base]
theorem length_signs_eq {f : Fmt} (h : f.Ok) (n : Int) : S_length_signs [f.d, .int n] = .ok (sgD (lenS f n)) [] := by
  simp [S_length_signs, T_length_signs, runF_eq, rho0, h.fdiv, h.mod, wd_one, wd_high, lenS, sgD]
  cases f.width <;> simp
theorem behind_length_eq {f : Fmt} (h : f.Ok) (u : Use) (s : Int) : S_behind_length [f.d, .str u.s, .int s] = .ok (stD (step f (.len u) s)) [] := by
  simp [S_behind_length, T_behind_length, runF_eq, rho0, h.mul, wd_one, wd_high, step, body_stand_eq]
  cases f.width <;> simp <;> split <;> simp [stD, Std.d]
theorem behind_second_eq {f : Fmt} (h : f.Ok) (u : Use) (a s : Int) : S_behind_second [f.d, .str u.s, .int a, .int s] = .ok (stD (step f (.second u a) s)) [] := by
  simp [S_behind_second, T_behind_second, runF_eq, rho0, h.mul, wd_high, step, body_stand_eq]
  cases f.width <;> simp <;> split <;> simp [stD]
theorem behind_body_eq {f : Fmt} (h : f.Ok) (u : Use) (l t s : Int) : S_behind_body [f.d, (Std.body u l t).d, .int s] = .ok (stD (step f (.body u l t) s)) [] := by
  simp [S_behind_body, T_behind_body, runF_eq, rho0, h.mod, us_check, step, Std.d, slcD, cutD, HT.sIx]
  by_cases hu : u = .check <;> by_cases hl : 1 < l <;> simp [hu, hl, stD, Std.d]
@[simp] theorem n_head_tag : (Str.ofString "head" = Str.ofString "tag") = False := eq_false (by decide +kernel)
@[simp] theorem b_head_tag : (Str.ofString "head" == Str.ofString "tag") = false := by decide +kernel
@[simp] theorem n_head_length : (Str.ofString "head" = Str.ofString "length") = False := eq_false (by decide +kernel)
@[simp] theorem b_head_length : (Str.ofString "head" == Str.ofString "length") = false := by decide +kernel
@[simp] theorem n_head_second : (Str.ofString "head" = Str.ofString "second") = False := eq_false (by decide +kernel)
@[simp] theorem b_head_second : (Str.ofString "head" == Str.ofString "second") = false := by decide +kernel
@[simp] theorem n_head_body : (Str.ofString "head" = Str.ofString "body") = False := eq_false (by decide +kernel)
@[simp] theorem b_head_body : (Str.ofString "head" == Str.ofString "body") = false := by decide +kernel
@[simp] theorem n_head_sum : (Str.ofString "head" = Str.ofString "sum") = False := eq_false (by decide +kernel)
@[simp] theorem b_head_sum : (Str.ofString "head" == Str.ofString "sum") = false := by decide +kernel
@[simp] theorem n_head_room : (Str.ofString "head" = Str.ofString "room") = False := eq_false (by decide +kernel)
@[simp] theorem b_head_room : (Str.ofString "head" == Str.ofString "room") = false := by decide +kernel
@[simp] theorem n_head_over : (Str.ofString "head" = Str.ofString "over") = False := eq_false (by decide +kernel)
@[simp] theorem b_head_over : (Str.ofString "head" == Str.ofString "over") = false := by decide +kernel
@[simp] theorem n_tag_head : (Str.ofString "tag" = Str.ofString "head") = False := eq_false (by decide +kernel)
@[simp] theorem b_tag_head : (Str.ofString "tag" == Str.ofString "head") = false := by decide +kernel
@[simp] theorem n_tag_length : (Str.ofString "tag" = Str.ofString "length") = False := eq_false (by decide +kernel)
@[simp] theorem b_tag_length : (Str.ofString "tag" == Str.ofString "length") = false := by decide +kernel
@[simp] theorem n_tag_second : (Str.ofString "tag" = Str.ofString "second") = False := eq_false (by decide +kernel)
@[simp] theorem b_tag_second : (Str.ofString "tag" == Str.ofString "second") = false := by decide +kernel
@[simp] theorem n_tag_body : (Str.ofString "tag" = Str.ofString "body") = False := eq_false (by decide +kernel)
@[simp] theorem b_tag_body : (Str.ofString "tag" == Str.ofString "body") = false := by decide +kernel
@[simp] theorem n_tag_sum : (Str.ofString "tag" = Str.ofString "sum") = False := eq_false (by decide +kernel)
@[simp] theorem b_tag_sum : (Str.ofString "tag" == Str.ofString "sum") = false := by decide +kernel
@[simp] theorem n_tag_room : (Str.ofString "tag" = Str.ofString "room") = False := eq_false (by decide +kernel)
@[simp] theorem b_tag_room : (Str.ofString "tag" == Str.ofString "room") = false := by decide +kernel
@[simp] theorem n_tag_over : (Str.ofString "tag" = Str.ofString "over") = False := eq_false (by decide +kernel)
@[simp] theorem b_tag_over : (Str.ofString "tag" == Str.ofString "over") = false := by decide +kernel
@[simp] theorem n_length_head : (Str.ofString "length" = Str.ofString "head") = False := eq_false (by decide +kernel)
@[simp] theorem b_length_head : (Str.ofString "length" == Str.ofString "head") = false := by decide +kernel
@[simp] theorem n_length_tag : (Str.ofString "length" = Str.ofString "tag") = False := eq_false (by decide +kernel)
@[simp] theorem b_length_tag : (Str.ofString "length" == Str.ofString "tag") = false := by decide +kernel
@[simp] theorem n_length_second : (Str.ofString "length" = Str.ofString "second") = False := eq_false (by decide +kernel)
@[simp] theorem b_length_second : (Str.ofString "length" == Str.ofString "second") = false := by decide +kernel
@[simp] theorem n_length_body : (Str.ofString "length" = Str.ofString "body") = False := eq_false (by decide +kernel)
@[simp] theorem b_length_body : (Str.ofString "length" == Str.ofString "body") = false := by decide +kernel
@[simp] theorem n_length_sum : (Str.ofString "length" = Str.ofString "sum") = False := eq_false (by decide +kernel)
@[simp] theorem b_length_sum : (Str.ofString "length" == Str.ofString "sum") = false := by decide +kernel
@[simp] theorem n_length_room : (Str.ofString "length" = Str.ofString "room") = False := eq_false (by decide +kernel)
@[simp] theorem b_length_room : (Str.ofString "length" == Str.ofString "room") = false := by decide +kernel
@[simp] theorem n_length_over : (Str.ofString "length" = Str.ofString "over") = False := eq_false (by decide +kernel)
@[simp] theorem b_length_over : (Str.ofString "length" == Str.ofString "over") = false := by decide +kernel
@[simp] theorem n_second_head : (Str.ofString "second" = Str.ofString "head") = False := eq_false (by decide +kernel)
@[simp] theorem b_second_head : (Str.ofString "second" == Str.ofString "head") = false := by decide +kernel
@[simp] theorem n_second_tag : (Str.ofString "second" = Str.ofString "tag") = False := eq_false (by decide +kernel)
@[simp] theorem b_second_tag : (Str.ofString "second" == Str.ofString "tag") = false := by decide +kernel
@[simp] theorem n_second_length : (Str.ofString "second" = Str.ofString "length") = False := eq_false (by decide +kernel)
@[simp] theorem b_second_length : (Str.ofString "second" == Str.ofString "length") = false := by decide +kernel
@[simp] theorem n_second_body : (Str.ofString "second" = Str.ofString "body") = False := eq_false (by decide +kernel)
@[simp] theorem b_second_body : (Str.ofString "second" == Str.ofString "body") = false := by decide +kernel
@[simp] theorem n_second_sum : (Str.ofString "second" = Str.ofString "sum") = False := eq_false (by decide +kernel)
@[simp] theorem b_second_sum : (Str.ofString "second" == Str.ofString "sum") = false := by decide +kernel
@[simp] theorem n_second_room : (Str.ofString "second" = Str.ofString "room") = False := eq_false (by decide +kernel)
@[simp] theorem b_second_room : (Str.ofString "second" == Str.ofString "room") = false := by decide +kernel
@[simp] theorem n_second_over : (Str.ofString "second" = Str.ofString "over") = False := eq_false (by decide +kernel)
@[simp] theorem b_second_over : (Str.ofString "second" == Str.ofString "over") = false := by decide +kernel
@[simp] theorem n_body_head : (Str.ofString "body" = Str.ofString "head") = False := eq_false (by decide +kernel)
@[simp] theorem b_body_head : (Str.ofString "body" == Str.ofString "head") = false := by decide +kernel
@[simp] theorem n_body_tag : (Str.ofString "body" = Str.ofString "tag") = False := eq_false (by decide +kernel)
@[simp] theorem b_body_tag : (Str.ofString "body" == Str.ofString "tag") = false := by decide +kernel
@[simp] theorem n_body_length : (Str.ofString "body" = Str.ofString "length") = False := eq_false (by decide +kernel)
@[simp] theorem b_body_length : (Str.ofString "body" == Str.ofString "length") = false := by decide +kernel
@[simp] theorem n_body_second : (Str.ofString "body" = Str.ofString "second") = False := eq_false (by decide +kernel)
@[simp] theorem b_body_second : (Str.ofString "body" == Str.ofString "second") = false := by decide +kernel
@[simp] theorem n_body_sum : (Str.ofString "body" = Str.ofString "sum") = False := eq_false (by decide +kernel)
@[simp] theorem b_body_sum : (Str.ofString "body" == Str.ofString "sum") = false := by decide +kernel
@[simp] theorem n_body_room : (Str.ofString "body" = Str.ofString "room") = False := eq_false (by decide +kernel)
@[simp] theorem b_body_room : (Str.ofString "body" == Str.ofString "room") = false := by decide +kernel
@[simp] theorem n_body_over : (Str.ofString "body" = Str.ofString "over") = False := eq_false (by decide +kernel)
@[simp] theorem b_body_over : (Str.ofString "body" == Str.ofString "over") = false := by decide +kernel
@[simp] theorem n_sum_head : (Str.ofString "sum" = Str.ofString "head") = False := eq_false (by decide +kernel)
@[simp] theorem b_sum_head : (Str.ofString "sum" == Str.ofString "head") = false := by decide +kernel
@[simp] theorem n_sum_tag : (Str.ofString "sum" = Str.ofString "tag") = False := eq_false (by decide +kernel)
@[simp] theorem b_sum_tag : (Str.ofString "sum" == Str.ofString "tag") = false := by decide +kernel
@[simp] theorem n_sum_length : (Str.ofString "sum" = Str.ofString "length") = False := eq_false (by decide +kernel)
@[simp] theorem b_sum_length : (Str.ofString "sum" == Str.ofString "length") = false := by decide +kernel
@[simp] theorem n_sum_second : (Str.ofString "sum" = Str.ofString "second") = False := eq_false (by decide +kernel)
@[simp] theorem b_sum_second : (Str.ofString "sum" == Str.ofString "second") = false := by decide +kernel
@[simp] theorem n_sum_body : (Str.ofString "sum" = Str.ofString "body") = False := eq_false (by decide +kernel)
@[simp] theorem b_sum_body : (Str.ofString "sum" == Str.ofString "body") = false := by decide +kernel
@[simp] theorem n_sum_room : (Str.ofString "sum" = Str.ofString "room") = False := eq_false (by decide +kernel)
@[simp] theorem b_sum_room : (Str.ofString "sum" == Str.ofString "room") = false := by decide +kernel
@[simp] theorem n_sum_over : (Str.ofString "sum" = Str.ofString "over") = False := eq_false (by decide +kernel)
@[simp] theorem b_sum_over : (Str.ofString "sum" == Str.ofString "over") = false := by decide +kernel
@[simp] theorem n_room_head : (Str.ofString "room" = Str.ofString "head") = False := eq_false (by decide +kernel)
@[simp] theorem b_room_head : (Str.ofString "room" == Str.ofString "head") = false := by decide +kernel
@[simp] theorem n_room_tag : (Str.ofString "room" = Str.ofString "tag") = False := eq_false (by decide +kernel)
@[simp] theorem b_room_tag : (Str.ofString "room" == Str.ofString "tag") = false := by decide +kernel
@[simp] theorem n_room_length : (Str.ofString "room" = Str.ofString "length") = False := eq_false (by decide +kernel)
@[simp] theorem b_room_length : (Str.ofString "room" == Str.ofString "length") = false := by decide +kernel
@[simp] theorem n_room_second : (Str.ofString "room" = Str.ofString "second") = False := eq_false (by decide +kernel)
@[simp] theorem b_room_second : (Str.ofString "room" == Str.ofString "second") = false := by decide +kernel
@[simp] theorem n_room_body : (Str.ofString "room" = Str.ofString "body") = False := eq_false (by decide +kernel)
@[simp] theorem b_room_body : (Str.ofString "room" == Str.ofString "body") = false := by decide +kernel
@[simp] theorem n_room_sum : (Str.ofString "room" = Str.ofString "sum") = False := eq_false (by decide +kernel)
@[simp] theorem b_room_sum : (Str.ofString "room" == Str.ofString "sum") = false := by decide +kernel
@[simp] theorem n_room_over : (Str.ofString "room" = Str.ofString "over") = False := eq_false (by decide +kernel)
@[simp] theorem b_room_over : (Str.ofString "room" == Str.ofString "over") = false := by decide +kernel
@[simp] theorem n_over_head : (Str.ofString "over" = Str.ofString "head") = False := eq_false (by decide +kernel)
@[simp] theorem b_over_head : (Str.ofString "over" == Str.ofString "head") = false := by decide +kernel
@[simp] theorem n_over_tag : (Str.ofString "over" = Str.ofString "tag") = False := eq_false (by decide +kernel)
@[simp] theorem b_over_tag : (Str.ofString "over" == Str.ofString "tag") = false := by decide +kernel
@[simp] theorem n_over_length : (Str.ofString "over" = Str.ofString "length") = False := eq_false (by decide +kernel)
@[simp] theorem b_over_length : (Str.ofString "over" == Str.ofString "length") = false := by decide +kernel
@[simp] theorem n_over_second : (Str.ofString "over" = Str.ofString "second") = False := eq_false (by decide +kernel)
@[simp] theorem b_over_second : (Str.ofString "over" == Str.ofString "second") = false := by decide +kernel
@[simp] theorem n_over_body : (Str.ofString "over" = Str.ofString "body") = False := eq_false (by decide +kernel)
@[simp] theorem b_over_body : (Str.ofString "over" == Str.ofString "body") = false := by decide +kernel
@[simp] theorem n_over_sum : (Str.ofString "over" = Str.ofString "sum") = False := eq_false (by decide +kernel)
@[simp] theorem b_over_sum : (Str.ofString "over" == Str.ofString "sum") = false := by decide +kernel
@[simp] theorem n_over_room : (Str.ofString "over" = Str.ofString "room") = False := eq_false (by decide +kernel)
@[simp] theorem b_over_room : (Str.ofString "over" == Str.ofString "room") = false := by decide +kernel
theorem o_head : PyData.strOk (Str.ofString "head") = true := by decide +kernel
theorem o_tag : PyData.strOk (Str.ofString "tag") = true := by decide +kernel
theorem o_length : PyData.strOk (Str.ofString "length") = true := by decide +kernel
theorem o_second : PyData.strOk (Str.ofString "second") = true := by decide +kernel
theorem o_body : PyData.strOk (Str.ofString "body") = true := by decide +kernel
theorem o_sum : PyData.strOk (Str.ofString "sum") = true := by decide +kernel
theorem o_room : PyData.strOk (Str.ofString "room") = true := by decide +kernel
theorem o_over : PyData.strOk (Str.ofString "over") = true := by decide +kernel
theorem eqs (a b : Str) (ha : PyData.strOk a = true) (hb : PyData.strOk b = true) : eqD (.str a) (.str b) = some (.bool (decide (a = b))) := eqD_str a b ha hb
theorem neD_nil (l : List D) (h : PyData.canLayAll0 l = true) : neD (.tuple l) (.tuple []) = some (.bool (!l.isEmpty)) := by
  cases l <;> simp [neD, okCmp, PyData.canLay0, PyData.canLayAll0, PyData.depth, PyData.depthAll, PyData.eqv, PyData.eqvAll] at h ⊢
  exact h
theorem lay_ints : ∀ l : List Int, PyData.canLayAll0 (l.map .int) = true
  | [] => rfl
  | x :: l => by simp [PyData.canLayAll0, PyData.canLay0, lay_ints l]
theorem lay_mk : ∀ l : List (Option Int), PyData.canLayAll0 (l.map mkD) = true
  | [] => rfl
  | none :: l => by simp [PyData.canLayAll0, PyData.canLay0, mkD, lay_mk l]
  | some i :: l => by simp [PyData.canLayAll0, PyData.canLay0, mkD, lay_mk l]
def first (f : Fmt) : Std := if f.head = [] then .tag else .head 0
theorem first_stand_eq (f : Fmt) : S_first_stand [f.d] = .ok (first f).d [] := by
  simp [S_first_stand, T_first_stand, runF_eq, rho0, neD_nil _ (lay_mk _), first]
  cases f.head <;> simp [Std.d]
theorem mkD_ne (m : Option Int) (s : Int) (h : m ≠ none) : neD (mkD m) (.int s) = some (.bool (decide (m ≠ some s))) := by
  cases m with
  | none => exact absurd rfl h
  | some i => simp [mkD]
theorem behind_head_eq (f : Fmt) (p : Nat) (s : Int) (hp : p < f.head.length) : S_behind_head [f.d, .int p, .int s] = .ok (stD (step f (.head p) s)) [] := by
  have e : atI (f.head.map mkD) (p : Int) = some (mkD f.head[p]) := by
    rw [Z.atI_nat, List.getElem?_map, List.getElem?_eq_getElem hp]; rfl
  have e2 : f.head[p]? = some f.head[p] := List.getElem?_eq_getElem hp
  have e3 : ((p : Int) + 1 < (f.head.length : Int)) ↔ p + 1 < f.head.length := by omega
  simp only [S_behind_head, T_behind_head, runF_eq, rho0, step, e2]
  cases hm : f.head[p] with
  | none =>
    simp [e, hm, mkD, e3]
    split <;> simp [stD, Std.d]
  | some m =>
    simp [e, hm, mkD, e3]
    by_cases hs : m = s
    · simp [hs]
      split <;> simp [stD, Std.d]
    · simp [hs, stD]
theorem behind_tag_eq (f : Fmt) (s : Int) : S_behind_tag [f.d, .int s] = .ok (stD (step f .tag s)) [] := by
  simp only [S_behind_tag, T_behind_tag, runF_eq, rho0, step]
  cases hu : use f s with
  | none => simp [use_at_eq, hu, useD, stD]
  | some u =>
    simp [use_at_eq, hu, useD, us_end, us_stop]
    cases u <;> simp [stD, Std.d]
def Std.In (f : Fmt) : Std → Prop
  | .head p => p < f.head.length
  | _ => True
theorem step_eq {f : Fmt} (h : f.Ok) (st : Std) (hs : st.In f) (s : Int) : S_step [f.d, st.d, .int s] = .ok (stD (step f st s)) [] := by
  simp only [S_step, T_step, runF_eq, rho0]
  cases st with
  | head p => simp [Std.d, eqD_str, o_head, o_tag, o_length, o_second, o_body, o_sum, o_room, behind_head_eq f p s hs]
  | tag => simp [Std.d, eqD_str, o_head, o_tag, o_length, o_second, o_body, o_sum, o_room, behind_tag_eq]
  | len u => simp [Std.d, eqD_str, o_head, o_tag, o_length, o_second, o_body, o_sum, o_room, behind_length_eq h]
  | second u a => simp [Std.d, eqD_str, o_head, o_tag, o_length, o_second, o_body, o_sum, o_room, behind_second_eq h]
  | body u l t =>
    have e := behind_body_eq h u l t s
    simp only [Std.d] at e
    simp [Std.d, eqD_str, o_head, o_tag, o_length, o_second, o_body, o_sum, o_room, e]
  | sum t =>
    simp [Std.d, eqD_str, o_head, o_tag, o_length, o_second, o_body, o_sum, o_room, step]
    split <;> simp [stD, Std.d]
  | room => simp [Std.d, eqD_str, o_head, o_tag, o_length, o_second, o_body, o_sum, o_room, step, stD]
  | over => simp [Std.d, eqD_str, o_head, o_tag, o_length, o_second, o_body, o_sum, o_room, o_over, step, stD]
theorem bodyStd_in (f : Fmt) (u : Use) (n : Int) : (bodyStd u n).In f := by
  unfold bodyStd
  split
  · trivial
  · split <;> trivial
theorem step_in {f : Fmt} {st st' : Std} {s : Int} (h : step f st s = some st') : st'.In f := by
  cases st with
  | head p =>
    simp only [step] at h
    split at h
    · cases h
    · cases h
      split
      · assumption
      · trivial
    · split at h
      · cases h
        split
        · assumption
        · trivial
      · cases h
  | tag =>
    simp only [step] at h
    split at h <;> cases h <;> trivial
  | len u =>
    simp only [step] at h
    split at h <;> split at h <;> first | (cases h; done) | (cases h; first | exact bodyStd_in _ _ _ | trivial)
  | second u a =>
    simp only [step] at h
    generalize (if f.width = .high then a * f.base + s else s * f.base + a) = n at h
    split at h
    · cases h; exact bodyStd_in _ _ _
    · cases h
  | body u l t => simp only [step] at h; cases h; (try split) <;> (try split) <;> trivial
  | sum t => simp only [step] at h; split at h <;> cases h; trivial
  | room => cases h; trivial
  | over => cases h
theorem first_in (f : Fmt) : (first f).In f := by
  unfold first
  split
  · trivial
  · show 0 < f.head.length
    exact List.length_pos_iff.mpr (by assumption)
/-! ### endings, looks -/
def hasEnd (f : Fmt) : Bool := f.tags.any fun t => decide (t.2 = .end_ ∨ t.2 = .stop)
def ending (f : Fmt) : Std → Bool
  | .room => true
  | .over => true
  | .tag => !hasEnd f
  | _ => false
def looking (f : Fmt) : Std → Bool
  | .head p => match f.head[p]? with
    | some (some _) => true
    | _ => false
  | .room => false
  | .body .skip _ _ => false
  | _ => true
theorem std_lay (st : Std) : st.d.canLay0 = true := by
  cases st <;> simp [Std.d, PyData.canLay0, PyData.canLayAll0, use_ok, o_head, o_tag, o_length, o_second, o_body, o_sum, o_room, o_over]
theorem std_depth (st : Std) : st.d.depth = 1 := by
  cases st <;> simp [Std.d, PyData.depth, PyData.depthAll]
theorem tag_eqv (st : Std) : eqD st.d (.tuple [.str "tag"]) = some (.bool (match st with | .tag => true | _ => false)) := by
  unfold eqD
  have e : okCmp st.d (.tuple [.str "tag"]) = true := by simp [okCmp, std_lay, std_depth, PyData.canLay0, PyData.canLayAll0, PyData.depth, PyData.depthAll, o_tag]
  rw [if_pos e]
  cases st <;> simp [Std.d, PyData.eqv, PyData.eqvAll]
theorem room_nev (st : Std) : neD st.d (.tuple [.str "room"]) = some (.bool (match st with | .room => false | _ => true)) := by
  unfold neD
  have e : okCmp st.d (.tuple [.str "room"]) = true := by simp [okCmp, std_lay, std_depth, PyData.canLay0, PyData.canLayAll0, PyData.depth, PyData.depthAll, o_room]
  rw [if_pos e]
  cases st <;> simp [Std.d, PyData.eqv, PyData.eqvAll]
theorem roomover (st : Std) : inD st.d (.tuple [.tuple [.str "room"], .tuple [.str "over"]]) = some (.bool (match st with | .room => true | .over => true | _ => false)) := by
  unfold inD inB
  have e : okIn st.d [.tuple [.str "room"], .tuple [.str "over"]] = true := by simp [okIn, std_lay, std_depth, PyData.canLay0, PyData.canLayAll0, PyData.depth, PyData.depthAll, o_room, o_over]
  simp only [itemsD_tuple, e]
  cases st <;> simp [Std.d, PyData.eqv, PyData.eqvAll]
theorem inEnd (u : Use) : inD (.str u.s) (.tuple [.str "end", .str "stop"]) = some (.bool (decide (u = .end_ ∨ u = .stop))) := by
  unfold inD inB
  have e : okIn (.str u.s) [.str "end", .str "stop"] = true := by
    simp [okIn, PyData.canLay0, PyData.canLayAll0, PyData.depth, PyData.depthAll, use_ok]
    exact ⟨by decide +kernel, by decide +kernel⟩
  simp only [itemsD_tuple, e]
  cases u <;> simp [PyData.eqv] <;> decide +kernel
theorem inTold (u : Use) : inD (.str u.s) (.tuple [.str "keep", .str "check"]) = some (.bool (decide (u = .keep ∨ u = .check))) := by
  unfold inD inB
  have e : okIn (.str u.s) [.str "keep", .str "check"] = true := by
    simp [okIn, PyData.canLay0, PyData.canLayAll0, PyData.depth, PyData.depthAll, use_ok]
    exact ⟨by decide +kernel, by decide +kernel⟩
  simp only [itemsD_tuple, e]
  cases u <;> simp [PyData.eqv] <;> decide +kernel
theorem any_map {α : Type} (l : List α) (p : α → Bool) : anyD [.list (l.map fun x => .bool (p x))] = some (.bool (l.any p)) := by
  have := anyD_list (l.map p)
  rw [List.map_map] at this
  rw [show (fun x => PyData.bool (p x)) = PyData.bool ∘ p from rfl, this]
  simp
theorem all_map {α : Type} (l : List α) (p : α → Bool) : allD [.list (l.map fun x => .bool (p x))] = some (.bool (l.all p)) := by
  have := allD_list (l.map p)
  rw [List.map_map] at this
  rw [show (fun x => PyData.bool (p x)) = PyData.bool ∘ p from rfl, this]
  simp
theorem fuse {α : Type} (l : List α) : l.filter (fun _ => true) = l := by simp
theorem is_ending_eq {f : Fmt} (h : f.Ok) (st : Std) : S_is_ending [f.d, st.d] = .ok (.bool (ending f st)) [] := by
  simp only [S_is_ending, T_is_ending, runF_eq, rho0]
  have hl := h.tl
  have lc := lcT_pure (vs := [2, 3]) (Ti := seqT (Z.binT idxD (varT 0) (cT (.int 4)))) (g := tupG 2 (consG (setG 2) (consG (setG 3) (nilG)))) (tt := yesT) (te := Z.binT inD (varT 3) (tupT (consT (cT (.str ("end" : Str))) (consT (cT (.str ("stop" : Str))) (nilT)))))
    (ρ := [some f.d, some st.d, none, none]) (ρ1 := [some f.d, some st.d, none, none]) f.tags tgD (fun _ => true) (fun t => .bool (decide (t.2 = .end_ ∨ t.2 = .stop))) (fun t => [some f.d, some st.d, some (.int t.1), some (.str t.2.s)])
    (by simp) (fun t _ => by simp [tgD, wipeR, yesT, inEnd]) (by simp; omega)
  rw [fuse] at lc
  simp [tag_eqv, roomover, lc, any_map]
  cases st <;> simp [ending, hasEnd]
/-! ### contents -/
abbrev Cont := List (Int × List Int)
def chD (c : Int × List Int) : D := .tuple [.int c.1, sgD c.2]
def coD (c : Cont) : D := .tuple (c.map chD)
def Use.told : Use → Bool
  | .keep => true
  | .check => true
  | _ => false
def useTold : Option Use → Bool
  | some u => u.told
  | none => false
theorem use_told (o : Option Use) : inD (useD o) (.tuple [.str "keep", .str "check"]) = some (.bool (useTold o)) := by
  cases o with
  | none =>
    have e : okIn .none [.str "keep", .str "check"] = true := by
      simp [okIn, PyData.canLay0, PyData.canLayAll0, PyData.depth, PyData.depthAll]
      exact ⟨by decide +kernel, by decide +kernel⟩
    simp [inD, inB, useD, e, PyData.eqv, useTold]
  | some u =>
    rw [show useD (some u) = .str u.s from rfl, inTold]
    cases u <;> rfl
def toldAt (f : Fmt) (st : Std) (s : Int) (told : Cont) : Cont := match st with
  | .tag => if useTold (use f s) then told ++ [(s, [])] else told
  | .body u _ _ => if u.told then told.dropLast ++ (match told.getLast? with | some (t, b) => [(t, b ++ [s])] | none => []) else told
  | _ => told
theorem sgD_items (l : List Int) : itemsD (sgD l) = some (l.map .int) := rfl
theorem told_at_eq (f : Fmt) (st : Std) (s : Int) (told : Cont) (hs : told.length ≤ 1000000) (hb : ∀ c ∈ told, c.2.length ≤ 1000000) (hn : ∀ u l t, st = .body u l t → u.told = true → told ≠ []) : S_told_at_readers [f.d, st.d, .int s, coD told] = .ok (coD (toldAt f st s told)) [] := by
  have base : ∀ st : Std, (∀ u l t, st ≠ .body u l t) → st ≠ .tag → S_told_at_readers [f.d, st.d, .int s, coD told] = .ok (coD told) [] := by
    intro st h1 h2
    simp only [S_told_at_readers, T_told_at_readers, runF_eq, rho0]
    cases st <;> first | exact absurd rfl h2 | (exact absurd rfl (h1 _ _ _)) | skip
    all_goals simp [tag_eqv]
    all_goals simp [Std.d, eqD_str, o_head, o_body, o_length, o_second, o_sum, o_room, o_over]
  cases st with
  | tag =>
    simp only [S_told_at_readers, T_told_at_readers, runF_eq, rho0]
    simp [tag_eqv, use_at_eq, use_told]
    by_cases hu : useTold (use f s) = true
    · simp [hu, coD, toldAt, chD, sgD]
      omega
    · simp [hu, toldAt]
      simp [Std.d, eqD_str, o_tag, o_body]
  | body u l t =>
    simp only [S_told_at_readers, T_told_at_readers, runF_eq, rho0]
    simp [tag_eqv]
    simp [Std.d, eqD_str, o_body, inTold]
    by_cases hu : u = .keep ∨ u = .check
    · have ht : u.told = true := by rcases hu with rfl | rfl <;> rfl
      obtain ⟨pre, c, rfl⟩ : ∃ pre c, told = pre ++ [c] := ⟨told.dropLast, told.getLast (hn u l t rfl ht), (List.dropLast_concat_getLast _).symm⟩
      obtain ⟨tt, bb⟩ := c
      have hbb := hb (tt, bb) (by simp)
      simp at hs hbb
      have e1 : List.drop pre.length (List.map chD pre ++ [chD (tt, bb)]) = [chD (tt, bb)] := by
        rw [show pre.length = (List.map chD pre).length by simp, List.drop_left]
      have e2 : List.take pre.length (List.map chD pre ++ [chD (tt, bb)]) = List.map chD pre := by
        rw [show pre.length = (List.map chD pre).length by simp, List.take_left]
      simp [hu, toldAt, ht, coD, starG, e1, e2, chD, sgD_items]
      simp [sgD]
      rw [if_pos (by omega), if_pos (by omega)]
    · have ht : u.told = false := by cases u <;> simp at hu ⊢ <;> rfl
      simp [hu, toldAt, ht]
  | head p => exact base _ (fun _ _ _ h => by cases h) (fun h => by cases h)
  | len u => exact base _ (fun _ _ _ h => by cases h) (fun h => by cases h)
  | second u a => exact base _ (fun _ _ _ h => by cases h) (fun h => by cases h)
  | sum t => exact base _ (fun _ _ _ h => by cases h) (fun h => by cases h)
  | room => exact base _ (fun _ _ _ h => by cases h) (fun h => by cases h)
  | over => exact base _ (fun _ _ _ h => by cases h) (fun h => by cases h)
/-- a reading from a stand: what is behind it -/
inductive Run (f : Fmt) : Std → Cont → List Int → Std → Cont → Prop
  | nil (st : Std) (c : Cont) : Run f st c [] st c
  | cons {st st' st2 : Std} {c c2 : Cont} {s : Int} {l : List Int} (h : step f st s = some st') (hn : ∀ u a t, st = .body u a t → u.told = true → c ≠ []) (r : Run f st' (toldAt f st s c) l st2 c2) : Run f st c (s :: l) st2 c2
theorem Run.trans {f : Fmt} {st st1 st2 : Std} {c c1 c2 : Cont} {l l2 : List Int} (a : Run f st c l st1 c1) (b : Run f st1 c1 l2 st2 c2) : Run f st c (l ++ l2) st2 c2 := by
  induction a with
  | nil => exact b
  | cons h hn r ih => exact .cons h hn (ih b)
theorem Run.one {f : Fmt} {st st1 : Std} {c : Cont} {s : Int} (h : step f st s = some st1) (hn : ∀ u a t, st = .body u a t → u.told = true → c ≠ []) : Run f st c [s] st1 (toldAt f st s c) := .cons h hn (.nil _ _)
theorem Run.in_ {f : Fmt} {st st1 : Std} {c c1 : Cont} {l : List Int} (a : Run f st c l st1 c1) (h : st.In f) : st1.In f := by
  induction a with
  | nil => exact h
  | cons h' hn r ih => exact ih (step_in h')
/-- what a def's loop reads -/
theorem nonD (st : Std) : isNoneD st.d = false := by cases st <;> rfl
theorem toldAt_len (f : Fmt) (st : Std) (s : Int) (c : Cont) : (toldAt f st s c).length ≤ c.length + 1 := by
  cases st <;> simp only [toldAt] <;> try omega
  · split <;> simp
  · split
    · simp only [List.length_append, List.length_dropLast]
      split <;> simp <;> omega
    · omega
theorem toldAt_bodies {f : Fmt} {st : Std} {s : Int} {c : Cont} {m : Nat} (h : ∀ d ∈ c, d.2.length ≤ m) : ∀ d ∈ toldAt f st s c, d.2.length ≤ m + 1 := by
  intro d hd
  cases st <;> simp only [toldAt] at hd <;> first | exact Nat.le_succ_of_le (h d hd) | skip
  · split at hd
    · rcases List.mem_append.mp hd with hd | hd
      · exact Nat.le_succ_of_le (h d hd)
      · rw [List.mem_singleton.mp hd]; simp
    · exact Nat.le_succ_of_le (h d hd)
  · split at hd
    · rcases List.mem_append.mp hd with hd | hd
      · exact Nat.le_succ_of_le (h d (List.dropLast_subset c hd))
      · split at hd
        · rename_i t b e
          rw [List.mem_singleton.mp hd]
          have := h (t, b) (List.mem_of_getLast? e)
          simp at this ⊢
          exact this
        · cases hd
    · exact Nat.le_succ_of_le (h d hd)
theorem told_loop {f : Fmt} (h : f.Ok) : ∀ {l : List Int} {st st' : Std} {c c' : Cont} (F : D) (x : Option D), Run f st c l st' c' → st.In f → c.length + l.length ≤ 1000000 → (∀ d ∈ c, d.2.length + l.length ≤ 1000000) →
    ∃ x', forT (setG 4) (sqT (asgT 3 (callT [none, none, none, none] S_told_at_readers (consT (varT 0) (consT (varT 2) (consT (varT 4) (consT (varT 3) (nilT))))))) (asgT 2 (callT [none, none, none] S_step (consT (varT 0) (consT (varT 2) (consT (varT 4) (nilT)))))))
      (l.map .int) [some f.d, some F, some st.d, some (coD c), x] = .ok .nx [some f.d, some F, some st'.d, some (coD c'), x']
  | [], _, _, _, _, F, x, .nil _ _, _, _, _ => ⟨x, rfl⟩
  | s :: l, st, st', c, c', F, x, .cons (st' := st1) h1 hn r, hs, hl, hb => by
    rw [List.length_cons] at hl
    have hb' : ∀ d ∈ c, d.2.length ≤ 1000000 - (l.length + 1) := fun d hd => by have := hb d hd; rw [List.length_cons] at this; omega
    obtain ⟨x', e⟩ := told_loop h F (some (.int s)) r (step_in h1) (by have := toldAt_len f st s c; omega) (fun d hd => by have := toldAt_bodies (f := f) (st := st) (s := s) hb' d hd; omega)
    refine ⟨x', ?_⟩
    rw [List.map_cons, forT_cons]
    simp [step_eq h st hs, told_at_eq f st s c (by omega) (fun d hd => by have := hb' d hd; omega) hn, h1, stD]
    exact e
theorem told_in_eq {f : Fmt} (h : f.Ok) {l : List Int} {st : Std} {c : Cont} (r : Run f (first f) [] l st c) (hl : l.length ≤ 1000000) : S_told_in [f.d, sgD l] = .ok (coD c) [] := by
  obtain ⟨x', e⟩ := told_loop h (sgD l) none r (first_in f) (by simpa using hl) (fun d hd => by cases hd)
  simp only [S_told_in, T_told_in, runF_eq, rho0]
  have e' : coD [] = .tuple [] := rfl
  rw [e'] at e
  simp [first_stand_eq, sgD_items, e]
/-- where it looks -/
def lookedF (f : Fmt) : Std → Nat → List Int → List Nat
  | _, _, [] => []
  | st, k, s :: l => (if looking f st then [k] else []) ++ (match step f st s with
    | some st' => lookedF f st' (k + 1) l
    | none => [])
theorem stand_loop {f : Fmt} (h : f.Ok) : ∀ {l : List Int} {st st' : Std} {c c' : Cont} (F : D) (x : Option D), Run f st c l st' c' → st.In f →
    ∃ x', forT (setG 3) (sqT (ifT (isB (Z.binT isD (varT 1) (cT .none))) (retT (cT .none)) (nxT)) (asgT 1 (callT [none, none, none] S_step (consT (varT 0) (consT (varT 1) (consT (varT 3) (nilT)))))))
      (l.map .int) [some f.d, some st.d, some F, x] = .ok .nx [some f.d, some st'.d, some F, x']
  | [], _, _, _, _, F, x, .nil _ _, _ => ⟨x, rfl⟩
  | s :: l, st, st', c, c', F, x, .cons (st' := st1) h1 hn r, hs => by
    obtain ⟨x', e⟩ := stand_loop h F (some (.int s)) r (step_in h1)
    refine ⟨x', ?_⟩
    rw [List.map_cons, forT_cons]
    simp [step_eq h st hs, h1, stD, nonD]
    exact e
def Use.chunk : Use → Bool
  | .keep => true
  | .check => true
  | .skip => true
  | _ => false
def chunkS (f : Fmt) (p : Int × List Int) : List Int := p.1 :: (lenS f (p.2.length : Int) ++ (p.2 ++ (if use f p.1 = some .check then [p.2.sum % f.base] else [])))
def afterBody (f : Fmt) (u : Use) (t : Int) : Std := if u = .check then .sum t else .tag
theorem body_run {f : Fmt} (hb : 0 < f.base) (u : Use) : ∀ (bs : List Int) (s : Int) (tot : Int) (c pre : Cont) (t : Int) (b0 : List Int), (u.told = true → c = pre ++ [(t, b0)]) →
    Run f (.body u (((s :: bs).length : Nat) : Int) tot) c (s :: bs) (afterBody f u (if u = .check then (tot + (s :: bs).sum) % f.base else tot)) (if u.told then pre ++ [(t, b0 ++ (s :: bs))] else c)
  | [], s, tot, c, pre, t, b0, hc => by
    have h1 : step f (.body u (([s].length : Nat) : Int) tot) s = some (afterBody f u (if u = .check then (tot + [s].sum) % f.base else tot)) := by
      simp only [step, afterBody]
      by_cases hu : u = .check <;> simp [hu]
    have h2 : toldAt f (.body u (([s].length : Nat) : Int) tot) s c = (if u.told then pre ++ [(t, b0 ++ [s])] else c) := by
      simp only [toldAt]
      by_cases ht : u.told = true
      · rw [hc ht]; simp [ht]
      · simp [ht]
    rw [← h2]
    exact Run.one h1 fun u' a t' e hu => by
      cases e
      rw [hc hu]; simp
  | s2 :: bs, s, tot, c, pre, t, b0, hc => by
    have h1 : step f (.body u (((s :: s2 :: bs).length : Nat) : Int) tot) s = some (.body u (((s2 :: bs).length : Nat) : Int) (if u = .check then (tot + s) % f.base else tot)) := by
      simp only [step]
      rw [if_pos (by simp only [List.length_cons]; omega)]
      congr 2
      simp only [List.length_cons]; omega
    have h2 : toldAt f (.body u (((s :: s2 :: bs).length : Nat) : Int) tot) s c = (if u.told then pre ++ [(t, b0 ++ [s])] else c) := by
      simp only [toldAt]
      by_cases ht : u.told = true
      · rw [hc ht]; simp [ht]
      · simp [ht]
    have r := body_run hb u bs s2 (if u = .check then (tot + s) % f.base else tot) (if u.told then pre ++ [(t, b0 ++ [s])] else c) pre t (b0 ++ [s]) (fun ht => by simp [ht])
    have e1 : (if u = .check then ((if u = .check then (tot + s) % f.base else tot) + (s2 :: bs).sum) % f.base else (if u = .check then (tot + s) % f.base else tot)) = (if u = .check then (tot + (s :: s2 :: bs).sum) % f.base else tot) := by
      by_cases hu : u = .check
      · simp only [hu, if_pos, List.sum_cons]
        rw [Int.emod_add_emod]
        congr 1
        omega
      · simp [hu]
    have e2 : (if u.told then pre ++ [(t, (b0 ++ [s]) ++ (s2 :: bs))] else (if u.told then pre ++ [(t, b0 ++ [s])] else c)) = (if u.told then pre ++ [(t, b0 ++ (s :: s2 :: bs))] else c) := by
      by_cases ht : u.told = true <;> simp [ht]
    rw [e1, e2, ← h2] at r
    exact .cons h1 (fun u' a t' e hu => by
      cases e
      rw [hc hu]; simp) r
theorem len_run {f : Fmt} (h : f.Ok) (u : Use) (n : Int) (hn : 0 ≤ n) (hm : n ≤ f.most) (c : Cont) : Run f (.len u) c (lenS f n) (bodyStd u n) c := by
  have hb := h.b2
  have ed : n / f.base * f.base + n % f.base = n := by have := Int.mul_ediv_add_emod n f.base; rw [Int.mul_comm]; exact this
  have hr := Int.emod_nonneg n (show f.base ≠ 0 by omega)
  have hq : 0 ≤ n / f.base := Int.ediv_nonneg hn (by omega)
  have hqb : 0 ≤ n / f.base * f.base := Int.mul_nonneg hq (by omega)
  cases hw : f.width with
  | one =>
    rw [lenS, hw]
    exact Run.one (by simp only [step, hw]; rw [if_pos hm]) (fun _ _ _ e => by cases e)
  | high =>
    rw [lenS, hw]
    refine .cons (st' := .second u (n / f.base)) ?_ (fun _ _ _ e => by cases e) (Run.one ?_ (fun _ _ _ e => by cases e))
    · simp only [step, hw]; rw [if_pos (by omega)]
    · simp only [step, hw, if_pos]; rw [ed, if_pos hm]
  | low =>
    rw [lenS, hw]
    refine .cons (st' := .second u (n % f.base)) ?_ (fun _ _ _ e => by cases e) (Run.one ?_ (fun _ _ _ e => by cases e))
    · simp only [step, hw]; rw [if_pos (by omega)]
    · simp only [step, hw]
      rw [if_neg (show ¬ (Wd.low = Wd.high) by decide), ed, if_pos hm]
theorem chunk_run {f : Fmt} (h : f.Ok) (p : Int × List Int) (u : Use) (hu : use f p.1 = some u) (hc : u.chunk = true) (hm : (p.2.length : Int) ≤ f.most) (c : Cont) : Run f .tag c (chunkS f p) .tag (if u.told then c ++ [p] else c) := by
  obtain ⟨t, b⟩ := p
  simp only at hu hm
  have h1 : step f .tag t = some (.len u) := by
    simp only [step, hu]
    cases u <;> simp [Use.chunk] at hc ⊢
  have h2 : toldAt f .tag t c = if u.told then c ++ [(t, [])] else c := by
    simp only [toldAt, hu, useTold]
  unfold chunkS
  refine .cons h1 (fun _ _ _ e => by cases e) ?_
  rw [h2]
  simp only
  refine (len_run h u _ (by omega) hm _).trans ?_
  have hb : 0 < f.base := by have := h.b2; omega
  cases b with
  | nil =>
    simp only [List.length_nil, List.nil_append, bodyStd, hu]
    by_cases hk : u = .check
    · subst hk
      simp only [if_pos]
      refine Run.one (c := if Use.check.told then c ++ [(t, [])] else c) ?_ (fun _ _ _ e => by cases e)
      simp [step]
    · have e : (if (some u : Option Use) = some .check then [([] : List Int).sum % f.base] else []) = [] := by simp [hk]
      simp [hk]
      exact .nil _ _
  | cons s bs =>
    have e0 : bodyStd u (((s :: bs).length : Nat) : Int) = .body u (((s :: bs).length : Nat) : Int) 0 := by
      simp only [bodyStd]
      rw [if_pos (by simp only [List.length_cons]; omega)]
    rw [e0]
    have r := body_run hb u bs s 0 (if u.told then c ++ [(t, [])] else c) c t [] (fun ht => by simp [ht])
    have e2 : (if u.told then c ++ [(t, [] ++ (s :: bs))] else (if u.told then c ++ [(t, [])] else c)) = (if u.told then c ++ [(t, s :: bs)] else c) := by
      by_cases ht : u.told = true <;> simp [ht]
    rw [e2] at r
    refine r.trans ?_
    by_cases hk : u = .check
    · simp only [hu, hk, if_pos, afterBody]
      refine Run.one (c := if Use.check.told then c ++ [(t, s :: bs)] else c) ?_ (fun _ _ _ e => by cases e)
      simp [step]
    · simp only [hu, afterBody]
      simp [hk]
      exact .nil _ _
/-! ### files -/
structure File where
  hd : List Int
  ps : List (Int × List Int)
  e : List Int
def File.signs (f : Fmt) (F : File) : List Int := F.hd ++ (F.ps.flatMap (chunkS f) ++ F.e)
def ChunkOk (f : Fmt) (p : Int × List Int) : Prop := ∃ u, use f p.1 = some u ∧ u.chunk = true ∧ (p.2.length : Int) ≤ f.most
def EndOk (f : Fmt) (e : List Int) : Prop := (hasEnd f = false ∧ e = []) ∨ (∃ t r, e = t :: r ∧ use f t = some .end_) ∨ ∃ t, e = [t] ∧ use f t = some .stop
structure FileOk (f : Fmt) (F : File) : Prop where
  hl : F.hd.length = f.head.length
  hm : ∀ (i : Nat) (m : Int), f.head[i]? = some (some m) → F.hd[i]? = some m
  ps : ∀ p ∈ F.ps, ChunkOk f p
  e : EndOk f F.e
def content (f : Fmt) (ps : List (Int × List Int)) : Cont := ps.filter fun p => useTold (use f p.1)
theorem head_run {f : Fmt} {c : Cont} : ∀ (hd : List Int) (i : Nat), i < f.head.length → hd.length + i = f.head.length → (∀ (j : Nat) (m : Int), f.head[i + j]? = some (some m) → hd[j]? = some m) → Run f (.head i) c hd .tag c
  | [], i, hi, hl, _ => by simp at hl; omega
  | s :: hd, i, hi, hl, hm => by
    have e0 : f.head[i]? = some f.head[i] := List.getElem?_eq_getElem hi
    have h1 : step f (.head i) s = some (if i + 1 < f.head.length then .head (i + 1) else .tag) := by
      simp only [step, e0]
      cases hq : f.head[i] with
      | none => rfl
      | some m =>
        have := hm 0 m (by rw [Nat.add_zero, e0, hq])
        simp at this
        simp [this]
    by_cases hlt : i + 1 < f.head.length
    · rw [if_pos hlt] at h1
      refine .cons h1 (fun _ _ _ e => by cases e) ?_
      exact head_run hd (i + 1) hlt (by simp only [List.length_cons] at hl; omega) (fun j m e => by
        have := hm (j + 1) m (by rw [show i + (j + 1) = i + 1 + j by omega]; exact e)
        simpa using this)
    · rw [if_neg hlt] at h1
      have : hd = [] := by
        simp only [List.length_cons] at hl
        exact List.length_eq_zero_iff.mp (by omega)
      subst this
      exact Run.one (c := c) h1 (fun _ _ _ e => by cases e)
theorem first_run {f : Fmt} {F : File} (h : FileOk f F) : Run f (first f) [] F.hd .tag [] := by
  unfold first
  by_cases e : f.head = []
  · rw [if_pos e]
    have := h.hl
    rw [e] at this
    rw [List.length_eq_zero_iff.mp this]
    exact .nil _ _
  · rw [if_neg e]
    exact head_run F.hd 0 (List.length_pos_iff.mpr e) (by rw [h.hl]; omega) (fun j m q => h.hm j m (by rwa [Nat.zero_add] at q))
theorem chunks_run {f : Fmt} (h : f.Ok) : ∀ (ps : List (Int × List Int)) (c : Cont), (∀ p ∈ ps, ChunkOk f p) → Run f .tag c (ps.flatMap (chunkS f)) .tag (c ++ content f ps)
  | [], c, _ => by simp [content]; exact .nil _ _
  | p :: ps, c, hp => by
    obtain ⟨u, h1, h2, h3⟩ := hp p (List.mem_cons_self ..)
    have r1 := chunk_run h p u h1 h2 h3 c
    have r2 := chunks_run h ps (if u.told then c ++ [p] else c) (fun q hq => hp q (List.mem_cons_of_mem _ hq))
    rw [List.flatMap_cons]
    have e : (if u.told then c ++ [p] else c) ++ content f ps = c ++ content f (p :: ps) := by
      simp only [content, List.filter_cons, h1, useTold]
      by_cases ht : u.told = true <;> simp [ht]
    rw [← e]
    exact r1.trans r2
theorem room_run {f : Fmt} {c : Cont} : ∀ l : List Int, Run f .room c l .room c
  | [] => .nil _ _
  | s :: l => .cons (st' := .room) rfl (fun _ _ _ e => by cases e) (room_run l)
theorem end_run {f : Fmt} {e : List Int} (h : EndOk f e) (c : Cont) : ∃ st, Run f .tag c e st c ∧ ending f st = true := by
  rcases h with ⟨h1, rfl⟩ | ⟨t, r, rfl, h1⟩ | ⟨t, rfl, h1⟩
  · exact ⟨.tag, .nil _ _, by simp [ending, h1]⟩
  · refine ⟨.room, .cons (st' := .room) (by simp [step, h1]) (fun _ _ _ e => by cases e) ?_, rfl⟩
    have : toldAt f .tag t c = c := by simp [toldAt, h1, useTold, Use.told]
    rw [this]
    exact room_run r
  · refine ⟨.over, ?_, rfl⟩
    have : toldAt f .tag t c = c := by simp [toldAt, h1, useTold, Use.told]
    have r := Run.one (f := f) (st := .tag) (st1 := .over) (c := c) (s := t) (by simp [step, h1]) (fun _ _ _ e => by cases e)
    rwa [this] at r
theorem file_run {f : Fmt} (h : f.Ok) {F : File} (hF : FileOk f F) : ∃ st, Run f (first f) [] (F.signs f) st (content f F.ps) ∧ ending f st = true := by
  obtain ⟨st, r, e⟩ := end_run hF.e (content f F.ps)
  have r2 := chunks_run h F.ps [] hF.ps
  rw [List.nil_append] at r2
  exact ⟨st, (first_run hF).trans (r2.trans r), e⟩
/-! ### what is asked of formats, files, contents -/
theorem all_true {α : Type} (l : List α) : allD [.list (l.map fun _ => .bool true)] = some (.bool true) := by
  rw [all_map l (fun _ => true)]; simp
theorem all_rep (n : Nat) : allD [.list (List.replicate n (.bool true))] = some (.bool true) := by
  have := all_true (List.replicate n ())
  rwa [List.map_replicate] at this
theorem is_word_of_eq (w : Str) (ws : List D) (b : Bool) (h : inD (.str w) (.tuple ws) = some (.bool b)) : S_is_word_of [.str w, .tuple ws] = .ok (.bool b) [] := by
  simp [S_is_word_of, T_is_word_of, runF_eq, rho0, h, subTy]
theorem inUses (u : Use) : inD (.str u.s) (.tuple [.str "keep", .str "check", .str "skip", .str "end", .str "stop"]) = some (.bool true) := by
  unfold inD inB
  have e : okIn (.str u.s) [.str "keep", .str "check", .str "skip", .str "end", .str "stop"] = true := by
    simp [okIn, PyData.canLay0, PyData.canLayAll0, PyData.depth, PyData.depthAll, use_ok]
    exact ⟨by decide +kernel, by decide +kernel, by decide +kernel, by decide +kernel, by decide +kernel⟩
  simp only [itemsD_tuple, e]
  cases u <;> simp [PyData.eqv, Use.s]
theorem inWds (w : Wd) : inD (.str w.s) (.tuple [.str "one", .str "high", .str "low"]) = some (.bool true) := by
  unfold inD inB
  have e : okIn (.str w.s) [.str "one", .str "high", .str "low"] = true := by
    simp [okIn, PyData.canLay0, PyData.canLayAll0, PyData.depth, PyData.depthAll, wd_ok]
    exact ⟨by decide +kernel, by decide +kernel, by decide +kernel⟩
  simp only [itemsD_tuple, e]
  cases w <;> simp [PyData.eqv, Wd.s]
theorem inRest (b : Bool) : inD (.str (if b then "skip" else "refuse")) (.tuple [.str "skip", .str "refuse"]) = some (.bool true) := by
  unfold inD inB
  have e : okIn (.str (if b then "skip" else "refuse")) [.str "skip", .str "refuse"] = true := by
    have e1 : PyData.strOk (Str.ofString "skip") = true := by decide +kernel
    have e2 : PyData.strOk (Str.ofString "refuse") = true := by decide +kernel
    cases b <;> simp [okIn, PyData.canLay0, PyData.canLayAll0, PyData.depth, PyData.depthAll, e1, e2]
  simp only [itemsD_tuple, e]
  cases b <;> simp [PyData.eqv]
theorem is_head_eq {f : Fmt} (h : f.Ok) : S_is_head [.int f.base, .tuple (f.head.map mkD)] = .ok (.bool true) [] := by
  simp only [S_is_head, T_is_head, runF_eq, rho0]
  have hl := h.hl
  have lc := lcT_pure (vs := [2]) (Ti := seqT (varT 1)) (g := setG 2) (tt := yesT) (te := orV (Z.binT isD (varT 2) (cT .none)) (callT [none, none] S_is_sign (consT (varT 0) (consT (varT 2) (nilT)))))
    (ρ := [some (.int f.base), some (.tuple (f.head.map mkD)), none]) (ρ1 := [some (.int f.base), some (.tuple (f.head.map mkD)), none]) f.head mkD (fun _ => true) (fun _ => .bool true) (fun m => [some (.int f.base), some (.tuple (f.head.map mkD)), some (mkD m)])
    (by simp) (fun m hm => by
      cases m with
      | none => simp [wipeR, yesT, mkD]
      | some i =>
        have := h.hd i hm
        simp [wipeR, yesT, mkD, is_sign_int, this]) (by simp; omega)
  rw [fuse] at lc
  simp [lc, subTy, all_true, all_rep]
theorem is_signs_eq (b : Int) (l : List Int) (hl : l.length ≤ 1000000) (h : ∀ s ∈ l, 0 ≤ s ∧ s < b) : S_is_signs [.int b, sgD l] = .ok (.bool true) [] := by
  simp only [S_is_signs, T_is_signs, runF_eq, rho0]
  have lc := lcT_pure (vs := [2]) (Ti := seqT (varT 1)) (g := setG 2) (tt := yesT) (te := callT [none, none] S_is_sign (consT (varT 0) (consT (varT 2) (nilT))))
    (ρ := [some (.int b), some (sgD l), none]) (ρ1 := [some (.int b), some (sgD l), none]) l .int (fun _ => true) (fun _ => .bool true) (fun m => [some (.int b), some (sgD l), some (.int m)])
    (by simp [sgD_items]) (fun m hm => by
      have := h m hm
      simp [wipeR, yesT, is_sign_int, this]) (by simp; omega)
  rw [fuse] at lc
  have e : isiD "tuple" (sgD l) = some (.bool true) := rfl
  simp [lc, e, all_true, all_rep]
theorem tags_loop {f : Fmt} : ∀ (ts : List (Int × Use)) (F : D) (x y : Option D), (∀ t ∈ ts, 0 ≤ t.1 ∧ t.1 < f.base) →
    ∃ x', forT (setG 2) (ifT (orT (notT (isB (isiT "tuple" (varT 2)))) (orT (isB (Z.binT neD (callB lenD (consT (varT 2) (nilT))) (cT (.int 2)))) (orT (notT (isB (callT [none, none] S_is_sign (consT (varT 0) (consT (Z.binT idxD (varT 2) (cT (.int 0))) (nilT)))))) (notT (isB (callT [none, none] S_is_word_of (consT (Z.binT idxD (varT 2) (cT (.int 1))) (consT (cT (.tuple [.str ("keep" : Str), .str ("check" : Str), .str ("skip" : Str), .str ("end" : Str), .str ("stop" : Str)])) (nilT))))))))) (retT (cT (.bool false))) (nxT))
      (ts.map tgD) [some (.int f.base), some F, x, y] = .ok .nx [some (.int f.base), some F, x', y]
  | [], F, x, y, _ => ⟨x, rfl⟩
  | t :: ts, F, x, y, h => by
    obtain ⟨x', e⟩ := tags_loop ts F (some (tgD t)) y (fun q hq => h q (List.mem_cons_of_mem _ hq))
    refine ⟨x', ?_⟩
    have ht := h t (List.mem_cons_self ..)
    rw [List.map_cons, forT_cons]
    have e1 : isiD "tuple" (tgD t) = some (.bool true) := rfl
    have e2 : lenD [tgD t] = some (.int 2) := rfl
    have e3 : idxD (tgD t) (.int 0) = some (.int t.1) := rfl
    have e4 : idxD (tgD t) (.int 1) = some (.str t.2.s) := by simp [tgD]
    simp [e1, e2, e3, e4, is_sign_int, ht, is_word_of_eq _ _ _ (inUses t.2)]
    exact e
theorem zipW_map (ts ss : List (Int × Use)) : zipW (ts.map tgD) (ss.map tgD) = (ts.zip ss).map fun p => .tuple [tgD p.1, tgD p.2] := by
  unfold zipW
  rw [List.zip_map, List.map_map]
  rfl
theorem pw_zip {ts : List (Int × Use)} (h : ts.Pairwise fun a b => a.1 < b.1) : ∀ p ∈ ts.zip (ts.drop 1), p.1.1 < p.2.1 := by
  intro p hp
  obtain ⟨i, hi⟩ := List.mem_iff_getElem?.mp hp
  rw [List.getElem?_zip_eq_some] at hi
  obtain ⟨h1, h2⟩ := hi
  rw [List.getElem?_drop] at h2
  obtain ⟨l1, e1⟩ := List.getElem?_eq_some_iff.mp h1
  obtain ⟨l2, e2⟩ := List.getElem?_eq_some_iff.mp h2
  have := (List.pairwise_iff_getElem.mp h) i (1 + i) l1 l2 (by omega)
  rw [← e1, ← e2]
  exact this
theorem is_tags_eq {f : Fmt} (h : f.Ok) : S_is_tags [.int f.base, .tuple (f.tags.map tgD)] = .ok (.bool true) [] := by
  simp only [S_is_tags, T_is_tags, runF_eq, rho0]
  have hl := h.tl
  obtain ⟨x', e⟩ := tags_loop f.tags (.tuple (f.tags.map tgD)) none none h.tg
  have cut : cutD (f.tags.map tgD) (some 1) none = (f.tags.drop 1).map tgD := by
    unfold cutD
    by_cases hz : f.tags.length = 0
    · rw [List.length_eq_zero_iff.mp hz]; rfl
    · simp only [HT.sIx, List.length_map]
      rw [if_neg (by omega), show min (1 : Int).toNat f.tags.length = 1 by simp; omega, List.take_of_length_le (by simp), List.map_drop]
  have lc := lcT_pure (vs := [2, 3]) (Ti := rngT zipD (consT (varT 1) (consT (slcT (varT 1) (someP (cT (.int 1))) (noP)) (nilT)))) (g := tupG 2 (consG (setG 2) (consG (setG 3) (nilG)))) (tt := yesT) (te := Z.binT ltD (Z.binT idxD (varT 2) (cT (.int 0))) (Z.binT idxD (varT 3) (cT (.int 0))))
    (ρ := [some (.int f.base), some (.tuple (f.tags.map tgD)), x', none]) (ρ1 := [some (.int f.base), some (.tuple (f.tags.map tgD)), x', none]) (f.tags.zip (f.tags.drop 1)) (fun p => .tuple [tgD p.1, tgD p.2]) (fun _ => true) (fun _ => .bool true)
    (fun p => [some (.int f.base), some (.tuple (f.tags.map tgD)), some (tgD p.1), some (tgD p.2)])
    (by
      have e := zipW_map f.tags (f.tags.drop 1)
      simp only [List.drop_one] at e cut
      simp [slcD, cut, zipD]
      rw [← List.map_tail]
      exact e) (fun p hp => by
      have e3 : ∀ t, idxD (tgD t) (.int 0) = some (.int t.1) := fun _ => rfl
      have := pw_zip h.so p hp
      simp [wipeR, yesT, e3, this]) (by simp; omega)
  rw [fuse] at lc
  simp [e, lc, subTy, all_true, all_rep]
theorem is_format_eq {f : Fmt} (h : f.Ok) : S_is_format [f.d] = .ok (.bool true) [] := by
  simp only [S_is_format, T_is_format, runF_eq, rho0]
  have e1 : isiD "tuple" f.d = some (.bool true) := rfl
  have e2 : lenD [f.d] = some (.int 6) := rfl
  have b2 := h.b2
  have b256 := h.b256
  simp only [Fmt.d] at e1 e2 ⊢
  simp [e1, e2, is_at_least_int, h.b2, h.m0, is_head_eq h, is_tags_eq h, is_word_of_eq _ _ _ (inWds f.width), is_word_of_eq _ _ _ (inRest f.rest)]
  exact h.b256
theorem check_format_eq {f : Fmt} (h : f.Ok) : S_check_format [f.d] = .ok .none [] := by
  simp [S_check_format, T_check_format, runF_eq, rho0, is_format_eq h]
def SgOk (f : Fmt) (l : List Int) : Prop := l.length ≤ 1000000 ∧ ∀ s ∈ l, 0 ≤ s ∧ s < f.base
/-! ### contents -/
def longest (f : Fmt) : Int := min f.most (if f.width = .one then f.base - 1 else f.base * f.base - 1)
theorem greatest_length_eq {f : Fmt} (h : f.Ok) : S_greatest_length [f.d] = .ok (.int (longest f)) [] := by
  simp only [S_greatest_length, T_greatest_length, runF_eq, rho0]
  simp [wd_one, h.mul, longest]
  cases f.width <;> simp <;> (rw [Int.min_def]; split <;> split <;> first | rfl | omega | (congr 1; omega))
structure ConOk (f : Fmt) (c : Cont) : Prop where
  n : c.length ≤ 10000
  t : ∀ p ∈ c, (0 ≤ p.1 ∧ p.1 < f.base) ∧ useTold (use f p.1) = true ∧ (p.2.length : Int) ≤ longest f ∧ p.2.length ≤ 1000 ∧ ∀ s ∈ p.2, 0 ≤ s ∧ s < f.base
theorem is_chunk_eq {f : Fmt} (h : f.Ok) (p : Int × List Int) (h1 : 0 ≤ p.1 ∧ p.1 < f.base) (h2 : useTold (use f p.1) = true) (h3 : (p.2.length : Int) ≤ longest f) (h4 : p.2.length ≤ 1000) (h5 : ∀ s ∈ p.2, 0 ≤ s ∧ s < f.base) : S_is_chunk [f.d, chD p] = .ok (.bool true) [] := by
  simp only [S_is_chunk, T_is_chunk, runF_eq, rho0]
  have e1 : isiD "tuple" (chD p) = some (.bool true) := rfl
  have e2 : lenD [chD p] = some (.int 2) := rfl
  have e3 : idxD (chD p) (.int 0) = some (.int p.1) := rfl
  have e4 : idxD (chD p) (.int 1) = some (sgD p.2) := by simp [chD]
  have e5 : notInD (useD (use f p.1)) (.tuple [.str "keep", .str "check"]) = some (.bool false) := by
    have := use_told (use f p.1)
    unfold inD at this
    unfold notInD
    obtain ⟨b, hb, e⟩ := Option.map_eq_some_iff.mp this
    rw [hb]
    cases e
    simp [h2]
  have e6 : lenD [sgD p.2] = some (.int p.2.length) := by simp [sgD]
  simp [e1, e2, e3, e4, is_sign_int, h1, use_at_eq, e5, is_signs_eq f.base p.2 (by omega) h5, e6, greatest_length_eq h, h3]
theorem is_content_of_eq {f : Fmt} (h : f.Ok) {c : Cont} (hc : ConOk f c) : S_is_content_of [f.d, coD c] = .ok (.bool true) [] := by
  simp only [S_is_content_of, T_is_content_of, runF_eq, rho0]
  have hn := hc.n
  have lc := lcT_pure (vs := [2]) (Ti := seqT (varT 1)) (g := setG 2) (tt := yesT) (te := callT [none, none] S_is_chunk (consT (varT 0) (consT (varT 2) (nilT))))
    (ρ := [some f.d, some (coD c), none]) (ρ1 := [some f.d, some (coD c), none]) c chD (fun _ => true) (fun _ => .bool true) (fun m => [some f.d, some (coD c), some (chD m)])
    (by simp [coD]) (fun m hm => by
      obtain ⟨a1, a2, a3, a4, a5⟩ := hc.t m hm
      simp [wipeR, yesT, is_chunk_eq h m a1 a2 a3 a4 a5]) (by simp; omega)
  rw [fuse] at lc
  have e : isiD "tuple" (coD c) = some (.bool true) := rfl
  simp [lc, e, all_true, all_rep]
theorem check_content_eq {f : Fmt} (h : f.Ok) {c : Cont} (hc : ConOk f c) : S_check_content [f.d, coD c] = .ok .none [] := by
  simp [S_check_content, T_check_content, runF_eq, rho0, is_content_of_eq h hc]
theorem lenS_len (f : Fmt) (n : Int) : (lenS f n).length ≤ 2 := by
  unfold lenS
  split <;> simp
theorem sum_list (l : List Int) : sumD [.list (l.map .int)] = some (.int l.sum) := by simp [sumD]
theorem chunk_signs_eq {f : Fmt} (h : f.Ok) (p : Int × List Int) (hp : p.2.length ≤ 1000) : S_chunk_signs [f.d, chD p] = .ok (sgD (chunkS f p)) [] := by
  simp only [S_chunk_signs, T_chunk_signs, runF_eq, rho0]
  have e6 : lenD [sgD p.2] = some (.int p.2.length) := by simp [sgD]
  have hl := lenS_len f p.2.length
  have e7 : eqD (useD (use f p.1)) (.str "check") = some (.bool (decide (use f p.1 = some .check))) := by
    cases use f p.1 with
    | none =>
      have : okCmp .none (.str "check") = true := by
        simp [okCmp, PyData.canLay0, PyData.depth]
        decide +kernel
      simp [eqD, useD, this, PyData.eqv]
    | some u => rw [show useD (some u) = .str u.s from rfl, us_check]; simp
  simp [chD, e6, length_signs_eq h, sgD_items, use_at_eq, e7, sum_list, h.mod]
  rw [if_pos (by omega)]
  by_cases hk : use f p.1 = some .check
  · simp [hk, e7, sum_list, h.mod, sgD, chunkS]
    rw [if_pos (by omega), if_pos (by omega)]
  · simp [hk, e7, sgD, chunkS]
/-! ### what is written -/
def isEnd (t : Int × Use) : Bool := decide (t.2 = .end_ ∨ t.2 = .stop)
def endS (f : Fmt) : List Int := match f.tags.filter isEnd with
  | t :: _ => [t.1]
  | [] => []
def writ (f : Fmt) (c : Cont) : List Int := f.head.map (fun m => m.getD 0) ++ (c.flatMap (chunkS f) ++ endS f)
theorem chunkS_len (f : Fmt) (p : Int × List Int) : (chunkS f p).length ≤ p.2.length + 4 := by
  have := lenS_len f p.2.length
  unfold chunkS
  split <;> simp <;> omega
theorem flat_len (f : Fmt) : ∀ (c : Cont), (∀ p ∈ c, p.2.length ≤ 1000) → (c.flatMap (chunkS f)).length ≤ c.length * 1004
  | [], _ => by simp
  | p :: c, h => by
    have h1 := chunkS_len f p
    have h2 := flat_len f c (fun q hq => h q (List.mem_cons_of_mem _ hq))
    have h3 := h p (List.mem_cons_self ..)
    simp only [List.flatMap_cons, List.length_append, List.length_cons]
    omega
theorem written_loop {f : Fmt} (h : f.Ok) : ∀ (c : Cont) (found : List Int) (F : D) (x a b e g : Option D), (∀ p ∈ c, p.2.length ≤ 1000) → found.length + c.length * 1004 ≤ 16000000 →
    ∃ x', forT (setG 3) (asgT 2 (tupT (starT (varT 2) (starT (callT [none, none] S_chunk_signs (consT (varT 0) (consT (varT 3) (nilT)))) (nilT))))) (c.map chD) [some f.d, some F, some (sgD found), x, a, b, e, g] = .ok .nx [some f.d, some F, some (sgD (found ++ c.flatMap (chunkS f))), x', a, b, e, g]
  | [], found, F, x, a, b, e, g, _, _ => ⟨x, by simp⟩
  | p :: c, found, F, x, a, b, e, g, hc, hl => by
    have h1 := chunkS_len f p
    have h3 := hc p (List.mem_cons_self ..)
    rw [List.length_cons] at hl
    obtain ⟨x', q⟩ := written_loop h c (found ++ chunkS f p) F (some (chD p)) a b e g (fun q hq => hc q (List.mem_cons_of_mem _ hq)) (by simp only [List.length_append]; omega)
    refine ⟨x', ?_⟩
    rw [List.map_cons, forT_cons]
    simp [chunk_signs_eq h p h3, sgD_items]
    rw [if_pos (by omega)]
    have e1 : PyData.tuple (List.map PyData.int found ++ List.map PyData.int (chunkS f p)) = sgD (found ++ chunkS f p) := by simp [sgD]
    rw [e1, q]
    simp
theorem ends_ne (l : List Int) : neD (.list (l.map .int)) (.list []) = some (.bool (!l.isEmpty)) := by
  have h := lay_ints l
  cases l <;> simp [neD, okCmp, PyData.canLay0, PyData.canLayAll0, PyData.depth, PyData.depthAll, PyData.eqv, PyData.eqvAll] at h ⊢
  exact h
theorem written_eq {f : Fmt} (h : f.Ok) {c : Cont} (hn : c.length ≤ 10000) (hc : ∀ p ∈ c, p.2.length ≤ 1000) : S_written [f.d, coD c] = .ok (sgD (writ f c)) [] := by
  simp only [S_written, T_written, runF_eq, rho0]
  have hl := h.hl
  have tl := h.tl
  have lc1 := lcT_pure (vs := [7]) (Ti := seqT (Z.binT idxD (varT 0) (cT (.int 1)))) (g := setG 7) (tt := yesT) (te := ifT (isB (Z.binT isD (varT 7) (cT .none))) (cT (.int 0)) (varT 7))
    (ρ := [some f.d, some (coD c), none, none, none, none, none, none]) (ρ1 := [some f.d, some (coD c), none, none, none, none, none, none]) f.head mkD (fun _ => true) (fun m => .int (m.getD 0)) (fun m => [some f.d, some (coD c), none, none, none, none, none, some (mkD m)])
    (by simp) (fun m hm => by cases m <;> simp [wipeR, yesT, mkD]) (by simp; omega)
  rw [fuse] at lc1
  have e1 : PyData.tuple (f.head.map fun m => PyData.int (m.getD 0)) = sgD (f.head.map fun m => m.getD 0) := by simp [sgD]
  obtain ⟨x', q⟩ := written_loop h c (f.head.map fun m => m.getD 0) (coD c) none none none none none hc (by simp; omega)
  have lc2 := lcT_pure (vs := [5, 6]) (Ti := seqT (Z.binT idxD (varT 0) (cT (.int 4)))) (g := tupG 2 (consG (setG 5) (consG (setG 6) (nilG)))) (tt := isB (Z.binT inD (varT 6) (tupT (consT (cT (.str ("end" : Str))) (consT (cT (.str ("stop" : Str))) (nilT)))))) (te := varT 5)
    (ρ := [some f.d, some (coD c), some (sgD ((f.head.map fun m => m.getD 0) ++ c.flatMap (chunkS f))), x', none, none, none, none]) (ρ1 := [some f.d, some (coD c), some (sgD ((f.head.map fun m => m.getD 0) ++ c.flatMap (chunkS f))), x', none, none, none, none])
    f.tags tgD isEnd (fun t => .int t.1) (fun t => [some f.d, some (coD c), some (sgD ((f.head.map fun m => m.getD 0) ++ c.flatMap (chunkS f))), x', none, some (.int t.1), some (.str t.2.s), none])
    (by simp) (fun t _ => by simp [tgD, wipeR, inEnd, isEnd]) (by simp; omega)
  have fl := flat_len f c hc
  have e2 : (f.tags.filter isEnd).map (fun t => PyData.int t.1) = ((f.tags.filter isEnd).map (·.1)).map .int := by simp
  rw [e2] at lc2
  simp [lc1, e1]
  simp [coD] at q lc2 ⊢
  simp [q, lc2]
  have ne := ends_ne ((f.tags.filter isEnd).map (·.1))
  simp at ne
  simp [ne, sgD_items]
  unfold writ endS
  cases hz : f.tags.filter isEnd with
  | nil => simp [hz]
  | cons t r =>
    simp [hz, sgD]
    simp only [List.length_flatMap] at fl
    omega
theorem write_eq {f : Fmt} (h : f.Ok) {c : Cont} (hc : ConOk f c) : S_write [f.d, coD c] = .ok (sgD (writ f c)) [] := by
  simp [S_write, T_write, runF_eq, rho0, check_format_eq h, check_content_eq h hc, written_eq h hc.n (fun p hp => (hc.t p hp).2.2.2.1)]
/-! ### draws -/
def Bag (n : Nat) (d : D) : Prop := ∃ a m k : Int, d = .list [.int a, .int m, .int k] ∧ 0 ≤ m ∧ m < 10 ^ 42 ∧ 0 ≤ k ∧ k ≤ n
theorem Bag.mono {n m : Nat} {d : D} (h : Bag n d) (l : n ≤ m) : Bag m d := by
  obtain ⟨a, b, k, e, h1, h2, h3, h4⟩ := h
  exact ⟨a, b, k, e, h1, h2, h3, by omega⟩
theorem pow_small (x j : Int) (h : x.natAbs < 2 ^ 1000) (h0 : 0 ≤ j) (h1 : j ≤ 100) : powOk x j = true := by
  unfold powOk
  refine decide_eq_true ⟨h0, ?_⟩
  have hb : Builtin.Int.intBits x ≤ 1000 := by
    unfold Builtin.Int.intBits
    split
    · omega
    · rename_i hz
      have hz' : x.natAbs ≠ 0 := by simpa using hz
      have := (Nat.log2_lt hz').mpr h
      omega
  have : (Builtin.Int.intBits x : Int) * j ≤ 1000 * 100 := by
    have h2 : (Builtin.Int.intBits x : Int) ≤ 1000 := by exact_mod_cast hb
    calc (Builtin.Int.intBits x : Int) * j ≤ 1000 * j := Int.mul_le_mul_of_nonneg_right h2 h0
      _ ≤ 1000 * 100 := Int.mul_le_mul_of_nonneg_left h1 (by decide)
  exact Int.le_trans this (by decide)
theorem mul_smallL (a b : Int) (h : -(2 ^ 64) < a) (h' : a < 2 ^ 64) : mulOk a b = true := by
  unfold mulOk
  exact decide_eq_true (.inl ⟨h, h'⟩)
theorem div_small (a b : Int) (h : 0 < b) (h' : b ≤ 1000000) : divOk a b = true := by
  unfold divOk
  refine decide_eq_true ⟨h, ?_⟩
  have hn : b.natAbs ≠ 0 := by omega
  have : b.natAbs < 2 ^ 20 := by omega
  have := (Nat.log2_lt hn).mpr this
  omega
@[simp] theorem ixN0 (n : Nat) : ixN (n + 1) 0 = some 0 := by
  unfold ixN
  rw [if_pos (by decide), if_pos (by omega)]
  rfl
@[simp] theorem ixN2 (n : Nat) : ixN (n + 3) 2 = some 2 := by
  unfold ixN
  rw [if_pos (by decide), if_pos (by omega)]
  rfl
theorem p38 : powD (.int 10) (.int 38) = some (.int (10 ^ 38)) := powD_int _ _ (pow_small _ _ (by decide) (by decide) (by decide))
theorem p39 : powD (.int 10) (.int 39) = some (.int (10 ^ 39)) := powD_int _ _ (pow_small _ _ (by decide) (by decide) (by decide))
theorem p37 : powD (.int 10) (.int 37) = some (.int (10 ^ 37)) := powD_int _ _ (pow_small _ _ (by decide) (by decide) (by decide))
theorem p18 : powD (.int 10) (.int 18) = some (.int (10 ^ 18)) := powD_int _ _ (pow_small _ _ (by decide) (by decide) (by decide))
theorem grab_eq {n : Nat} {d : D} (hB : Bag n d) (hn : n ≤ 1000000000000) (b : Int) (h0 : 0 < b) (h1 : b ≤ 1000000) : ∃ v d', S__law_grab [d, .int b] = .ok (.int v) [d'] ∧ 0 ≤ v ∧ v < b ∧ Bag (n + 1) d' := by
  obtain ⟨a, m, k, rfl, hm0, hm1, hk0, hk1⟩ := hB
  by_cases ha : 0 < a
  · refine ⟨a % b, .list [.int (a / b), .int m, .int k], ?_, Int.emod_nonneg _ (by omega), Int.emod_lt_of_pos _ h0, ⟨_, _, _, rfl, hm0, hm1, hk0, by omega⟩⟩
    simp [S__law_grab, T__law_grab, runF_eq, rho0, ha, modD_int _ _ h0, fdivD_int _ _ (div_small a b h0 h1)]
  · have q1 : mulD (.int 90019) (.int (k + 1)) = some (.int (90019 * (k + 1))) := mulD_int _ _ (mul_smallL _ _ (by decide) (by decide))
    have q2 : mulD (.int 1900037) (.int (k + 1)) = some (.int (1900037 * (k + 1))) := mulD_int _ _ (mul_smallL _ _ (by decide) (by decide))
    have q3 : powD (.int (m + 90019 * (k + 1))) (.int 2) = some (.int ((m + 90019 * (k + 1)) ^ 2)) := powD_int _ _ (pow_small _ _ (by omega) (by decide) (by decide))
    have q4 : ∀ x, modD (.int x) (.int (10 ^ 38 + 271)) = some (.int (x % (10 ^ 38 + 271))) := fun x => modD_int _ _ (by decide)
    have q5 : ∀ x, modD (.int x) (.int (10 ^ 39 + 331)) = some (.int (x % (10 ^ 39 + 331))) := fun x => modD_int _ _ (by decide)
    have q6 : ∀ x : Int, powD (.int (x % (10 ^ 38 + 271) + 1900037 * (k + 1))) (.int 3) = some (.int ((x % (10 ^ 38 + 271) + 1900037 * (k + 1)) ^ 3)) := fun x => powD_int _ _ (pow_small _ _ (by
      have h1 := Int.emod_nonneg x (show (10 ^ 38 + 271 : Int) ≠ 0 by decide)
      have h2 := Int.emod_lt_of_pos x (show (0 : Int) < 10 ^ 38 + 271 by decide)
      omega) (by decide) (by decide))
    have q7 : ∀ x, fdivD (.int x) (.int 8192) = some (.int (x / 8192)) := fun x => fdivD_int _ _ (div_small _ _ (by decide) (by decide))
    refine ⟨(((m + 90019 * (k + 1)) ^ 2 % (10 ^ 38 + 271) + 1900037 * (k + 1)) ^ 3 % (10 ^ 39 + 331)) / 8192 % b, .list [.int a, .int m, .int (k + 1)], ?_, Int.emod_nonneg _ (by omega), Int.emod_lt_of_pos _ h0, ⟨_, _, _, rfl, hm0, hm1, by omega, by omega⟩⟩
    simp only [Int.reducePow, Int.reduceAdd] at q4 q5 q6 ⊢
    simp [S__law_grab, T__law_grab, runF_eq, rho0, ha, p38, p39, q1, q2, q3, q4, q5, q6, q7, modD_int _ _ h0]
theorem bag_eq (ns : List Int) (i : Int) (h0 : 0 ≤ i) (h1 : i ≤ 100) : ∃ d, S__law_bag [.list (ns.map .int), .int i] = .ok d [] ∧ Bag 0 d := by
  have q1 : ∀ x, modD (.int x) (.int (10 ^ 37 + 163)) = some (.int (x % (10 ^ 37 + 163))) := fun x => modD_int _ _ (by decide)
  have q2 : ∀ x, mulD (.int x) (.int 89) = some (.int (x * 89)) := fun x => mulD_int _ _ (by unfold mulOk; exact decide_eq_true (.inr ⟨by decide, by decide⟩))
  have q3 : mulD (.int 71) (.int i) = some (.int (71 * i)) := mulD_int _ _ (mul_smallL _ _ (by decide) (by decide))
  have fin : ∀ cell : Int, ∃ d, Bag 0 d ∧ ∃ a : Int, d = .list [.int a, .int ((cell % (10 ^ 37 + 163)) * 89 + 71 * i + 53), .int 0] ∧ a = (if (if cell < 0 then -cell else cell) - 10 ^ 18 > 0 then (if cell < 0 then -cell else cell) - 10 ^ 18 else 0) := fun cell => by
    have hr0 := Int.emod_nonneg cell (show (10 ^ 37 + 163 : Int) ≠ 0 by decide)
    have hr1 := Int.emod_lt_of_pos cell (show (0 : Int) < 10 ^ 37 + 163 by decide)
    exact ⟨_, ⟨_, _, 0, rfl, by omega, by omega, by decide, by decide⟩, _, rfl, rfl⟩
  simp only [Int.reducePow, Int.reduceAdd] at q1 fin
  simp only [S__law_bag, T__law_bag, runF_eq, rho0]
  by_cases hl : i < ns.length
  · have e : atI (ns.map PyData.int) i = some (.int (ns[i.toNat]'(by omega))) := by
      have := Z.atI_nat (ns.map PyData.int) i.toNat
      rw [show ((i.toNat : Nat) : Int) = i by omega] at this
      rw [this, List.getElem?_map, List.getElem?_eq_getElem (by omega)]
      rfl
    obtain ⟨d, hb, x, hd, hx⟩ := fin (ns[i.toNat]'(by omega))
    refine ⟨d, ?_, hb⟩
    subst hd hx
    simp [hl, e, p18, p37, q1, q2, q3]
  · obtain ⟨d, hb, x, hd, hx⟩ := fin 0
    refine ⟨d, ?_, hb⟩
    subst hd hx
    simp [hl, p18, p37, q1, q2, q3]
def kinds : List D := [.str "keep", .str "check", .str "skip", .str "end", .str "stop", .str "keep", .str "skip"]
theorem kind_at (v : Int) (h0 : 0 ≤ v) (h1 : v < 7) : ∃ u : Use, atI kinds v = some (.str u.s) := by
  have : v = 0 ∨ v = 1 ∨ v = 2 ∨ v = 3 ∨ v = 4 ∨ v = 5 ∨ v = 6 := by omega
  rcases this with rfl | rfl | rfl | rfl | rfl | rfl | rfl
  · exact ⟨.keep, rfl⟩
  · exact ⟨.check, rfl⟩
  · exact ⟨.skip, rfl⟩
  · exact ⟨.end_, rfl⟩
  · exact ⟨.stop, rfl⟩
  · exact ⟨.keep, rfl⟩
  · exact ⟨.skip, rfl⟩
/-- tags that are drawn -/
def TgOk (base : Int) (ts : List (Int × Use)) : Prop := (∀ t ∈ ts, 0 ≤ t.1 ∧ t.1 < base) ∧ (ts.Pairwise fun a b => a.1 < b.1) ∧ ts.length ≤ 1000
structure TagsI (n : Nat) (base many : Int) (rest : List Nat) (bag : D) (ts : List (Int × Use)) : Prop where
  b : ∃ m, Bag m bag ∧ m + 2 * rest.length ≤ n + 600
  t : ∀ t ∈ ts, (0 ≤ t.1 ∧ t.1 < base) ∧ ∀ s ∈ rest, t.1 < (s : Int)
  p : ts.Pairwise fun a b => a.1 < b.1
  r : rest.Pairwise (· < ·)
  s : ∀ s ∈ rest, (s : Int) < base
  l : ts.length + rest.length ≤ 300
theorem TagsI.next {n : Nat} {base many : Int} {s : Nat} {rest : List Nat} {bag bag' : D} {ts : List (Int × Use)} (h : TagsI n base many (s :: rest) bag ts) (hb : ∃ m, Bag m bag' ∧ m + 2 * rest.length ≤ n + 600) : TagsI n base many rest bag' ts where
  b := hb
  t := fun t ht => ⟨(h.t t ht).1, fun q hq => (h.t t ht).2 q (List.mem_cons_of_mem _ hq)⟩
  p := h.p
  r := (List.pairwise_cons.mp h.r).2
  s := fun q hq => h.s q (List.mem_cons_of_mem _ hq)
  l := by have := h.l; rw [List.length_cons] at this; omega
theorem TagsI.add {n : Nat} {base many : Int} {s : Nat} {rest : List Nat} {bag bag' : D} {ts : List (Int × Use)} (h : TagsI n base many (s :: rest) bag ts) (hb : ∃ m, Bag m bag' ∧ m + 2 * rest.length ≤ n + 600) (u : Use) : TagsI n base many rest bag' (ts ++ [((s : Int), u)]) where
  b := (h.next hb).b
  t := fun t ht => by
    rcases List.mem_append.mp ht with ht | ht
    · exact (h.next hb).t t ht
    · rw [List.mem_singleton.mp ht]
      exact ⟨⟨by simp, h.s s (List.mem_cons_self ..)⟩, fun q hq => by have := (List.pairwise_cons.mp h.r).1 q hq; simp; omega⟩
  p := by
    refine List.pairwise_append.mpr ⟨h.p, List.pairwise_singleton .., fun a ha b hb => ?_⟩
    rw [List.mem_singleton.mp hb]
    exact (h.t a ha).2 s (List.mem_cons_self ..)
  r := (h.next hb).r
  s := (h.next hb).s
  l := by have := h.l; rw [List.length_cons] at this; simp; omega
theorem rng_nat (n : Int) (h0 : 0 ≤ n) (h : n ≤ 1000000) : rng1D [.int n] = some ((List.range n.toNat).map fun i : Nat => PyData.int (i : Int)) := by
  unfold rng1D rng
  have : okR 0 n = true := by unfold okR; exact decide_eq_true ⟨by decide, by omega⟩
  simp [this]
theorem drawn_tags_eq {n : Nat} {d : D} (hB : Bag n d) (hn : n + 1000 ≤ 1000000000000) (base many : Int) (h0 : 2 ≤ base) (h1 : base ≤ 256) :
    ∃ ts d', S__law_drawn_tags [d, .int base, .int many] = .ok (.tuple (ts.map tgD)) [d'] ∧ TgOk base ts ∧ Bag (n + 1000) d' := by
  simp only [S__law_drawn_tags, T__law_drawn_tags, runF_eq, rho0]
  have hloop := forT_inv (g := setG 5) (tb := ifT (andT (isB (Z.binT ltD (callO 4 lenD) (varT 2))) (isB (Z.binT ltD (callT [some 0, none] S__law_grab (ownT 0 (consT (varT 1) (nilT)))) (varT 2)))) (appT 4 (tupT (consT (varT 5) (consT (Z.binT idxD (varT 3) (callT [some 0, none] S__law_grab (ownT 0 (consT (cT (.int 7)) (nilT))))) (nilT))))) (nxT))
    (fun i : Nat => PyData.int (i : Int))
    (fun (rest : List Nat) (ρ : Rho) => ∃ bag ts x, ρ = [some bag, some (.int base), some (.int many), some (.list kinds), some (.list (ts.map tgD)), x] ∧ TagsI n base many rest bag ts)
    (fun _ => False) (fun _ _ => False) (by
      rintro s rest ρ ⟨bag, ts, x, rfl, hI⟩
      refine ⟨_, rfl, .inl ?_⟩
      obtain ⟨m, hb, hm⟩ := hI.b
      rw [List.length_cons] at hm
      have hl := hI.l
      rw [List.length_cons] at hl
      obtain ⟨v, bag1, e1, hv0, hv1, hb1⟩ := grab_eq hb (by omega) base (by omega) (by omega)
      by_cases c1 : (ts.length : Int) < many
      · by_cases c2 : v < many
        · obtain ⟨v2, bag2, e2, hw0, hw1, hb2⟩ := grab_eq hb1 (by omega) 7 (by decide) (by decide)
          obtain ⟨u, hu⟩ := kind_at v2 hw0 hw1
          refine ⟨[some bag2, some (.int base), some (.int many), some (.list kinds), some (.list ((ts ++ [((s : Int), u)]).map tgD)), some (.int (s : Int))], .inl ?_, bag2, _, _, rfl, ?_⟩
          · simp [c1, c2, e1, e2, hu, tgD]
            rw [sizeLine_eq]; omega
          · exact hI.add ⟨m + 2, hb2, by omega⟩ u
        · exact ⟨[some bag1, some (.int base), some (.int many), some (.list kinds), some (.list (ts.map tgD)), some (.int (s : Int))], .inl (by simp [c1, c2, e1]), bag1, _, _, rfl, hI.next ⟨m + 1, hb1, by omega⟩⟩
      · exact ⟨[some bag, some (.int base), some (.int many), some (.list kinds), some (.list (ts.map tgD)), some (.int (s : Int))], .inl (by simp [c1]), bag, _, _, rfl, hI.next ⟨m, hb, by omega⟩⟩)
    (List.range base.toNat) [some d, some (.int base), some (.int many), some (.list kinds), some (.list []), none]
    ⟨d, [], none, rfl, ⟨n, hB, by simp; omega⟩, (fun t h => by cases h), List.Pairwise.nil, List.pairwise_lt_range, (fun s hs => by have := List.mem_range.mp hs; omega), by simp; omega⟩
  rcases hloop with ⟨ρ', e, hI | hF⟩ | ⟨_, _, _, hF⟩
  · obtain ⟨bag, ts, x, rfl, hI⟩ := hI
    obtain ⟨m, hb, hm⟩ := hI.b
    have hl := hI.l
    simp at hm hl
    refine ⟨ts, bag, ?_, ⟨fun t h => (hI.t t h).1, hI.p, by omega⟩, hb.mono (by omega)⟩
    have ek : kinds = [.str "keep", .str "check", .str "skip", .str "end", .str "stop", .str "keep", .str "skip"] := rfl
    rw [ek] at e
    have er := rng_nat base (by omega) (by omega)
    simp [er, e]
  · exact hF.elim
  · exact hF.elim
theorem lcT_run {vs : List Nat} {Ti : Rho → Out Rho (List D)} {g : D → Rho → Option Rho} {tt : Rho → Out Rho Bool} {te : Rho → Out Rho D} {ρ ρ1 ρ2 : Rho} {ds l : List D} (hi : Ti ρ = .ok ds ρ1) (e : lcLoop vs g tt te ds [] ρ1 = .ok l ρ2) : lcT vs Ti g tt te ρ = .ok (.list l) (putBack ρ1 ρ2 vs) := by
  unfold lcT
  rw [hi, bind_ok, e, bindN_ok]
def HdOk (base : Int) (hs : List (Option Int)) : Prop := ∀ i, some i ∈ hs → 0 ≤ i ∧ i < base
theorem head_draw {n : Nat} {d : D} (hB : Bag n d) (base : Int) (h0 : 2 ≤ base) (h1 : base ≤ 256) (mm : Int) (hm0 : 0 ≤ mm) (hm1 : mm ≤ 100) (hn : n + 200 ≤ 1000000000000) (a b c : D) :
    ∃ hs d' k, lcLoop [10] (setG 10) yesT (ifT (isB (Z.binT eqD (callT [some 0, none] S__law_grab (ownT 0 (consT (cT (.int 3)) (nilT)))) (cT (.int 0)))) (cT .none) (callT [some 0, none] S__law_grab (ownT 0 (consT (varT 1) (nilT))))) ((List.range mm.toNat).map fun i : Nat => PyData.int (i : Int)) []
      [some d, some (.int base), some a, some b, some c, some (.int mm), none, none, none, none, none] = .ok (hs.map mkD) [some d', some (.int base), some a, some b, some c, some (.int mm), none, none, none, none, k] ∧ Bag (n + 200) d' ∧ HdOk base hs ∧ hs.length ≤ 100 := by
  obtain ⟨l, ρ', e, bag, k, hs, rfl, rfl, ⟨m, hb, hm⟩, ho, hl⟩ := lcLoop_inv (vs := [10]) (g := setG 10) (tt := yesT) (te := ifT (isB (Z.binT eqD (callT [some 0, none] S__law_grab (ownT 0 (consT (cT (.int 3)) (nilT)))) (cT (.int 0)))) (cT .none) (callT [some 0, none] S__law_grab (ownT 0 (consT (varT 1) (nilT)))))
    (fun i : Nat => PyData.int (i : Int))
    (fun rest acc ρ => ∃ bag k hs, ρ = [some bag, some (.int base), some a, some b, some c, some (.int mm), none, none, none, none, k] ∧ acc = hs.map mkD ∧ (∃ m, Bag m bag ∧ m + 2 * rest.length ≤ n + 200) ∧ HdOk base hs ∧ hs.length + rest.length ≤ 100)
    (by
      rintro s rest acc ρ ⟨bag, k, hs, rfl, rfl, ⟨m, hb, hm⟩, ho, hl⟩
      rw [List.length_cons] at hm hl
      obtain ⟨v, bag1, e1, hv0, hv1, hb1⟩ := grab_eq hb (by omega) 3 (by decide) (by decide)
      obtain ⟨v2, bag2, e2, hw0, hw1, hb2⟩ := grab_eq hb1 (by omega) base (by omega) (by omega)
      refine ⟨[some bag, some (.int base), some a, some b, some c, some (.int mm), none, none, none, none, some (.int (s : Int))], by simp [wipeR], true, [some bag, some (.int base), some a, some b, some c, some (.int mm), none, none, none, none, some (.int (s : Int))], by simp [yesT], fun _ => ?_, fun h => by cases h⟩
      by_cases hz : v = 0
      · refine ⟨.none, [some bag1, some (.int base), some a, some b, some c, some (.int mm), none, none, none, none, some (.int (s : Int))], by simp [e1, hz], by simp only [List.length_map]; rw [sizeLine_eq]; omega, bag1, _, hs ++ [none], rfl, by simp [mkD], ⟨m + 1, hb1, by omega⟩, fun i hi => ?_, by simp; omega⟩
        rcases List.mem_append.mp hi with hi | hi
        · exact ho i hi
        · simp at hi
      · refine ⟨.int v2, [some bag2, some (.int base), some a, some b, some c, some (.int mm), none, none, none, none, some (.int (s : Int))], by simp [e1, hz, e2], by simp only [List.length_map]; rw [sizeLine_eq]; omega, bag2, _, hs ++ [some v2], rfl, by simp [mkD], ⟨m + 2, hb2, by omega⟩, fun i hi => ?_, by simp; omega⟩
        rcases List.mem_append.mp hi with hi | hi
        · exact ho i hi
        · simp at hi; subst hi; exact ⟨hw0, hw1⟩)
    (List.range mm.toNat) [] [some d, some (.int base), some a, some b, some c, some (.int mm), none, none, none, none, none]
    ⟨d, none, [], rfl, rfl, ⟨n, hB, by simp; omega⟩, fun i hi => by simp at hi, by simp; omega⟩
  exact ⟨hs, bag, k, e, hb.mono (by simp at hm; omega), ho, by simp at hl; omega⟩
theorem wide_at (v : Int) (h0 : 0 ≤ v) (h1 : v < 4) : ∃ w : Wd, atI [PyData.str "one", .str "one", .str "high", .str "low"] v = some (.str w.s) := by
  have : v = 0 ∨ v = 1 ∨ v = 2 ∨ v = 3 := by omega
  rcases this with rfl | rfl | rfl | rfl
  · exact ⟨.one, rfl⟩
  · exact ⟨.one, rfl⟩
  · exact ⟨.high, rfl⟩
  · exact ⟨.low, rfl⟩
theorem rest_at (v : Int) (h0 : 0 ≤ v) (h1 : v < 2) : ∃ b : Bool, atI [PyData.str "skip", .str "refuse"] v = some (.str (if b then "skip" else "refuse")) := by
  have : v = 0 ∨ v = 1 := by omega
  rcases this with rfl | rfl
  · exact ⟨true, rfl⟩
  · exact ⟨false, rfl⟩
theorem drawn_form_eq {n : Nat} {d : D} (hB : Bag n d) (hn : n + 3000 ≤ 1000000000000) (base marks most many : Int) (h0 : 2 ≤ base) (h1 : base ≤ 256) (hk0 : 0 ≤ marks) (hk1 : marks ≤ 50) (hm0 : 0 ≤ most) (hm1 : most ≤ 100000) (hy0 : 0 ≤ many) (hy1 : many ≤ 1000) :
    ∃ f d', S__law_drawn_form [d, .int base, .int marks, .int most, .int many] = .ok (Fmt.d f) [d'] ∧ f.Ok ∧ f.most ≤ most ∧ f.head.length ≤ 100 ∧ Bag (n + 3000) d' := by
  simp only [S__law_drawn_form, T__law_drawn_form, runF_eq, rho0]
  obtain ⟨mm, d1, e1, a0, a1, b1⟩ := grab_eq hB (by omega) (marks + 1) (by omega) (by omega)
  obtain ⟨hs, d2, k, e2, b2, ho, hl⟩ := head_draw b1 base h0 h1 mm (by omega) (by omega) (by omega) (.int marks) (.int most) (.int many)
  obtain ⟨v3, d3, e3, c0, c1, b3⟩ := grab_eq b2 (by omega) 4 (by decide) (by decide)
  obtain ⟨w, ew⟩ := wide_at v3 c0 c1
  obtain ⟨top, d4, e4, t0, t1, b4⟩ := grab_eq b3 (by omega) (most + 1) (by omega) (by omega)
  obtain ⟨mt, d5, e5, u0, u1, b5⟩ := grab_eq b4 (by omega) (many + 1) (by omega) (by omega)
  obtain ⟨ts, d6, e6, ht, b6⟩ := drawn_tags_eq b5 (by omega) base mt h0 h1
  obtain ⟨v7, d7, e7, x0, x1, b7⟩ := grab_eq b6 (by omega) 2 (by decide) (by decide)
  obtain ⟨r, er⟩ := rest_at v7 x0 x1
  have rg := rng_nat mm (by omega) (by omega)
  have lc := lcT_run (vs := [10]) (Ti := rngT rng1D (consT (varT 5) (nilT))) (ρ := [some d1, some (.int base), some (.int marks), some (.int most), some (.int many), some (.int mm), none, none, none, none, none]) (by simp [rg]) e2
  refine ⟨⟨base, hs, w, top, ts, r⟩, d7, ?_, ⟨h0, h1, ho, by simp; omega, t0, ht.1, ht.2.1, ht.2.2⟩, by simp; omega, hl, b7.mono (by omega)⟩
  simp [e1, lc, putBack, e3, ew, e4, e5, e6, e7, er, Fmt.d]
theorem use_mem {f : Fmt} (h : f.Ok) {t : Int × Use} (ht : t ∈ f.tags) : use f t.1 = some t.2 := by
  unfold use
  have : ∀ ts : List (Int × Use), (ts.Pairwise fun a b => a.1 < b.1) → t ∈ ts → ts.find? (fun x => decide (x.1 = t.1)) = some t := by
    intro ts
    induction ts with
    | nil => intro _ h; cases h
    | cons a ts ih =>
      intro hp hm
      rw [List.find?_cons]
      rcases List.mem_cons.mp hm with rfl | hm
      · simp
      · have := (List.pairwise_cons.mp hp).1 t hm
        rw [decide_eq_false (by omega)]
        exact ih (List.pairwise_cons.mp hp).2 hm
  rw [this f.tags h.so ht]
theorem longest_nonneg {f : Fmt} (h : f.Ok) : 0 ≤ longest f := by
  have := h.b2
  have := h.m0
  unfold longest
  have : 2 * 2 ≤ f.base * f.base := Int.mul_le_mul (by omega) (by omega) (by decide) (by omega)
  split <;> omega
theorem body_draw {f : Fmt} (h : f.Ok) {n : Nat} {d : D} (hB : Bag n d) (size : Int) (hs0 : 0 ≤ size) (hs1 : size ≤ 1000) (hn : n + 1000 ≤ 1000000000000) (a b c e g i j k : Option D) :
    ∃ (l : List Int) (d' : D) (x : Option D), lcLoop [11] (setG 11) yesT (callT [some 0, none] S__law_grab (ownT 0 (consT (Z.binT idxD (varT 1) (cT (.int 0))) (nilT)))) ((List.range size.toNat).map fun i : Nat => PyData.int (i : Int)) []
      [some d, some f.d, a, b, c, e, g, i, j, k, none, none] = .ok (l.map .int) [some d', some f.d, a, b, c, e, g, i, j, k, none, x] ∧ Bag (n + size.toNat) d' ∧ (∀ s ∈ l, 0 ≤ s ∧ s < f.base) ∧ l.length = size.toNat := by
  have hb2 := h.b2
  have hb3 := h.b256
  obtain ⟨l, ρ', er, bag, x, xs, rfl, rfl, ⟨m, hb, hm⟩, ho, hl⟩ := lcLoop_inv (vs := [11]) (g := setG 11) (tt := yesT) (te := callT [some 0, none] S__law_grab (ownT 0 (consT (Z.binT idxD (varT 1) (cT (.int 0))) (nilT))))
    (fun i : Nat => PyData.int (i : Int))
    (fun rest acc ρ => ∃ bag x xs, ρ = [some bag, some f.d, a, b, c, e, g, i, j, k, none, x] ∧ acc = xs.map .int ∧ (∃ m, Bag m bag ∧ m + rest.length ≤ n + size.toNat) ∧ (∀ s ∈ xs, 0 ≤ s ∧ s < f.base) ∧ xs.length + rest.length = size.toNat)
    (by
      rintro s rest acc ρ ⟨bag, x, xs, rfl, rfl, ⟨m, hb, hm⟩, ho, hl⟩
      rw [List.length_cons] at hm hl
      obtain ⟨v, bag1, e1, hv0, hv1, hb1⟩ := grab_eq hb (by omega) f.base (by omega) (by omega)
      refine ⟨[some bag, some f.d, a, b, c, e, g, i, j, k, none, some (.int (s : Int))], by simp [wipeR], true, [some bag, some f.d, a, b, c, e, g, i, j, k, none, some (.int (s : Int))], by simp [yesT], fun _ => ?_, fun h => by cases h⟩
      refine ⟨.int v, [some bag1, some f.d, a, b, c, e, g, i, j, k, none, some (.int (s : Int))], by simp [e1], by simp only [List.length_map]; rw [sizeLine_eq]; omega, bag1, _, xs ++ [v], rfl, by simp, ⟨m + 1, hb1, by omega⟩, fun q hq => ?_, by simp; omega⟩
      rcases List.mem_append.mp hq with hq | hq
      · exact ho q hq
      · rw [List.mem_singleton.mp hq]; exact ⟨hv0, hv1⟩)
    (List.range size.toNat) [] [some d, some f.d, a, b, c, e, g, i, j, k, none, none]
    ⟨d, none, [], rfl, rfl, ⟨n, hB, by simp⟩, (fun q hq => by cases hq), by simp⟩
  exact ⟨xs, bag, x, er, hb.mono (by simp at hm; omega), ho, by simpa using hl⟩
theorem lists_ne (l : List D) (h : PyData.canLayAll0 l = true) : neD (.list l) (.list []) = some (.bool (!l.isEmpty)) := by
  cases l <;> simp [neD, okCmp, PyData.canLay0, PyData.canLayAll0, PyData.depth, PyData.depthAll, PyData.eqv, PyData.eqvAll] at h ⊢
  exact h
theorem lay_tg : ∀ l : List (Int × Use), PyData.canLayAll0 (l.map tgD) = true
  | [] => rfl
  | t :: l => by simp [PyData.canLayAll0, PyData.canLay0, tgD, use_ok, lay_tg l]
def isTold (t : Int × Use) : Bool := decide (t.2 = .keep ∨ t.2 = .check)
theorem eq_nil : eqD (.list []) (.list []) = some (.bool true) := by simp [eqD, okCmp, PyData.canLay0, PyData.canLayAll0, PyData.depth, PyData.depthAll, PyData.eqv, PyData.eqvAll]
theorem rngT_len {i : Nat} {y : D} {n : Int} {l : List D} {ρ : Rho} (hρ : getS i ρ = some y) (hy : lenD [y] = some (.int n)) (rg : rng1D [.int n] = some l) : rngT rng1D (consT (callB lenD (consT (varT i) (nilT))) (nilT)) ρ = .ok l ρ := by
  simp [hρ, hy, rg]
/-! ### a live reader -/
@[simp] theorem getF_eq (f : Str) (g : Str) (d : D) (r : List (D × D)) : getF f ((.str g, d) :: r) = if g = f then some d else getF f r := rfl
@[simp] theorem putD_nil (f : Str) (d : D) : putD f d [] = [(.str f, d)] := rfl
@[simp] theorem putD_eq (f : Str) (d : D) (g : Str) (e : D) (r : List (D × D)) : putD f d ((.str g, e) :: r) = if g = f then (.str g, d) :: r else (.str g, e) :: putD f d r := rfl
@[simp] theorem n_own_taken : (Str.ofString "own_form" = Str.ofString "taken") = False := eq_false (by decide +kernel)
@[simp] theorem n_taken_own : (Str.ofString "taken" = Str.ofString "own_form") = False := eq_false (by decide +kernel)
def rdD (f : Fmt) (l : List Int) : D := .dict [(.str "own_form", f.d), (.str "taken", sgD l)]
theorem Run.split {f : Fmt} {st st2 : Std} {c c2 : Cont} {l : List Int} {s : Int} (r : Run f st c (s :: l) st2 c2) : ∃ st1, step f st s = some st1 ∧ Run f st c [s] st1 (toldAt f st s c) ∧ Run f st1 (toldAt f st s c) l st2 c2 := by
  cases r with
  | cons h hn r => exact ⟨_, h, Run.one h hn, r⟩
/-! ### the law's own reading -/
def useS : Option Use → Str
  | some u => u.s
  | none => ("" : Str)
theorem law_use_loop (s : Int) : ∀ (ts : List (Int × Use)) (F : D) (x : Option D), ∃ x', forT (setG 2) (ifT (isB (Z.binT eqD (Z.binT idxD (varT 2) (cT (.int 0))) (varT 1))) (retT (Z.binT idxD (varT 2) (cT (.int 1)))) (nxT)) (ts.map tgD) [some F, some (.int s), x] =
    match ts.find? (fun t => decide (t.1 = s)) with
    | some t => .ok (.rt (.str t.2.s)) [some F, some (.int s), x']
    | none => .ok .nx [some F, some (.int s), x']
  | [], F, x => ⟨x, rfl⟩
  | t :: ts, F, x => by
    rw [List.map_cons, forT_cons]
    have e3 : idxD (tgD t) (.int 0) = some (.int t.1) := rfl
    have e4 : idxD (tgD t) (.int 1) = some (.str t.2.s) := by simp [tgD]
    by_cases e : t.1 = s
    · refine ⟨some (tgD t), ?_⟩
      simp [e3, e4, e]
    · obtain ⟨x', q⟩ := law_use_loop s ts F (some (tgD t))
      refine ⟨x', ?_⟩
      simp [e3, e4, e, q]
theorem law_use_eq (f : Fmt) (s : Int) : S__law_use [f.d, .int s] = .ok (.str (useS (use f s))) [] := by
  obtain ⟨x', q⟩ := law_use_loop s f.tags f.d none
  have e0 : eqD (.str (if f.rest then "skip" else "refuse")) (.str "skip") = some (.bool f.rest) := by
    cases f.rest
    · exact eqD_strF "refuse" "skip" (by decide +kernel) (by decide +kernel) (by decide +kernel)
    · exact eqD_strT "skip" "skip" (by decide +kernel) (by decide +kernel) rfl
  unfold use
  cases h : f.tags.find? (fun t => decide (t.1 = s)) with
  | some t =>
    simp only [h] at q
    simp [S__law_use, T__law_use, runF_eq, rho0, q, useS]
  | none =>
    simp only [h] at q
    simp [S__law_use, T__law_use, runF_eq, rho0, q, e0]
    cases f.rest <;> simp [useS, Use.s]
/-! ### where no reading ends well -/
def Stuck (f : Fmt) (st : Std) (l : List Int) : Prop := ∀ c st' c', Run f st c l st' c' → ending f st' = false
theorem stuck_nil {f : Fmt} {st : Std} (h : ending f st = false) : Stuck f st [] := fun c st' c' r => by cases r; exact h
theorem stuck_none {f : Fmt} {st : Std} {s : Int} {l : List Int} (h : step f st s = none) : Stuck f st (s :: l) := fun c st' c' r => by
  cases r with
  | cons h' _ _ => rw [h] at h'; cases h'
theorem stuck_cons {f : Fmt} {st st1 : Std} {s : Int} {l : List Int} (h : step f st s = some st1) (k : Stuck f st1 l) : Stuck f st (s :: l) := fun c st' c' r => by
  cases r with
  | cons h' _ r => rw [h] at h'; cases h'; exact k _ _ _ r
theorem Run.stuck {f : Fmt} {st st1 : Std} {c c1 : Cont} {l l2 : List Int} (r : Run f st c l st1 c1) (k : Stuck f st1 l2) : Stuck f st (l ++ l2) := by
  induction r with
  | nil => exact k
  | cons h hn r ih => exact stuck_cons h (ih k)
theorem stuck_body {f : Fmt} (u : Use) : ∀ (l : List Int) (m : Nat) (t : Int), l.length < m → Stuck f (.body u (m : Int) t) l
  | [], m, t, _ => stuck_nil rfl
  | s :: l, m, t, h => by
    rw [List.length_cons] at h
    obtain ⟨m, rfl⟩ : ∃ k, m = k + 2 := ⟨m - 2, by omega⟩
    refine stuck_cons (st1 := .body u ((m + 1 : Nat) : Int) (if u = .check then (t + s) % f.base else t)) ?_ (stuck_body u l (m + 1) _ (by omega))
    simp only [step]
    rw [if_pos (by omega)]
    congr 2
    omega
def BadR (d : D) : Prop := ∃ (a : Int) (w : Str), d = .tuple [.none, .tuple [.int a, .str w]]
theorem sg_at {row : List Int} {p : Nat} (hp : p < row.length) : idxD (sgD row) (.int p) = some (.int row[p]) := by
  show atI (row.map PyData.int) (p : Int) = _
  rw [Z.atI_nat, List.getElem?_map, List.getElem?_eq_getElem hp]; rfl
theorem len_sg (row : List Int) : lenD [sgD row] = some (.int row.length) := by simp [sgD]
theorem law_long_eq {f : Fmt} (h : f.Ok) {row : List Int} (hr : ∀ s ∈ row, 0 ≤ s ∧ s < f.base) (p : Nat) : ∃ d, S__law_long [f.d, sgD row, .int p] = .ok d [] ∧ ((BadR d ∧ ∀ u, Stuck f (.len u) (row.drop p)) ∨ ∃ n k : Nat, d = .tuple [.int n, .int k] ∧ (n : Int) ≤ f.most ∧ k ≤ row.length ∧ p ≤ k ∧ row.drop p = lenS f n ++ row.drop k) := by
  simp only [S__law_long, T__law_long, runF_eq, rho0]
  by_cases hp : p < row.length
  · have hd : row.drop p = row[p] :: row.drop (p + 1) := List.drop_eq_getElem_cons hp
    have h1 := hr row[p] (List.getElem_mem hp)
    have e1 := sg_at hp
    obtain ⟨a, ha⟩ : ∃ a, a = row[p] := ⟨_, rfl⟩
    rw [← ha] at e1 h1 hd
    have hp' : ¬ (row.length ≤ p) := by omega
    cases hw : f.width with
    | one =>
      by_cases hm : a ≤ f.most
      · refine ⟨.tuple [.int a, .int ((p : Int) + 1)], by simp [len_sg, e1, hp', wd_one, hw, hm], .inr ⟨a.toNat, p + 1, ?_, by omega, by omega, by omega, ?_⟩⟩
        · rw [Int.toNat_of_nonneg h1.1]; rfl
        · rw [hd, lenS, hw, Int.toNat_of_nonneg h1.1]; rfl
      · exact ⟨.tuple [.none, .tuple [.int p, .str "length"]], by simp [len_sg, e1, hp', wd_one, hw, hm], .inl ⟨⟨_, _, rfl⟩, fun u => by rw [hd]; exact stuck_none (by simp [step, hw, hm])⟩⟩
    | high =>
      by_cases hm : f.most < a * f.base
      · exact ⟨.tuple [.none, .tuple [.int p, .str "length"]], by simp [len_sg, e1, hp', wd_one, wd_high, hw, hm, h.mul], .inl ⟨⟨_, _, rfl⟩, fun u => by rw [hd]; exact stuck_none (by simp [step, hw]; omega)⟩⟩
      · by_cases hp2 : p + 1 < row.length
        · have hd2 : row.drop (p + 1) = row[p + 1] :: row.drop (p + 1 + 1) := List.drop_eq_getElem_cons hp2
          have h2 := hr row[p + 1] (List.getElem_mem hp2)
          have e2 := sg_at hp2
          obtain ⟨b, hb⟩ : ∃ b, b = row[p + 1] := ⟨_, rfl⟩
          rw [← hb] at e2 h2 hd2
          rw [show ((p + 1 : Nat) : Int) = (p : Int) + 1 by omega] at e2
          have hp2' : ¬ ((row.length : Int) ≤ (p : Int) + 1) := by omega
          by_cases hn : a * f.base + b ≤ f.most
          · have hz : 0 ≤ a * f.base := Int.mul_nonneg h1.1 (by have := h.b2; omega)
            refine ⟨.tuple [.int (a * f.base + b), .int ((p : Int) + 2)], by simp [len_sg, e1, e2, hp', hp2', wd_one, wd_high, hw, hm, hn, h.mul], .inr ⟨(a * f.base + b).toNat, p + 2, ?_, by omega, by omega, by omega, ?_⟩⟩
            · rw [Int.toNat_of_nonneg (by omega)]; rfl
            · rw [hd, hd2, lenS, hw, Int.toNat_of_nonneg (by omega)]
              have q1 : (a * f.base + b) / f.base = a := by
                rw [Int.add_comm, Int.add_mul_ediv_right _ _ (by have := h.b2; omega), Int.ediv_eq_zero_of_lt h2.1 h2.2]; omega
              have q2 : (a * f.base + b) % f.base = b := by
                rw [Int.add_comm, Int.add_mul_emod_self_right]; exact Int.emod_eq_of_lt h2.1 h2.2
              rw [q1, q2]; rfl
          · exact ⟨.tuple [.none, .tuple [.int ((p : Int) + 1), .str "length"]], by simp [len_sg, e1, e2, hp', hp2', wd_one, wd_high, hw, hm, hn, h.mul], .inl ⟨⟨_, _, rfl⟩, fun u => by
              rw [hd, hd2]
              refine stuck_cons (st1 := .second u a) (by simp [step, hw]; omega) (stuck_none (by simp [step, hw, hn]))⟩⟩
        · have hp2' : ((row.length : Int) ≤ (p : Int) + 1) := by omega
          exact ⟨.tuple [.none, .tuple [.int row.length, .str "short"]], by simp [len_sg, e1, hp', hp2', wd_one, wd_high, hw, hm, h.mul], .inl ⟨⟨_, _, rfl⟩, fun u => by
            rw [hd, List.drop_eq_nil_of_le (by omega : row.length ≤ p + 1)]
            exact stuck_cons (st1 := .second u a) (by simp [step, hw]; omega) (stuck_nil rfl)⟩⟩
    | low =>
      by_cases hm : f.most < a
      · exact ⟨.tuple [.none, .tuple [.int p, .str "length"]], by simp [len_sg, e1, hp', wd_one, wd_high, hw, hm, h.mul], .inl ⟨⟨_, _, rfl⟩, fun u => by rw [hd]; exact stuck_none (by simp [step, hw]; omega)⟩⟩
      · by_cases hp2 : p + 1 < row.length
        · have hd2 : row.drop (p + 1) = row[p + 1] :: row.drop (p + 1 + 1) := List.drop_eq_getElem_cons hp2
          have h2 := hr row[p + 1] (List.getElem_mem hp2)
          have e2 := sg_at hp2
          obtain ⟨b, hb⟩ : ∃ b, b = row[p + 1] := ⟨_, rfl⟩
          rw [← hb] at e2 h2 hd2
          rw [show ((p + 1 : Nat) : Int) = (p : Int) + 1 by omega] at e2
          have hp2' : ¬ ((row.length : Int) ≤ (p : Int) + 1) := by omega
          by_cases hn : b * f.base + a ≤ f.most
          · have hz : 0 ≤ b * f.base := Int.mul_nonneg h2.1 (by have := h.b2; omega)
            refine ⟨.tuple [.int (b * f.base + a), .int ((p : Int) + 2)], by simp [len_sg, e1, e2, hp', hp2', wd_one, wd_high, hw, hm, hn, h.mul], .inr ⟨(b * f.base + a).toNat, p + 2, ?_, by omega, by omega, by omega, ?_⟩⟩
            · rw [Int.toNat_of_nonneg (by omega)]; rfl
            · rw [hd, hd2, lenS, hw, Int.toNat_of_nonneg (by omega)]
              have q1 : (b * f.base + a) / f.base = b := by
                rw [Int.add_comm, Int.add_mul_ediv_right _ _ (by have := h.b2; omega), Int.ediv_eq_zero_of_lt h1.1 h1.2]; omega
              have q2 : (b * f.base + a) % f.base = a := by
                rw [Int.add_comm, Int.add_mul_emod_self_right]; exact Int.emod_eq_of_lt h1.1 h1.2
              rw [q1, q2]; rfl
          · exact ⟨.tuple [.none, .tuple [.int ((p : Int) + 1), .str "length"]], by simp [len_sg, e1, e2, hp', hp2', wd_one, wd_high, hw, hm, hn, h.mul], .inl ⟨⟨_, _, rfl⟩, fun u => by
              rw [hd, hd2]
              refine stuck_cons (st1 := .second u a) (by simp [step, hw]; omega) (stuck_none (by simp [step, hw, hn]))⟩⟩
        · have hp2' : ((row.length : Int) ≤ (p : Int) + 1) := by omega
          exact ⟨.tuple [.none, .tuple [.int row.length, .str "short"]], by simp [len_sg, e1, hp', hp2', wd_one, wd_high, hw, hm, h.mul], .inl ⟨⟨_, _, rfl⟩, fun u => by
            rw [hd, List.drop_eq_nil_of_le (by omega : row.length ≤ p + 1)]
            exact stuck_cons (st1 := .second u a) (by simp [step, hw]; omega) (stuck_nil rfl)⟩⟩
  · have hp' : row.length ≤ p := by omega
    exact ⟨.tuple [.none, .tuple [.int row.length, .str "short"]], by simp [len_sg, hp'], .inl ⟨⟨_, _, rfl⟩, fun u => by rw [List.drop_eq_nil_of_le hp']; exact stuck_nil rfl⟩⟩
theorem cut_sg (row : List Int) (p n : Nat) (h : p + n ≤ row.length) : slcD (sgD row) (some (p : Int)) (some ((p : Int) + (n : Int))) = some (sgD ((row.drop p).take n)) := by
  show some (PyData.tuple (cutD (row.map .int) (some (p : Int)) (some ((p : Int) + (n : Int))))) = _
  unfold cutD
  rw [show ((p : Int) + (n : Int)) = ((p + n : Nat) : Int) by omega, HT.sIx_nat, HT.sIx_nat, List.length_map, Nat.min_eq_left h, Nat.min_eq_left (show p ≤ row.length by omega), Nat.add_sub_cancel_left, ← List.map_drop, ← List.map_take]
  rfl
theorem sum_sg (l : List Int) : sumD [sgD l] = some (.int l.sum) := by simp [sumD, sgD]
theorem us_nck (u : Use) : neD (.str u.s) (.str "check") = some (.bool (!decide (u = .check))) := by
  rw [neD_str _ _ (use_ok u) (by decide +kernel)]
  congr 3
  exact decide_eq_decide.mpr (use_eq u .check)
/-- a length, a body, up to its sum -/
theorem sum_run {f : Fmt} (h : f.Ok) (u : Use) (hu : u = .check) {n : Nat} (b : List Int) (hn : (n : Int) ≤ f.most) (hb : b.length = n) : Run f (.len u) [(0, [])] (lenS f n ++ b) (.sum (b.sum % f.base)) [(0, b)] := by
  have hb2 := h.b2
  refine (len_run h u (n : Int) (by omega) hn _).trans ?_
  cases b with
  | nil =>
    simp at hb
    subst hb
    subst hu
    have e : bodyStd .check ((0 : Nat) : Int) = .sum 0 := rfl
    rw [e]
    simp
    exact .nil _ _
  | cons s bs =>
    have e : bodyStd u (n : Int) = .body u (((s :: bs).length : Nat) : Int) 0 := by
      rw [hb]
      unfold bodyStd
      rw [if_pos (by rw [← hb, List.length_cons]; omega)]
    rw [e]
    have r := body_run (f := f) (by omega) u bs s 0 [(0, [])] [] 0 [] (fun _ => rfl)
    subst hu
    simp [Use.told, afterBody] at r
    simpa using r
theorem law_chunk_eq {f : Fmt} (h : f.Ok) {row : List Int} (hr : ∀ s ∈ row, 0 ≤ s ∧ s < f.base) (p : Nat) (u : Use) : ∃ d, S__law_chunk [f.d, sgD row, .int p, .str u.s] = .ok d [] ∧ ((BadR d ∧ Stuck f (.len u) (row.drop p)) ∨ ∃ (b : List Int) (k : Nat), d = .tuple [sgD b, .int k] ∧ (b.length : Int) ≤ f.most ∧ k ≤ row.length ∧ p ≤ k ∧ row.drop p = (lenS f b.length ++ (b ++ (if u = .check then [b.sum % f.base] else []))) ++ row.drop k) := by
  simp only [S__law_chunk, T__law_chunk, runF_eq, rho0]
  obtain ⟨d, e, ⟨hd, hst⟩ | ⟨n, k, rfl, hn, hk, hpk, hrow⟩⟩ := law_long_eq h hr p
  · obtain ⟨a, w, rfl⟩ := hd
    exact ⟨.tuple [.none, .tuple [.int a, .str w]], by simp [e], .inl ⟨⟨_, _, rfl⟩, hst u⟩⟩
  · by_cases hl : k + n ≤ row.length
    · have c1 := cut_sg row k n hl
      obtain ⟨b, hb⟩ : ∃ b, b = (row.drop k).take n := ⟨_, rfl⟩
      have hbl : b.length = n := by rw [hb]; simp; omega
      rw [← hb] at c1
      have hl' : ¬ ((row.length : Int) < (k : Int) + (n : Int)) := by omega
      have hspl : row.drop k = b ++ row.drop (k + n) := by
        rw [hb, ← List.drop_drop, List.take_append_drop]
      have hn' := hn
      by_cases hu : u = .check
      · by_cases h2 : k + n < row.length
        · have h2' : ¬ ((row.length : Int) ≤ (k : Int) + (n : Int)) := by omega
          have e2 := sg_at h2
          rw [show ((k + n : Nat) : Int) = (k : Int) + (n : Int) by omega] at e2
          by_cases hc : row[k + n] = b.sum % f.base
          · refine ⟨.tuple [sgD b, .int ((k : Int) + (n : Int) + 1)], by simp [e, len_sg, hl', c1, hu, us_check, h2', e2, hc, sum_sg, h.mod, us_nck], .inr ⟨b, k + n + 1, rfl, by omega, by omega, by omega, ?_⟩⟩
            rw [if_pos hu, hrow, hspl, List.drop_eq_getElem_cons h2, hc, hbl]
            simp
          · exact ⟨.tuple [.none, .tuple [.int ((k : Int) + (n : Int)), .str "check"]], by simp [e, len_sg, hl', c1, hu, us_check, h2', e2, hc, sum_sg, h.mod, us_nck], .inl ⟨⟨_, _, rfl⟩, by
            rw [hrow, hspl, List.drop_eq_getElem_cons h2, ← List.append_assoc]
            exact (sum_run h u hu b hn' hbl).stuck (stuck_none (by simp [step, hc]))⟩⟩
        · have h2' : ((row.length : Int) ≤ (k : Int) + (n : Int)) := by omega
          exact ⟨.tuple [.none, .tuple [.int row.length, .str "short"]], by simp [e, len_sg, hl', c1, hu, us_check, h2', us_nck], .inl ⟨⟨_, _, rfl⟩, by
            rw [hrow, hspl, List.drop_eq_nil_of_le (by omega : row.length ≤ k + n), ← List.append_assoc]
            exact (sum_run h u hu b hn' hbl).stuck (stuck_nil rfl)⟩⟩
      · refine ⟨.tuple [sgD b, .int ((k : Int) + (n : Int))], by simp [e, len_sg, hl', c1, hu, us_nck], .inr ⟨b, k + n, rfl, by omega, by omega, by omega, ?_⟩⟩
        rw [if_neg hu, hrow, hspl, hbl]
        simp
    · have hl' : ((row.length : Int) < (k : Int) + (n : Int)) := by omega
      exact ⟨.tuple [.none, .tuple [.int row.length, .str "short"]], by simp [e, len_sg, hl'], .inl ⟨⟨_, _, rfl⟩, by
        rw [hrow]
        refine (len_run h u (n : Int) (by omega) hn []).stuck ?_
        have hpos : 0 < (n : Int) := by omega
        unfold bodyStd
        rw [if_pos hpos]
        exact stuck_body u _ n 0 (by rw [List.length_drop]; omega)⟩⟩
/-! ### where it does not look -/
def blindF (f : Fmt) : Std → Nat → List Int → List Nat
  | _, _, [] => []
  | st, k, s :: l => (if looking f st then [] else [k]) ++ (match step f st s with
    | some st' => blindF f st' (k + 1) l
    | none => [])
theorem blindF_app {f : Fmt} {st st1 : Std} {c c1 : Cont} {l : List Int} (r : Run f st c l st1 c1) : ∀ (k : Nat) (l2 : List Int), blindF f st k (l ++ l2) = blindF f st k l ++ blindF f st1 (k + l.length) l2 := by
  induction r with
  | nil st c => intro k l2; simp [blindF]
  | @cons st st' st2 c c2 s l h hn r ih =>
    intro k l2
    simp only [List.cons_append, blindF, h, ih (k + 1) l2, List.length_cons, List.append_assoc]
    rw [show k + 1 + l.length = k + (l.length + 1) by omega]
theorem blind_ge {f : Fmt} : ∀ (l : List Int) (st : Std) (k j : Nat), j ∈ blindF f st k l → k ≤ j ∧ j < k + l.length
  | [], st, k, j, h => by simp [blindF] at h
  | s :: l, st, k, j, h => by
    simp only [blindF, List.mem_append] at h
    rw [List.length_cons]
    rcases h with h | h
    · split at h
      · cases h
      · rw [List.mem_singleton.mp h]; omega
    · split at h
      · have := blind_ge l _ _ _ h; omega
      · cases h
theorem looked_ge {f : Fmt} : ∀ (l : List Int) (st : Std) (k j : Nat), j ∈ lookedF f st k l → k ≤ j
  | [], st, k, j, h => by simp [lookedF] at h
  | s :: l, st, k, j, h => by
    simp only [lookedF, List.mem_append] at h
    rcases h with h | h
    · split at h
      · rw [List.mem_singleton.mp h]; omega
      · cases h
    · split at h
      · have := looked_ge l _ _ _ h; omega
      · cases h
theorem blind_not_looked {f : Fmt} : ∀ (l : List Int) (st : Std) (k j : Nat), j ∈ blindF f st k l → j ∉ lookedF f st k l
  | [], st, k, j, h => by simp [blindF] at h
  | s :: l, st, k, j, h => by
    intro h'
    simp only [blindF, lookedF, List.mem_append] at h h'
    cases hs : step f st s with
    | none =>
      simp only [hs] at h h'
      cases hl : looking f st <;> simp [hl] at h h'
    | some st' =>
      simp only [hs] at h h'
      cases hl : looking f st
      · simp [hl] at h h'
        rcases h with rfl | h
        · have := looked_ge _ _ _ _ h'; omega
        · exact blind_not_looked l st' (k + 1) j h h'
      · simp [hl] at h h'
        rcases h' with rfl | h'
        · have := blind_ge _ _ _ _ h; omega
        · exact blind_not_looked l st' (k + 1) j h h'
theorem blind_step {f : Fmt} {st st' : Std} {s s' : Int} {c : Cont} (hl : looking f st = false) (h : step f st s = some st') : step f st s' = some st' ∧ toldAt f st s' c = toldAt f st s c := by
  cases st with
  | head p =>
    refine ⟨?_, rfl⟩
    simp only [looking] at hl
    simp only [step] at h ⊢
    cases hp : f.head[p]? with
    | none => rw [hp] at h; cases h
    | some m =>
      cases m with
      | none => rw [hp] at h; exact h
      | some i => rw [hp] at hl; cases hl
  | body u l t =>
    cases u <;> simp [looking] at hl
    exact ⟨h, by simp [toldAt, Use.told]⟩
  | room => exact ⟨h, rfl⟩
  | tag => simp [looking] at hl
  | len u => simp [looking] at hl
  | second u a => simp [looking] at hl
  | sum t => simp [looking] at hl
  | over => simp [looking] at hl
theorem blind_hn {f : Fmt} {st : Std} {c : Cont} (hl : looking f st = false) : ∀ u a t, st = .body u a t → u.told = true → c ≠ [] := by
  rintro u a t rfl ht
  cases u <;> simp [looking] at hl
  cases ht
theorem blind_set {f : Fmt} {st st1 : Std} {c c1 : Cont} {l : List Int} (r : Run f st c l st1 c1) : ∀ (k j : Nat) (s' : Int), j ∈ blindF f st k l → Run f st c (l.set (j - k) s') st1 c1 ∧ blindF f st k (l.set (j - k) s') = blindF f st k l := by
  induction r with
  | nil st c => intro k j s' h; simp [blindF] at h
  | @cons st st' st2 c c2 s l h hn r ih =>
    intro k j s' hj
    have hj' := hj
    simp only [blindF, List.mem_append, h] at hj
    by_cases hk : j = k
    · subst hk
      have hl : looking f st = false := by
        cases hl : looking f st
        · rfl
        · simp [hl] at hj
          have := blind_ge _ _ _ _ hj; omega
      obtain ⟨e1, e2⟩ := blind_step (s' := s') (c := c) hl h
      rw [Nat.sub_self, List.set_cons_zero]
      refine ⟨.cons e1 hn (by rw [e2]; exact r), ?_⟩
      simp only [blindF, e1, h]
    · have hj2 : j ∈ blindF f st' (k + 1) l := by
        rcases hj with hj | hj
        · split at hj
          · cases hj
          · exact absurd (List.mem_singleton.mp hj) hk
        · exact hj
      have := blind_ge _ _ _ _ hj2
      obtain ⟨i1, i2⟩ := ih (k + 1) j s' hj2
      rw [show j - k = (j - (k + 1)) + 1 by omega, List.set_cons_succ]
      exact ⟨.cons h hn i1, by simp only [blindF, h, i2]⟩
theorem blind_body {f : Fmt} (u : Use) : ∀ (bs : List Int) (s : Int) (tot : Int) (k : Nat), blindF f (.body u (((s :: bs).length : Nat) : Int) tot) k (s :: bs) = if u = .skip then List.range' k (s :: bs).length else []
  | [], s, tot, k => by
    have hl : looking f (.body u (([s].length : Nat) : Int) tot) = !decide (u = .skip) := by cases u <;> rfl
    simp only [blindF, hl, step]
    cases u <;> simp
  | s2 :: bs, s, tot, k => by
    have h1 : step f (.body u (((s :: s2 :: bs).length : Nat) : Int) tot) s = some (.body u (((s2 :: bs).length : Nat) : Int) (if u = .check then (tot + s) % f.base else tot)) := by
      simp only [step]
      rw [if_pos (by simp only [List.length_cons]; omega)]
      congr 2
      simp only [List.length_cons]; omega
    have hl : looking f (.body u (((s :: s2 :: bs).length : Nat) : Int) tot) = !decide (u = .skip) := by cases u <;> rfl
    rw [blindF, h1, hl]
    simp only [blind_body u bs s2]
    cases u <;> simp [List.range'_succ]
theorem blind_one {f : Fmt} (st : Std) (k : Nat) (s : Int) (h : looking f st = true) : blindF f st k [s] = [] := by
  simp only [blindF, h, if_pos, List.nil_append]
  split <;> rfl
theorem blind_len {f : Fmt} (u : Use) (n : Int) (k : Nat) : blindF f (.len u) k (lenS f n) = [] := by
  have h2 : ∀ (a b : Int), f.width ≠ .one → blindF f (.len u) k [a, b] = [] := by
    intro a b hw
    have hl : looking f (.len u) = true := rfl
    rw [blindF, hl, if_pos rfl, List.nil_append]
    have hs : ∀ st', step f (.len u) a = some st' → blindF f st' (k + 1) [b] = [] := by
      intro st' e
      simp only [step] at e
      split at e
      · exact absurd (by assumption) hw
      · split at e <;> cases e
        exact blind_one _ _ _ rfl
      · split at e <;> cases e
        exact blind_one _ _ _ rfl
    split
    · exact hs _ (by assumption)
    · rfl
  cases hw : f.width with
  | one => rw [lenS, hw]; exact blind_one _ _ _ rfl
  | high => rw [lenS, hw]; exact h2 _ _ (by rw [hw]; decide)
  | low => rw [lenS, hw]; exact h2 _ _ (by rw [hw]; decide)
theorem blind_room {f : Fmt} : ∀ (l : List Int) (k : Nat), blindF f .room k l = List.range' k l.length
  | [], k => rfl
  | s :: l, k => by
    simp only [blindF, looking, step, blind_room l (k + 1), List.length_cons, List.range'_succ]
    simp
theorem blind_chunk {f : Fmt} (h : f.Ok) (p : Int × List Int) (u : Use) (hu : use f p.1 = some u) (hc : u.chunk = true) (hm : (p.2.length : Int) ≤ f.most) (k : Nat) : blindF f .tag k (chunkS f p) = if u = .skip then List.range' (k + 1 + (lenS f p.2.length).length) p.2.length else [] := by
  obtain ⟨t, b⟩ := p
  simp only at hu hm ⊢
  have h1 : step f .tag t = some (.len u) := by
    simp only [step, hu]
    cases u <;> simp [Use.chunk] at hc ⊢
  have hb : 0 < f.base := by have := h.b2; omega
  have e := blindF_app (len_run h u (b.length : Int) (by omega) hm [(t, [])]) (k + 1) (b ++ (if use f t = some .check then [b.sum % f.base] else []))
  rw [blind_len, List.nil_append] at e
  show blindF f .tag k (t :: (lenS f (b.length : Int) ++ (b ++ (if use f t = some .check then [b.sum % f.base] else [])))) = _
  have hlt : looking f .tag = true := rfl
  rw [blindF, h1, hlt, if_pos rfl, List.nil_append]
  simp only
  rw [e]
  cases b with
  | nil =>
    simp only [List.length_nil, List.nil_append, bodyStd, hu]
    by_cases hk : u = .check
    · subst hk
      simp [blindF, looking, step]
    · simp [hk, blindF]
  | cons s bs =>
    have e0 : bodyStd u (((s :: bs).length : Nat) : Int) = .body u (((s :: bs).length : Nat) : Int) 0 := by
      simp only [bodyStd]
      rw [if_pos (by simp only [List.length_cons]; omega)]
    rw [e0]
    have r := body_run hb u bs s 0 [(t, [])] [] t [] (fun _ => rfl)
    rw [blindF_app r, blind_body]
    have e3 : ∀ (k' : Nat), blindF f (afterBody f u (if u = .check then (0 + (s :: bs).sum) % f.base else 0)) k' (if use f t = some .check then [(s :: bs).sum % f.base] else []) = [] := by
      intro k'
      rw [hu]
      by_cases hk : u = .check
      · subst hk
        simp [afterBody, blindF, looking, step]
      · simp [hk, blindF]
    rw [e3, List.append_nil]
/-! ### the law's reading of a file -/
def ntD (l : List Nat) : D := .list (l.map fun (n : Nat) => .int n)
theorem us_s (o : Option Use) (s : Str) (hs : PyData.strOk s = true) : eqD (.str (useS o)) (.str s) = some (.bool (decide (useS o = s))) := by
  refine eqD_str _ _ ?_ hs
  cases o with
  | none => decide +kernel
  | some u => exact use_ok u
theorem uS_none (o : Option Use) : eqD (.str (useS o)) (.str ("" : Str)) = some (.bool (decide (o = none))) := by
  rw [us_s o "" (by decide +kernel)]
  congr 2
  cases o with
  | none => decide +kernel
  | some u => cases u <;> decide +kernel
theorem uS_is (o : Option Use) (v : Use) : eqD (.str (useS o)) (.str v.s) = some (.bool (decide (o = some v))) := by
  rw [us_s o v.s (use_ok v)]
  congr 2
  cases o with
  | none => cases v <;> decide +kernel
  | some u => cases u <;> cases v <;> decide +kernel
theorem uS_end (o : Option Use) : eqD (.str (useS o)) (.str "end") = some (.bool (decide (o = some .end_))) := uS_is o .end_
theorem uS_stop (o : Option Use) : eqD (.str (useS o)) (.str "stop") = some (.bool (decide (o = some .stop))) := uS_is o .stop
theorem uS_skip (o : Option Use) : eqD (.str (useS o)) (.str "skip") = some (.bool (decide (o = some .skip))) := uS_is o .skip
theorem us_emp (u : Use) : eqD (.str u.s) (.str ("" : Str)) = some (.bool false) := by
  have := uS_none (some u)
  simpa [useS] using this
theorem sgN (l : List Int) : isNoneD (sgD l) = false := rfl
theorem rng_nats (a n : Nat) : rng (a : Int) ((a : Int) + (n : Int)) = (List.range' a n).map fun (i : Nat) => PyData.int (i : Int) := by
  unfold rng
  rw [List.range'_eq_map_range, List.map_map, show ((a : Int) + (n : Int) - (a : Int)).toNat = n by omega]
  apply List.map_congr_left
  intro i _
  simp
theorem lrg_nats (a n : Nat) (h : a + n ≤ 1000000) : lrgD (.int (a : Int)) (.int ((a : Int) + (n : Int))) = some (ntD (List.range' a n)) := by
  unfold lrgD
  have e : rgOkB (a : Int) ((a : Int) + (n : Int)) = true := by
    unfold rgOkB
    exact decide_eq_true ⟨by omega, by omega, by omega⟩
  simp only [e, if_pos, rng_nats, ntD]
theorem add_nt (a b : List Nat) (h : a.length + b.length ≤ 1000000) : addD (ntD a) (ntD b) = some (ntD (a ++ b)) := by
  simp [addD, ntD]; omega
theorem cat_nt (a b : List Nat) (h : a.length + b.length ≤ 1000000) : catLD (ntD a) (ntD b) = some (ntD (a ++ b)) := by
  simp [catLD, ntD]; omega
def BadT (d : D) : Prop := ∃ (a : Int) (w : Str), d = .tuple [.none, .none, .tuple [.int a, .str w]]
/-- a file as the law reads it -/
def GoodT (f : Fmt) (row : List Int) (d : D) : Prop := ∃ F : File, FileOk f F ∧ row = F.signs f ∧ d = .tuple [coD (content f F.ps), ntD (blindF f (first f) 0 row), .none]
def hdSt (f : Fmt) (i : Nat) : Std := if i < f.head.length then .head i else .tag
theorem hd_step {f : Fmt} {i : Nat} {s : Int} (hi : i < f.head.length) (hm : ∀ m, f.head[i]? = some (some m) → m = s) : step f (.head i) s = some (hdSt f (i + 1)) := by
  simp only [step]
  rw [List.getElem?_eq_getElem hi]
  cases hq : f.head[i] with
  | none => rfl
  | some m =>
    have := hm m (by rw [List.getElem?_eq_getElem hi, hq])
    simp only
    rw [if_pos this]
    rfl
structure HdI (f : Fmt) (row : List Int) (i : Nat) (bl : List Nat) : Prop where
  l : i ≤ row.length
  h : i ≤ f.head.length
  r : Run f (first f) [] (row.take i) (hdSt f i) []
  m : ∀ (j : Nat) (m : Int), j < i → f.head[j]? = some (some m) → row[j]? = some m
  b : bl = blindF f (first f) 0 (row.take i)
theorem HdI.zero (f : Fmt) (row : List Int) : HdI f row 0 [] := by
  refine ⟨Nat.zero_le _, Nat.zero_le _, ?_, fun j m h => absurd h (Nat.not_lt_zero _), by simp [blindF]⟩
  have : first f = hdSt f 0 := by
    unfold first hdSt
    by_cases e : f.head = []
    · rw [if_pos e, e]; rfl
    · rw [if_neg e, if_pos (List.length_pos_iff.mpr e)]
  rw [List.take_zero, this]
  exact .nil _ _
theorem HdI.next {f : Fmt} {row : List Int} {i : Nat} {bl : List Nat} (I : HdI f row i bl) (hi : i < f.head.length) (hr : i < row.length) (hm : ∀ m, f.head[i]? = some (some m) → m = row[i]) :
    HdI f row (i + 1) (bl ++ if looking f (.head i) then [] else [i]) := by
  have hs : hdSt f i = .head i := if_pos hi
  have st := hd_step hi hm
  have r := I.r
  rw [hs] at r
  have e : row.take (i + 1) = row.take i ++ [row[i]] := by rw [List.take_succ, List.getElem?_eq_getElem hr]; rfl
  refine ⟨hr, hi, ?_, fun j m hj q => ?_, ?_⟩
  · rw [e]
    exact r.trans (Run.one (c := []) st (fun _ _ _ e => by cases e))
  · rcases Nat.lt_succ_iff_lt_or_eq.mp hj with hj | rfl
    · exact I.m j m hj q
    · rw [List.getElem?_eq_getElem hr, hm m q]
  · rw [e, blindF_app r, ← I.b]
    congr 1
    rw [blindF, st, List.length_take, Nat.min_eq_left I.l, Nat.zero_add]
    simp [blindF]
structure ChI (f : Fmt) (row : List Int) (p : Nat) (ps : List (Int × List Int)) (bl : List Nat) : Prop where
  l : p ≤ row.length
  e : row.take p = row.take f.head.length ++ ps.flatMap (chunkS f)
  hl : f.head.length ≤ p
  c : ∀ q ∈ ps, ChunkOk f q
  r : Run f (first f) [] (row.take p) .tag (content f ps)
  m : ∀ (j : Nat) (m : Int), j < f.head.length → f.head[j]? = some (some m) → row[j]? = some m
  b : bl = blindF f (first f) 0 (row.take p)
theorem ChI.zero {f : Fmt} {row : List Int} {bl : List Nat} (I : HdI f row f.head.length bl) : ChI f row f.head.length [] bl := by
  refine ⟨I.l, by simp, Nat.le_refl _, (fun q h => by cases h), ?_, I.m, I.b⟩
  have r := I.r
  rwa [show hdSt f f.head.length = .tag from if_neg (Nat.lt_irrefl _)] at r
theorem blindF_len (f : Fmt) : ∀ (l : List Int) (st : Std) (k : Nat), (blindF f st k l).length ≤ l.length
  | [], st, k => by simp [blindF]
  | s :: l, st, k => by
    have h1 : (if looking f st then ([] : List Nat) else [k]).length ≤ 1 := by split <;> simp
    cases hs : step f st s with
    | none =>
      simp only [blindF, hs, List.length_append, List.length_cons, List.length_nil]
      omega
    | some st' =>
      have := blindF_len f l st' (k + 1)
      simp only [blindF, hs, List.length_append, List.length_cons]
      omega
theorem ChI.blind_len {f : Fmt} {row : List Int} {p : Nat} {ps : List (Int × List Int)} {bl : List Nat} (I : ChI f row p ps bl) : bl.length ≤ p := by
  have := blindF_len f (row.take p) (first f) 0
  rw [← I.b] at this
  have hl := I.l
  simp at this
  omega
theorem content_snoc (f : Fmt) (ps : List (Int × List Int)) (q : Int × List Int) : content f (ps ++ [q]) = content f ps ++ (if useTold (use f q.1) then [q] else []) := by
  simp [content, List.filter_cons]
theorem ChI.next {f : Fmt} (h : f.Ok) {row : List Int} {p k : Nat} {ps : List (Int × List Int)} {bl : List Nat} (I : ChI f row p ps bl) (hp : p < row.length) (u : Use) (hu : use f row[p] = some u) (hc : u.chunk = true) (b : List Int) (hb : (b.length : Int) ≤ f.most)
    (hk : k ≤ row.length) (hpk : p + 1 ≤ k) (he : row.drop (p + 1) = (lenS f b.length ++ (b ++ (if u = .check then [b.sum % f.base] else []))) ++ row.drop k) :
    ChI f row k (ps ++ [(row[p], b)]) (bl ++ if u = .skip then List.range' (p + 1 + (lenS f b.length).length) b.length else []) ∧ k = p + 1 + (lenS f b.length).length + b.length + (if u = .check then 1 else 0) := by
  have hch : chunkS f (row[p], b) = row[p] :: (lenS f b.length ++ (b ++ (if u = .check then [b.sum % f.base] else []))) := by
    simp only [chunkS, hu, Option.some.injEq]
  have hd : row.drop p = chunkS f (row[p], b) ++ row.drop k := by
    rw [List.drop_eq_getElem_cons hp, he, hch]; rfl
  have hlen : k = p + (chunkS f (row[p], b)).length := by
    have := congrArg List.length hd
    simp only [List.length_append, List.length_drop] at this
    omega
  have et : row.take k = row.take p ++ chunkS f (row[p], b) := by
    have e1 : row = row.take p ++ (chunkS f (row[p], b) ++ row.drop k) := by rw [← hd, List.take_append_drop]
    have e2 : row = (row.take p ++ chunkS f (row[p], b)) ++ row.drop k := by rw [List.append_assoc]; exact e1
    have e3 : k = (row.take p ++ chunkS f (row[p], b)).length := by
      rw [List.length_append, List.length_take, Nat.min_eq_left I.l]; exact hlen
    conv => lhs; rw [e2]
    rw [e3, List.take_left']
    rw [← e3]
  have cr := chunk_run h (row[p], b) u hu hc hb (content f ps)
  have cb := blind_chunk h (row[p], b) u hu hc hb p
  refine ⟨⟨hk, ?_, by have := I.hl; omega, ?_, ?_, I.m, ?_⟩, ?_⟩
  · rw [et, I.e]; simp
  · intro q hq
    rcases List.mem_append.mp hq with hq | hq
    · exact I.c q hq
    · rw [List.mem_singleton.mp hq]; exact ⟨u, hu, hc, hb⟩
  · rw [et, content_snoc, hu]
    have e : (if useTold (some u) then [(row[p], b)] else []) = (if u.told then [(row[p], b)] else []) := rfl
    rw [e]
    refine I.r.trans ?_
    have e2 : content f ps ++ (if u.told then [(row[p], b)] else []) = if u.told then content f ps ++ [(row[p], b)] else content f ps := by split <;> simp
    rw [e2]
    exact cr
  · rw [et, blindF_app I.r, ← I.b, Nat.zero_add, List.length_take, Nat.min_eq_left I.l, cb]
  · rw [hlen, hch]
    simp only [List.length_cons, List.length_append]
    split <;> simp <;> omega
theorem ChI.file {f : Fmt} {row : List Int} {p : Nat} {ps : List (Int × List Int)} {bl : List Nat} (I : ChI f row p ps bl) (he : EndOk f (row.drop p)) : FileOk f ⟨row.take f.head.length, ps, row.drop p⟩ ∧ row = File.signs f ⟨row.take f.head.length, ps, row.drop p⟩ := by
  refine ⟨⟨?_, ?_, I.c, he⟩, ?_⟩
  · show (row.take f.head.length).length = _
    rw [List.length_take, Nat.min_eq_left]
    have := I.hl
    have := I.l
    omega
  · intro i m q
    have hi := (List.getElem?_eq_some_iff.mp q).1
    show (row.take f.head.length)[i]? = _
    rw [List.getElem?_take_of_lt hi]
    exact I.m i m hi q
  · show row = row.take f.head.length ++ (ps.flatMap (chunkS f) ++ row.drop p)
    rw [← List.append_assoc, ← I.e, List.take_append_drop]
def BadB (d : D) : Prop := ∃ (a : Int) (w : Str), d = .tuple [.none, .none, .tuple [.int a, .str w]]
theorem reading_head {f : Fmt} (h : f.Ok) {row : List Int} (hl : row.length ≤ 10000) :
    let tb : Rho → Out Rho Flw := sqT (ifT (isB (Z.binT geD (varT 4) (callB lenD (consT (varT 1) (nilT))))) (retT (tupT (consT (cT .none) (consT (cT .none) (consT (tupT (consT (callB lenD (consT (varT 1) (nilT))) (consT (cT (.str ("short" : Str))) (nilT)))) (nilT)))))) (nxT)) (ifT (isB (Z.binT isD (Z.binT idxD (Z.binT idxD (varT 0) (cT (.int 1))) (varT 4)) (cT .none))) (appT 3 (varT 4)) (ifT (isB (Z.binT neD (Z.binT idxD (Z.binT idxD (varT 0) (cT (.int 1))) (varT 4)) (Z.binT idxD (varT 1) (varT 4)))) (retT (tupT (consT (cT .none) (consT (cT .none) (consT (tupT (consT (varT 4) (consT (cT (.str ("head" : Str))) (nilT)))) (nilT)))))) (nxT)))
    (∃ bl x, forT (setG 4) tb ((List.range' 0 f.head.length).map fun i : Nat => PyData.int (i : Int)) [some f.d, some (sgD row), some (.list []), some (.list []), none, none, none, none, none, none, none] = .ok .nx [some f.d, some (sgD row), some (.list []), some (ntD bl), x, none, none, none, none, none, none] ∧ HdI f row f.head.length bl) ∨
    ∃ d ρ, forT (setG 4) tb ((List.range' 0 f.head.length).map fun i : Nat => PyData.int (i : Int)) [some f.d, some (sgD row), some (.list []), some (.list []), none, none, none, none, none, none, none] = .ok (.rt d) ρ ∧ BadB d ∧ Stuck f (first f) row := by
  intro tb
  have lp := forT_inv (g := setG 4) (tb := tb) (fun i : Nat => PyData.int (i : Int))
    (fun (rest : List Nat) (ρ : Rho) => ∃ i bl x, ρ = [some f.d, some (sgD row), some (.list []), some (ntD bl), x, none, none, none, none, none, none] ∧ rest = List.range' i (f.head.length - i) ∧ HdI f row i bl)
    (fun _ => False) (fun d _ => BadB d ∧ Stuck f (first f) row) (by
      rintro j rest ρ ⟨i, bl, x, rfl, hr, I⟩
      refine ⟨_, rfl, ?_⟩
      have hi : i < f.head.length := by
        rcases Nat.lt_or_ge i f.head.length with q | q
        · exact q
        · rw [Nat.sub_eq_zero_of_le q] at hr; cases hr
      rw [show f.head.length - i = (f.head.length - (i + 1)) + 1 by omega, List.range'_succ] at hr
      obtain ⟨rfl, hr⟩ := List.cons.inj hr
      have e1 : atI (f.head.map mkD) (j : Int) = some (mkD f.head[j]) := by
        rw [Z.atI_nat, List.getElem?_map, List.getElem?_eq_getElem hi]; rfl
      have bll : bl.length ≤ 10000 := by
        have : bl.length ≤ (row.take j).length := by
          rw [I.b]
          exact blindF_len f _ _ _
        simp at this
        omega
      by_cases hp : j < row.length
      · have hp' : ¬ row.length ≤ j := by omega
        have e2 := sg_at hp
        cases hm : f.head[j] with
        | none =>
          refine .inl ⟨[some f.d, some (sgD row), some (.list []), some (ntD (bl ++ [j])), some (.int (j : Int)), none, none, none, none, none, none], .inl ?_, j + 1, _, _, rfl, hr, ?_⟩
          · simp [tb, len_sg, hp', e1, hm, mkD, ntD]
            rw [sizeLine_eq]; omega
          · have hn := I.next hi hp (fun m q => by rw [List.getElem?_eq_getElem hi, hm] at q; cases q)
            have hk : looking f (.head j) = false := by simp [looking, List.getElem?_eq_getElem hi, hm]
            rwa [hk] at hn
        | some m =>
          by_cases hs : m = row[j]
          · refine .inl ⟨[some f.d, some (sgD row), some (.list []), some (ntD bl), some (.int (j : Int)), none, none, none, none, none, none], .inl ?_, j + 1, _, _, rfl, hr, ?_⟩
            · simp [tb, len_sg, hp', e1, hm, mkD, e2, hs]
            · have hn := I.next hi hp (fun m' q => by rw [List.getElem?_eq_getElem hi, hm] at q; cases q; exact hs)
              have hk : looking f (.head j) = true := by simp [looking, List.getElem?_eq_getElem hi, hm]
              rw [hk] at hn
              simpa using hn
          · exact .inr (.inr ⟨.tuple [.none, .none, .tuple [.int (j : Int), .str "head"]], _, by simp [tb, len_sg, hp', e1, hm, mkD, e2, hs]; rfl, ⟨_, _, rfl⟩, by
            have q := I.r.stuck (l2 := row.drop j) (by
              rw [List.drop_eq_getElem_cons hp, show hdSt f j = .head j from if_pos hi]
              exact stuck_none (by simp [step, List.getElem?_eq_getElem hi, hm, hs]))
            rwa [List.take_append_drop] at q⟩)
      · have hp' : row.length ≤ j := by omega
        exact .inr (.inr ⟨.tuple [.none, .none, .tuple [.int row.length, .str "short"]], _, by simp [tb, len_sg, hp']; rfl, ⟨_, _, rfl⟩, by
            have q := I.r.stuck (l2 := row.drop j) (by
              rw [List.drop_eq_nil_of_le hp', show hdSt f j = .head j from if_pos hi]
              exact stuck_nil rfl)
            rwa [List.take_append_drop] at q⟩))
    (List.range' 0 f.head.length) [some f.d, some (sgD row), some (.list []), some (.list []), none, none, none, none, none, none, none]
    ⟨0, [], none, rfl, by simp, HdI.zero f row⟩
  rcases lp with ⟨ρ', e, hI | hF⟩ | ⟨d, ρ', e, hb⟩
  · obtain ⟨i, bl, x, rfl, hr, I⟩ := hI
    have hi : i = f.head.length := by
      rcases Nat.lt_or_ge i f.head.length with q | q
      · rw [show f.head.length - i = (f.head.length - (i + 1)) + 1 by omega, List.range'_succ] at hr; cases hr
      · exact Nat.le_antisymm I.h q
    subst hi
    exact .inl ⟨bl, x, e, I⟩
  · exact hF.elim
  · exact .inr ⟨d, ρ', e, hb⟩
theorem ended_eq {f : Fmt} (h : f.Ok) (a b c d e g i j k : Option D) : lcT [10] (seqT (Z.binT idxD (varT 0) (cT (.int 4)))) (setG 10) (isB (Z.binT inD (Z.binT idxD (varT 10) (cT (.int 1))) (tupT (consT (cT (.str ("end" : Str))) (consT (cT (.str ("stop" : Str))) (nilT)))))) (varT 10) [some f.d, a, b, c, d, e, g, i, j, k, none] = .ok (.list ((f.tags.filter isEnd).map tgD)) [some f.d, a, b, c, d, e, g, i, j, k, none] := by
  have tl := h.tl
  exact lcT_pure (vs := [10]) (Ti := seqT (Z.binT idxD (varT 0) (cT (.int 4)))) (g := setG 10) (tt := isB (Z.binT inD (Z.binT idxD (varT 10) (cT (.int 1))) (tupT (consT (cT (.str ("end" : Str))) (consT (cT (.str ("stop" : Str))) (nilT)))))) (te := varT 10)
    f.tags tgD isEnd tgD (fun t => [some f.d, a, b, c, d, e, g, i, j, k, some (tgD t)])
    (by simp) (fun t _ => by
      have e4 : idxD (tgD t) (.int 1) = some (.str t.2.s) := by simp [tgD]
      simp [wipeR, e4, inEnd, isEnd]) (by simp; omega)
theorem hasEnd_filter (f : Fmt) : hasEnd f = !(f.tags.filter isEnd).isEmpty := by
  unfold hasEnd
  rw [Bool.eq_iff_iff]
  simp [List.any_eq_true, isEnd, List.filter_eq_nil_iff]
  exact ⟨fun ⟨a, b, h, h'⟩ => ⟨a, b, h, fun hn => h'.resolve_left hn⟩, fun ⟨a, b, h, h'⟩ => ⟨a, b, h, (Decidable.em _).imp id h'⟩⟩
theorem reading_loop {f : Fmt} (h : f.Ok) {row : List Int} (hr : ∀ s ∈ row, 0 ≤ s ∧ s < f.base) (hl : row.length ≤ 10000) (bl0 : List Nat) (I0 : HdI f row f.head.length bl0) (x0 : Option D) :
    let tc : Rho → Out Rho Bool := isB (Z.binT ltD (varT 5) (callB lenD (consT (varT 1) (nilT))))
    let tb : Rho → Out Rho Flw := sqT (asgT 6 (callT [none, none] S__law_use (consT (varT 0) (consT (Z.binT idxD (varT 1) (varT 5)) (nilT))))) (sqT (ifT (isB (Z.binT eqD (varT 6) (cT (.str ("" : Str))))) (retT (tupT (consT (cT .none) (consT (cT .none) (consT (tupT (consT (varT 5) (consT (cT (.str ("tag" : Str))) (nilT)))) (nilT)))))) (nxT)) (sqT (ifT (isB (Z.binT eqD (varT 6) (cT (.str ("end" : Str))))) (retT (tupT (consT (callO 2 tupC) (consT (Z.binT addD (varT 3) (Z.binT lrgD (Z.binT addD (varT 5) (cT (.int 1))) (callB lenD (consT (varT 1) (nilT))))) (consT (cT .none) (nilT)))))) (nxT)) (sqT (ifT (isB (Z.binT eqD (varT 6) (cT (.str ("stop" : Str))))) (sqT (asgT 7 (Z.binT eqD (Z.binT addD (varT 5) (cT (.int 1))) (callB lenD (consT (varT 1) (nilT))))) (retT (ifT (isB (varT 7)) (tupT (consT (callO 2 tupC) (consT (varT 3) (consT (cT .none) (nilT))))) (tupT (consT (cT .none) (consT (cT .none) (consT (tupT (consT (Z.binT addD (varT 5) (cT (.int 1))) (consT (cT (.str ("behind" : Str))) (nilT)))) (nilT)))))))) (nxT)) (sqT (tgtT (tupG 2 (consG (setG 8) (consG (setG 9) (nilG)))) (callT [none, none, none, none] S__law_chunk (consT (varT 0) (consT (varT 1) (consT (Z.binT addD (varT 5) (cT (.int 1))) (consT (varT 6) (nilT))))))) (sqT (ifT (isB (Z.binT isD (varT 8) (cT .none))) (retT (tupT (consT (cT .none) (consT (cT .none) (consT (varT 9) (nilT)))))) (nxT)) (sqT (ifT (isB (Z.binT eqD (varT 6) (cT (.str ("skip" : Str))))) (asgT 3 (Z.binT catLD (varT 3) (Z.binT lrgD (Z.binT subD (varT 9) (callB lenD (consT (varT 8) (nilT)))) (varT 9)))) (appT 2 (tupT (consT (Z.binT idxD (varT 1) (varT 5)) (consT (varT 8) (nilT)))))) (asgT 5 (varT 9))))))))
    (∃ c bl y z u v w, whT tc tb fuel [some f.d, some (sgD row), some (.list []), some (ntD bl0), x0, some (.int f.head.length), none, none, none, none, none] = .ok .nx [some f.d, some (sgD row), some (.list c), some (ntD bl), x0, y, z, u, v, w, none] ∧ ∃ ps, ChI f row row.length ps bl ∧ c = (content f ps).map chD) ∨
    ∃ d ρ, whT tc tb fuel [some f.d, some (sgD row), some (.list []), some (ntD bl0), x0, some (.int f.head.length), none, none, none, none, none] = .ok (.rt d) ρ ∧ ((BadB d ∧ Stuck f (first f) row) ∨ GoodT f row d) := by
  intro tc tb
  have lp := whT_inv (tc := tc) (tb := tb)
    (fun m ρ => ∃ (p : Nat) (ps : List (Int × List Int)) (bl : List Nat) (y z u v : Option D), ρ = [some f.d, some (sgD row), some (.list ((content f ps).map chD)), some (ntD bl), x0, some (.int (p : Int)), y, z, u, v, none] ∧ m = row.length - p ∧ ChI f row p ps bl ∧ ps.length ≤ p)
    (fun ρ => ∃ (ps : List (Int × List Int)) (bl : List Nat) (y z u v w : Option D), ρ = [some f.d, some (sgD row), some (.list ((content f ps).map chD)), some (ntD bl), x0, w, y, z, u, v, none] ∧ ChI f row row.length ps bl)
    (fun d _ => (BadB d ∧ Stuck f (first f) row) ∨ GoodT f row d) (by
      rintro m ρ ⟨p, ps, bl, y, z, u, v, rfl, hm, I, hps⟩
      have hpl := I.l
      have stk : Stuck f .tag (row.drop p) → Stuck f (first f) row := fun k => by
        have q := I.r.stuck k
        rwa [List.take_append_drop] at q
      have hbl := I.blind_len
      have hcl : (content f ps).length ≤ ps.length := List.length_filter_le ..
      refine ⟨decide (p < row.length), [some f.d, some (sgD row), some (.list ((content f ps).map chD)), some (ntD bl), x0, some (.int (p : Int)), y, z, u, v, none], by simp [tc, len_sg], fun hc => ?_, fun hc => ?_⟩
      · have : p = row.length := by
          have := of_decide_eq_false hc
          omega
        subst this
        exact ⟨ps, bl, _, _, _, _, _, rfl, I⟩
      · have hp : p < row.length := of_decide_eq_true hc
        have e1 := sg_at hp
        have hd := List.drop_eq_getElem_cons hp
        cases hu : use f row[p] with
        | none =>
          exact .inr (.inr ⟨.tuple [.none, .none, .tuple [.int (p : Int), .str "tag"]], _, by simp [tb, e1, law_use_eq, hu, uS_none]; rfl, .inl ⟨⟨_, _, rfl⟩, stk (by rw [hd]; exact stuck_none (by simp [step, hu]))⟩⟩)
        | some us =>
          by_cases h1 : us = .end_
          · subst h1
            have hlr := lrg_nats (p + 1) (row.length - (p + 1)) (by omega)
            rw [show ((p + 1 : Nat) : Int) + ((row.length - (p + 1) : Nat) : Int) = (row.length : Int) by omega, show ((p + 1 : Nat) : Int) = (p : Int) + 1 by omega] at hlr
            have had := add_nt bl (List.range' (p + 1) (row.length - (p + 1))) (by simp; omega)
            refine .inr (.inr ⟨.tuple [coD (content f ps), ntD (bl ++ List.range' (p + 1) (row.length - (p + 1))), .none], _, by simp [tb, e1, law_use_eq, hu, uS_none, uS_end, len_sg, hlr, had, coD]; rfl, .inr ?_⟩)
            have he : EndOk f (row.drop p) := .inr (.inl ⟨row[p], row.drop (p + 1), hd, hu⟩)
            obtain ⟨F1, F2⟩ := I.file he
            refine ⟨_, F1, F2, ?_⟩
            have e2 : blindF f (first f) 0 row = bl ++ List.range' (p + 1) (row.length - (p + 1)) := by
              conv => lhs; rw [← List.take_append_drop p row]
              rw [blindF_app I.r, ← I.b, hd, blindF]
              have hs : step f .tag row[p] = some .room := by simp [step, hu]
              rw [hs]
              simp only [blind_room, List.length_drop, looking, List.length_take, Nat.min_eq_left hpl, Nat.zero_add]
              simp
            rw [e2]
          · by_cases h2 : us = .stop
            · subst h2
              by_cases hg : p + 1 = row.length
              · have hg' : (p : Int) + 1 = (row.length : Int) := by omega
                refine .inr (.inr ⟨.tuple [coD (content f ps), ntD bl, .none], _, by simp [tb, e1, law_use_eq, hu, uS_none, uS_end, uS_stop, len_sg, hg', coD]; rfl, .inr ?_⟩)
                have hd0 : row.drop (p + 1) = [] := List.drop_eq_nil_of_le (by omega)
                have he : EndOk f (row.drop p) := .inr (.inr ⟨row[p], by rw [hd, hd0], hu⟩)
                obtain ⟨F1, F2⟩ := I.file he
                refine ⟨_, F1, F2, ?_⟩
                have e2 : blindF f (first f) 0 row = bl := by
                  conv => lhs; rw [← List.take_append_drop p row]
                  rw [blindF_app I.r, ← I.b, hd, hd0]
                  simp [blindF, looking, step, hu]
                rw [e2]
              · have hg' : ¬ ((p : Int) + 1 = (row.length : Int)) := by omega
                exact .inr (.inr ⟨.tuple [.none, .none, .tuple [.int ((p : Int) + 1), .str "behind"]], _, by simp [tb, e1, law_use_eq, hu, uS_none, uS_end, uS_stop, len_sg, hg']; rfl, .inl ⟨⟨_, _, rfl⟩, stk (by
                  rw [hd, List.drop_eq_getElem_cons (show p + 1 < row.length by omega)]
                  exact stuck_cons (st1 := .over) (by simp [step, hu]) (stuck_none rfl))⟩⟩)
            · have hch : us.chunk = true := by cases us <;> simp [Use.chunk] at h1 h2 ⊢
              obtain ⟨d, ec, ⟨hdb, hst⟩ | ⟨b, k, rfl, hb, hk, hpk, hsp⟩⟩ := law_chunk_eq h hr (p + 1) us
              · obtain ⟨a, w, rfl⟩ := hdb
                rw [show ((p + 1 : Nat) : Int) = (p : Int) + 1 by omega] at ec
                exact .inr (.inr ⟨.tuple [.none, .none, .tuple [.int a, .str w]], _, by simp [tb, e1, law_use_eq, hu, useS, uS_none, uS_end, uS_stop, h1, h2, us_end, us_stop, us_emp, ec]; rfl, .inl ⟨⟨_, _, rfl⟩, stk (by
                  rw [hd]
                  exact stuck_cons (st1 := .len us) (by cases us <;> simp [Use.chunk] at hch <;> simp [step, hu]) hst)⟩⟩)
              · rw [show ((p + 1 : Nat) : Int) = (p : Int) + 1 by omega] at ec
                obtain ⟨I', hke⟩ := I.next h hp us hu hch b hb hk hpk hsp
                have hbl2 := I'.blind_len
                by_cases h3 : us = .skip
                · subst h3
                  refine .inl ⟨[some f.d, some (sgD row), some (.list ((content f (ps ++ [(row[p], b)])).map chD)), some (ntD (bl ++ List.range' (p + 1 + (lenS f b.length).length) b.length)), x0, some (.int (k : Int)), some (.str Use.skip.s), z, some (sgD b), some (.int (k : Int)), none], row.length - k, .inl ?_, by omega, k, _, _, _, _, _, _, rfl, rfl, by simpa using I', by simp; omega⟩
                  have hlr := lrg_nats (p + 1 + (lenS f b.length).length) b.length (by simp at hke; omega)
                  have q1 : ((p + 1 + (lenS f b.length).length : Nat) : Int) = (k : Int) - (b.length : Int) := by simp at hke; omega
                  have q2 : ((p + 1 + (lenS f b.length).length : Nat) : Int) + ((b.length : Nat) : Int) = (k : Int) := by simp at hke; omega
                  rw [q2, q1] at hlr
                  have hct := cat_nt bl (List.range' (p + 1 + (lenS f b.length).length) b.length) (by simp at hbl2 ⊢; omega)
                  rw [content_snoc, hu]
                  simp [tb, e1, law_use_eq, hu, useS, h1, h2, us_end, us_stop, us_skip, us_emp, ec, len_sg, hlr, hct, useTold, Use.told, sgN]
                · have ht : us.told = true := by cases us <;> simp [Use.chunk, Use.told] at h3 hch ⊢
                  refine .inl ⟨[some f.d, some (sgD row), some (.list ((content f (ps ++ [(row[p], b)])).map chD)), some (ntD bl), x0, some (.int (k : Int)), some (.str us.s), z, some (sgD b), some (.int (k : Int)), none], row.length - k, .inl ?_, by omega, k, _, _, _, _, _, _, rfl, rfl, by simpa [h3] using I', by simp; omega⟩
                  rw [content_snoc, hu]
                  simp [tb, e1, law_use_eq, hu, useS, h1, h2, h3, us_end, us_stop, us_skip, us_emp, ec, useTold, ht, chD, sgN]
                  rw [sizeLine_eq]; omega)
    fuel (row.length - f.head.length) [some f.d, some (sgD row), some (.list []), some (ntD bl0), x0, some (.int f.head.length), none, none, none, none, none]
    ⟨f.head.length, [], bl0, _, _, _, _, rfl, rfl, ChI.zero I0, by simp⟩ (by rw [fuel_eq]; omega)
  rcases lp with ⟨ρ', e, ps, bl, y, z, u, v, w, rfl, I⟩ | ⟨d, ρ', e, hb⟩
  · exact .inl ⟨_, bl, _, _, _, _, _, e, ps, I, rfl⟩
  · exact .inr ⟨d, ρ', e, hb⟩
theorem law_reading_eq {f : Fmt} (h : f.Ok) {row : List Int} (hr : ∀ s ∈ row, 0 ≤ s ∧ s < f.base) (hl : row.length ≤ 10000) : ∃ d, S__law_reading [f.d, sgD row] = .ok d [] ∧ ((BadB d ∧ Stuck f (first f) row) ∨ GoodT f row d) := by
  simp only [S__law_reading, T__law_reading, runF_eq, rho0]
  have rg : rng1D [.int (f.head.length : Int)] = some ((List.range' 0 f.head.length).map fun i : Nat => PyData.int (i : Int)) := by
    have := rng_nat (f.head.length : Int) (by omega) (by have := h.hl; omega)
    rwa [Int.toNat_natCast, List.range_eq_range'] at this
  have hn : lenD [.tuple (f.head.map mkD)] = some (.int f.head.length) := by simp
  rcases reading_head h hl with ⟨bl0, x0, e1, I0⟩ | ⟨d, ρ, e1, hb⟩
  · rcases reading_loop h hr hl bl0 I0 x0 with ⟨c, bl, y, z, u, v, w, e2, ps, I, rfl⟩ | ⟨d, ρ, e2, hb⟩
    · have ee := ended_eq h (some (sgD row)) (some (.list ((content f ps).map chD))) (some (ntD bl)) x0 y z u v w
      have ne := lists_ne ((f.tags.filter isEnd).map tgD) (lay_tg _)
      by_cases hz : f.tags.filter isEnd = []
      · refine ⟨.tuple [coD (content f ps), ntD bl, .none], ?_, .inr ?_⟩
        · rw [hz] at ee ne
          simp only [sqT_eq, par2T_eq, forS_eq, rngT_eq, consT_eq, lstT_eq, nilT_eq, bind_ok, sqK_nx, List.length_nil]
          simp at ee ne ⊢
          simp [rg, e1, e2, ee, ne, coD]
        · have hend : hasEnd f = false := by rw [hasEnd_filter, hz]; rfl
          have hd0 : row.drop row.length = [] := List.drop_eq_nil_of_le (Nat.le_refl _)
          obtain ⟨F1, F2⟩ := I.file (.inl ⟨hend, hd0⟩)
          refine ⟨_, F1, F2, ?_⟩
          have := I.b
          rw [List.take_length] at this
          rw [this]
      · refine ⟨.tuple [.none, .none, .tuple [.int row.length, .str "short"]], ?_, .inl ⟨⟨_, _, rfl⟩, ?_⟩⟩
        rotate_left
        · have r := I.r
          rw [List.take_length] at r
          have q := r.stuck (l2 := []) (stuck_nil (by
            have : hasEnd f = true := by rw [hasEnd_filter]; cases hq : f.tags.filter isEnd with
              | nil => exact absurd hq hz
              | cons a b => rfl
            simp [ending, this]))
          rwa [List.append_nil] at q
        simp at ee ne ⊢
        simp [rg, e1, e2, ee, ne, hz, len_sg]
    · exact ⟨d, by simp at e1 e2 ⊢; simp [rg, e1, e2], hb⟩
  · exact ⟨d, by simp at e1 ⊢; simp [rg, e1], .inl hb⟩
/-! ### a drawn file -/
def InB (b : Int) (l : List Int) : Prop := ∀ s ∈ l, 0 ≤ s ∧ s < b
theorem InB.app {b : Int} {l m : List Int} (h : InB b l) (h' : InB b m) : InB b (l ++ m) := fun s hs => (List.mem_append.mp hs).elim (h s) (h' s)
theorem InB.one {b s : Int} (h : 0 ≤ s) (h' : s < b) : InB b [s] := fun q hq => by rw [List.mem_singleton.mp hq]; exact ⟨h, h'⟩
theorem InB.nil {b : Int} : InB b [] := fun _ h => by cases h
theorem InB.two {b s t : Int} (h : 0 ≤ s ∧ s < b) (h' : 0 ≤ t ∧ t < b) : InB b [s, t] := fun q hq => by
  rcases List.mem_cons.mp hq with rfl | hq
  · exact h
  · rw [List.mem_singleton.mp hq]; exact h'
theorem InB.take {b : Int} {l : List Int} (h : InB b l) (n : Nat) : InB b (l.take n) := fun s hs => h s (List.mem_of_mem_take hs)
theorem InB.drop {b : Int} {l : List Int} (h : InB b l) (n : Nat) : InB b (l.drop n) := fun s hs => h s (List.mem_of_mem_drop hs)
theorem turn_draw {n : Nat} {d : D} (hB : Bag n d) (base : Int) (h0 : 2 ≤ base) (h1 : base ≤ 256) (m : Nat) (hm : m ≤ 1000) (hn : n + 2000 ≤ 1000000000000) (a1 a2 a4 a5 a6 a7 a8 a9 a10 a11 a12 a13 a14 : Option D) :
    ∃ (l : List Int) (d' : D), lcT [15] (fun ρ => .ok ((List.range m).map fun i : Nat => PyData.int (i : Int)) ρ) (setG 15) yesT (callT [some 0, none] S__law_grab (ownT 0 (consT (varT 3) (nilT)))) [some d, a1, a2, some (.int base), a4, a5, a6, a7, a8, a9, a10, a11, a12, a13, a14, none]
      = .ok (.list (l.map .int)) [some d', a1, a2, some (.int base), a4, a5, a6, a7, a8, a9, a10, a11, a12, a13, a14, none] ∧ Bag (n + m) d' ∧ InB base l ∧ l.length = m := by
  obtain ⟨l, ρ', er, bag, x, xs, rfl, rfl, ⟨m', hb, hm'⟩, ho, hl⟩ := lcLoop_inv (vs := [15]) (g := setG 15) (tt := yesT) (te := callT [some 0, none] S__law_grab (ownT 0 (consT (varT 3) (nilT))))
    (fun i : Nat => PyData.int (i : Int))
    (fun rest acc ρ => ∃ bag x xs, ρ = [some bag, a1, a2, some (.int base), a4, a5, a6, a7, a8, a9, a10, a11, a12, a13, a14, x] ∧ acc = xs.map .int ∧ (∃ m', Bag m' bag ∧ m' + rest.length ≤ n + m) ∧ InB base xs ∧ xs.length + rest.length = m)
    (by
      rintro s rest acc ρ ⟨bag, x, xs, rfl, rfl, ⟨m', hb, hm'⟩, ho, hl⟩
      rw [List.length_cons] at hm' hl
      obtain ⟨v, bag1, e1, hv0, hv1, hb1⟩ := grab_eq hb (by omega) base (by omega) (by omega)
      refine ⟨[some bag, a1, a2, some (.int base), a4, a5, a6, a7, a8, a9, a10, a11, a12, a13, a14, some (.int (s : Int))], by simp [wipeR], true, [some bag, a1, a2, some (.int base), a4, a5, a6, a7, a8, a9, a10, a11, a12, a13, a14, some (.int (s : Int))], by simp [yesT], fun _ => ?_, fun h => by cases h⟩
      exact ⟨.int v, [some bag1, a1, a2, some (.int base), a4, a5, a6, a7, a8, a9, a10, a11, a12, a13, a14, some (.int (s : Int))], by simp [e1], by simp only [List.length_map]; rw [sizeLine_eq]; omega, bag1, _, xs ++ [v], rfl, by simp, ⟨m' + 1, hb1, by omega⟩, ho.app (InB.one hv0 hv1), by simp; omega⟩)
    (List.range m) [] [some d, a1, a2, some (.int base), a4, a5, a6, a7, a8, a9, a10, a11, a12, a13, a14, none]
    ⟨d, none, [], rfl, rfl, ⟨n, hB, by simp⟩, InB.nil, by simp⟩
  refine ⟨xs, bag, ?_, hb.mono (by simp at hm'; omega), ho, by simpa using hl⟩
  have := lcT_run (vs := [15]) (Ti := fun ρ => .ok ((List.range m).map fun i : Nat => PyData.int (i : Int)) ρ) (ρ := [some d, a1, a2, some (.int base), a4, a5, a6, a7, a8, a9, a10, a11, a12, a13, a14, none]) rfl er
  simpa [putBack] using this
theorem lcT_iter {vs : List Nat} {Ti : Rho → Out Rho (List D)} {g : D → Rho → Option Rho} {tt : Rho → Out Rho Bool} {te : Rho → Out Rho D} {ρ ρ1 : Rho} {ds : List D} (hi : Ti ρ = .ok ds ρ1) : lcT vs Ti g tt te ρ = lcT vs (fun ρ => .ok ds ρ) g tt te ρ1 := by
  unfold lcT
  rw [hi]
theorem head_fill {n : Nat} {d : D} (hB : Bag n d) {f : Fmt} (h : f.Ok) (hn : n + 3000 ≤ 1000000000000) (many : D) :
    ∃ (l : List Int) (d' : D), lcT [14] (seqT (Z.binT idxD (varT 1) (cT (.int 1)))) (setG 14) (yesT) (ifT (isB (Z.binT isD (varT 14) (cT .none))) (callT [some 0, none] S__law_grab (ownT 0 (consT (Z.binT idxD (varT 1) (cT (.int 0))) (nilT)))) (varT 14)) [some d, some f.d, some many, none, none, none, none, none, none, none, none, none, none, none, none, none]
      = .ok (.list (l.map .int)) [some d', some f.d, some many, none, none, none, none, none, none, none, none, none, none, none, none, none] ∧ Bag (n + 1000) d' ∧ InB f.base l ∧ l.length = f.head.length := by
  have hb2 := h.b2
  have hb3 := h.b256
  have hl := h.hl
  obtain ⟨l, ρ', er, bag, x, xs, rfl, rfl, ⟨m', hb, hm'⟩, ho, hl'⟩ := lcLoop_inv (vs := [14]) (g := setG 14) (tt := yesT) (te := ifT (isB (Z.binT isD (varT 14) (cT .none))) (callT [some 0, none] S__law_grab (ownT 0 (consT (Z.binT idxD (varT 1) (cT (.int 0))) (nilT)))) (varT 14))
    mkD
    (fun rest acc ρ => ∃ bag x xs, ρ = [some bag, some f.d, some many, none, none, none, none, none, none, none, none, none, none, none, x, none] ∧ acc = xs.map .int ∧ (∃ m', Bag m' bag ∧ m' + rest.length ≤ n + 1000) ∧ InB f.base xs ∧ xs.length + rest.length = f.head.length ∧ ∀ i, some i ∈ rest → 0 ≤ i ∧ i < f.base)
    (by
      rintro s rest acc ρ ⟨bag, x, xs, rfl, rfl, ⟨m', hb, hm'⟩, ho, hl, hin⟩
      rw [List.length_cons] at hm' hl
      obtain ⟨v, bag1, e1, hv0, hv1, hb1⟩ := grab_eq hb (by omega) f.base (by omega) (by omega)
      refine ⟨[some bag, some f.d, some many, none, none, none, none, none, none, none, none, none, none, none, some (mkD s), none], by simp [wipeR], true, [some bag, some f.d, some many, none, none, none, none, none, none, none, none, none, none, none, some (mkD s), none], by simp [yesT], fun _ => ?_, fun h => by cases h⟩
      cases s with
      | none => exact ⟨.int v, [some bag1, some f.d, some many, none, none, none, none, none, none, none, none, none, none, none, some .none, none], by simp [e1, mkD], by simp only [List.length_map]; rw [sizeLine_eq]; omega, bag1, _, xs ++ [v], rfl, by simp, ⟨m' + 1, hb1, by omega⟩, ho.app (InB.one hv0 hv1), by simp; omega, fun i hi => hin i (List.mem_cons_of_mem _ hi)⟩
      | some i =>
        have := hin i (List.mem_cons_self ..)
        exact ⟨.int i, [some bag, some f.d, some many, none, none, none, none, none, none, none, none, none, none, none, some (.int i), none], by simp [mkD], by simp only [List.length_map]; rw [sizeLine_eq]; omega, bag, _, xs ++ [i], rfl, by simp, ⟨m', hb, by omega⟩, ho.app (InB.one this.1 this.2), by simp; omega, fun i hi => hin i (List.mem_cons_of_mem _ hi)⟩)
    f.head [] [some d, some f.d, some many, none, none, none, none, none, none, none, none, none, none, none, none, none]
    ⟨d, none, [], rfl, rfl, ⟨n, hB, by omega⟩, InB.nil, by simp, h.hd⟩
  refine ⟨xs, bag, ?_, hb.mono (by simp at hm'; omega), ho, by simpa using hl'⟩
  have := lcT_run (vs := [14]) (Ti := seqT (Z.binT idxD (varT 1) (cT (.int 1)))) (ρ := [some d, some f.d, some many, none, none, none, none, none, none, none, none, none, none, none, none, none]) (by simp) er
  simpa [putBack] using this
theorem ends_draw {f : Fmt} (h : f.Ok) (a b c e : Option D) : lcT [12] (seqT (Z.binT idxD (varT 1) (cT (.int 4)))) (setG 12) (isB (Z.binT inD (Z.binT idxD (varT 12) (cT (.int 1))) (tupT (consT (cT (.str ("end" : Str))) (consT (cT (.str ("stop" : Str))) (nilT)))))) (varT 12) [a, some f.d, b, c, e, none, none, none, none, none, none, none, none, none, none, none] = .ok (.list ((f.tags.filter isEnd).map tgD)) [a, some f.d, b, c, e, none, none, none, none, none, none, none, none, none, none, none] := by
  have tl := h.tl
  exact lcT_pure (vs := [12]) (Ti := seqT (Z.binT idxD (varT 1) (cT (.int 4)))) (g := setG 12) (tt := isB (Z.binT inD (Z.binT idxD (varT 12) (cT (.int 1))) (tupT (consT (cT (.str ("end" : Str))) (consT (cT (.str ("stop" : Str))) (nilT)))))) (te := varT 12)
    f.tags tgD isEnd tgD (fun t => [a, some f.d, b, c, e, none, none, none, none, none, none, none, some (tgD t), none, none, none])
    (by simp) (fun t _ => by
      have e4 : idxD (tgD t) (.int 1) = some (.str t.2.s) := by simp [tgD]
      simp [wipeR, e4, inEnd, isEnd]) (by simp; omega)
theorem uS_chunk (o : Option Use) : inD (.str (useS o)) (.tuple [.str "keep", .str "check", .str "skip"]) = some (.bool (match o with | some u => u.chunk | none => false)) := by
  unfold inD inB
  have e : okIn (.str (useS o)) [.str "keep", .str "check", .str "skip"] = true := by
    have : PyData.strOk (useS o) = true := by
      cases o with
      | none => decide +kernel
      | some u => exact use_ok u
    simp [okIn, PyData.canLay0, PyData.canLayAll0, PyData.depth, PyData.depthAll, this]
    exact ⟨by decide +kernel, by decide +kernel, by decide +kernel⟩
  simp only [itemsD_tuple, e]
  cases o with
  | none => simp [PyData.eqv, useS]; decide +kernel
  | some u => cases u <;> simp [PyData.eqv, useS] <;> decide +kernel
def liD (l : List Int) : D := .list (l.map .int)
theorem liD_add (a b : List Int) (h : a.length + b.length ≤ 1000000) : addD (liD a) (liD b) = some (liD (a ++ b)) := by
  simp [addD, liD]; omega
theorem liD_cat (a b : List Int) (h : a.length + b.length ≤ 1000000) : catLD (liD a) (liD b) = some (liD (a ++ b)) := by
  simp [catLD, liD]; omega
theorem liD_sum (l : List Int) : sumD [liD l] = some (.int l.sum) := by simp [sumD, liD]
theorem asg_run {i : Nat} {T : Rho → Out Rho D} {ρ ρ1 : Rho} {d : D} (e : T ρ = .ok d ρ1) : asgT i T ρ = .ok .nx (ρ1.set i (some d)) := by
  rw [asgT_eq, e]; rfl
theorem chunk_draw {n : Nat} {d : D} (hB : Bag n d) {f : Fmt} (h : f.Ok) (hn : n + 3000 ≤ 1000000000000) (many : D) (found : List Int) (hf : InB f.base found) (hfl : found.length ≤ 100000) (es k' g7 g8 g9 g10 g11 : Option D) :
    let tb : Rho → Out Rho Flw := sqT (asgT 7 (callT [some 0, none] S__law_grab (ownT 0 (consT (varT 3) (nilT))))) (sqT (asgT 8 (callT [none, none] S__law_use (consT (varT 1) (consT (varT 7) (nilT))))) (ifT (isB (Z.binT inD (varT 8) (tupT (consT (cT (.str ("keep" : Str))) (consT (cT (.str ("check" : Str))) (consT (cT (.str ("skip" : Str))) (nilT))))))) (sqT (asgT 9 (callT [some 0, none] S__law_grab (ownT 0 (consT (Z.binT addD (callB minD (consT (Z.binT idxD (varT 1) (cT (.int 3))) (consT (Z.binT idxD (lstT (consT (cT (.int 2)) (consT (cT (.int 6)) (consT (cT (.int 150)) (nilT))))) (callT [some 0, none] S__law_grab (ownT 0 (consT (cT (.int 3)) (nilT))))) (nilT)))) (cT (.int 1))) (nilT))))) (sqT (asgT 9 (ifT (isB (Z.binT eqD (Z.binT idxD (varT 1) (cT (.int 2))) (cT (.str ("one" : Str))))) (callB minD (consT (varT 9) (consT (Z.binT subD (varT 3) (cT (.int 1))) (nilT)))) (callB minD (consT (varT 9) (consT (Z.binT subD (Z.binT mulD (varT 3) (varT 3)) (cT (.int 1))) (nilT)))))) (sqT (asgT 10 (lcT [15] (rngT rng1D (consT (varT 9) (nilT))) (setG 15) (yesT) (callT [some 0, none] S__law_grab (ownT 0 (consT (varT 3) (nilT)))))) (sqT (asgT 11 (ifT (isB (Z.binT eqD (Z.binT idxD (varT 1) (cT (.int 2))) (cT (.str ("high" : Str))))) (lstT (consT (Z.binT fdivD (varT 9) (varT 3)) (consT (Z.binT modD (callB intC (consT (varT 9) (nilT))) (varT 3)) (nilT)))) (lstT (consT (Z.binT modD (callB intC (consT (varT 9) (nilT))) (varT 3)) (consT (Z.binT fdivD (varT 9) (varT 3)) (nilT)))))) (sqT (asgT 4 (Z.binT catLD (Z.binT addD (Z.binT addD (varT 4) (lstT (consT (varT 7) (nilT)))) (ifT (isB (Z.binT eqD (Z.binT idxD (varT 1) (cT (.int 2))) (cT (.str ("one" : Str))))) (lstT (consT (varT 9) (nilT))) (varT 11))) (varT 10))) (ifT (isB (Z.binT eqD (varT 8) (cT (.str ("check" : Str))))) (appT 4 (Z.binT modD (callB intC (consT (callB sumD (consT (varT 10) (nilT))) (nilT))) (varT 3))) (nxT))))))) (nxT)))
    ∃ (found' : List Int) (d' : D) (a7 a8 a9 a10 a11 : Option D), tb [some d, some f.d, some many, some (.int f.base), some (liD found), es, k', g7, g8, g9, g10, g11, none, none, none, none] = .ok .nx [some d', some f.d, some many, some (.int f.base), some (liD found'), es, k', a7, a8, a9, a10, a11, none, none, none, none] ∧ Bag (n + 200) d' ∧ InB f.base found' ∧ found'.length ≤ found.length + 200 := by
  intro tb
  have hb2 := h.b2
  have hb3 := h.b256
  have hm0 := h.m0
  obtain ⟨sg, d1, e1, s0, s1, b1⟩ := grab_eq hB (by omega) f.base (by omega) (by omega)
  by_cases hu : (match use f sg with | some u => u.chunk | none => false) = true
  · obtain ⟨u, huu⟩ : ∃ u, use f sg = some u := by
      cases hx : use f sg with
      | none => rw [hx] at hu; cases hu
      | some u => exact ⟨u, rfl⟩
    rw [huu] at hu
    simp only at hu
    obtain ⟨v3, d2, e2, c0, c1, b2⟩ := grab_eq b1 (by omega) 3 (by decide) (by decide)
    have hw : ∃ x : Int, atI [PyData.int 2, .int 6, .int 150] v3 = some (.int x) ∧ 0 ≤ x ∧ x ≤ 150 := by
      have : v3 = 0 ∨ v3 = 1 ∨ v3 = 2 := by omega
      rcases this with rfl | rfl | rfl
      · exact ⟨2, rfl, by decide, by decide⟩
      · exact ⟨6, rfl, by decide, by decide⟩
      · exact ⟨150, rfl, by decide, by decide⟩
    obtain ⟨x, ex, x0, x1⟩ := hw
    obtain ⟨mn, hmn⟩ : ∃ mn : Int, mn = (if x < f.most then x else f.most) := ⟨_, rfl⟩
    have mn0 : 0 ≤ mn ∧ mn ≤ 150 := by rw [hmn]; split <;> omega
    obtain ⟨w1, d3, e3, p0, p1, b3⟩ := grab_eq b2 (by omega) (mn + 1) (by omega) (by omega)
    have hbb : 4 ≤ f.base * f.base := by
      have := Int.mul_le_mul hb2 hb2 (by decide) (by omega)
      omega
    obtain ⟨cap, hcap⟩ : ∃ cap : Int, cap = (if f.width = .one then f.base - 1 else f.base * f.base - 1) := ⟨_, rfl⟩
    have cap0 : 0 ≤ cap := by rw [hcap]; split <;> omega
    obtain ⟨w, hw⟩ : ∃ w : Int, w = (if cap < w1 then cap else w1) := ⟨_, rfl⟩
    have w0 : 0 ≤ w ∧ w ≤ 150 ∧ w ≤ cap := by rw [hw]; split <;> omega
    have eone : (if f.width = .one then (if f.base - 1 < w1 then f.base - 1 else w1) else (if f.base * f.base - 1 < w1 then f.base * f.base - 1 else w1)) = w := by
      rw [hw, hcap]
      split <;> rfl
    obtain ⟨l, d4, e4, b4, l0, l1⟩ := turn_draw b3 f.base hb2 hb3 w.toNat (by omega) (by omega) (some f.d) (some many) (some (liD found)) es k' (some (.int sg)) (some (.str (useS (use f sg)))) (some (.int w)) g10 g11 none none none
    have rg := rng_nat w w0.1 (by omega)
    have lcr : ∀ ρ : Rho, getS 9 ρ = some (.int w) → rngT rng1D (consT (varT 9) (nilT)) ρ = .ok ((List.range w.toNat).map fun i : Nat => PyData.int (i : Int)) ρ := fun ρ hρ => by simp [hρ, rg]
    have e4' := lcT_iter (vs := [15]) (g := setG 15) (tt := yesT) (te := callT [some 0, none] S__law_grab (ownT 0 (consT (varT 3) (nilT)))) (lcr [some d3, some f.d, some many, some (.int f.base), some (liD found), es, k', some (.int sg), some (.str (useS (use f sg))), some (.int w), g10, g11, none, none, none, none] rfl)
    rw [e4] at e4'
    have hq0 : 0 ≤ w / f.base := Int.ediv_nonneg w0.1 (by omega)
    have hr0 := Int.emod_nonneg w (show f.base ≠ 0 by omega)
    have hr1 := Int.emod_lt_of_pos w (show 0 < f.base by omega)
    have hq1 : f.width ≠ .one → w / f.base < f.base := fun hne => by
      have hc : cap = f.base * f.base - 1 := by rw [hcap, if_neg hne]
      exact Int.ediv_lt_of_lt_mul (by omega) (by omega)
    obtain ⟨sz, hsz⟩ : ∃ sz : List Int, sz = (if f.width = .high then [w / f.base, w % f.base] else [w % f.base, w / f.base]) := ⟨_, rfl⟩
    obtain ⟨ln, hln⟩ : ∃ ln : List Int, ln = (if f.width = .one then [w] else sz) := ⟨_, rfl⟩
    have lnB : InB f.base ln := by
      rw [hln]
      by_cases ho : f.width = .one
      · rw [if_pos ho]
        have : cap = f.base - 1 := by rw [hcap, if_pos ho]
        exact InB.one w0.1 (by omega)
      · rw [if_neg ho, hsz]
        have := hq1 ho
        split
        · exact InB.two ⟨hq0, this⟩ ⟨hr0, hr1⟩
        · exact InB.two ⟨hr0, hr1⟩ ⟨hq0, this⟩
    have lnl : ln.length ≤ 2 := by
      rw [hln, hsz]
      split
      · simp
      · split <;> simp
    obtain ⟨ck, hck⟩ : ∃ ck : List Int, ck = (if u = .check then [l.sum % f.base] else []) := ⟨_, rfl⟩
    have ckB : InB f.base ck := by
      rw [hck]
      split
      · exact InB.one (Int.emod_nonneg _ (by omega)) (Int.emod_lt_of_pos _ (by omega))
      · exact InB.nil
    have q1 := liD_add found [sg] (by simp; omega)
    have q2 := liD_add (found ++ [sg]) ln (by simp; omega)
    have q3 := liD_cat (found ++ [sg] ++ ln) l (by simp; omega)
    have es1 : ∀ ρ : Rho, getS 1 ρ = some f.d → getS 9 ρ = some (.int w) → getS 3 ρ = some (.int f.base) → (ifT (isB (Z.binT eqD (Z.binT idxD (varT 1) (cT (.int 2))) (cT (.str ("high" : Str))))) (lstT (consT (Z.binT fdivD (varT 9) (varT 3)) (consT (Z.binT modD (callB intC (consT (varT 9) (nilT))) (varT 3)) (nilT)))) (lstT (consT (Z.binT modD (callB intC (consT (varT 9) (nilT))) (varT 3)) (consT (Z.binT fdivD (varT 9) (varT 3)) (nilT))))) ρ = .ok (liD sz) ρ := fun ρ h1 h2 h3 => by
      rw [hsz]
      by_cases hh : f.width = .high
      · simp [h1, h2, h3, wd_high, hh, h.fdiv, h.mod, liD]
      · simp [h1, h2, h3, wd_high, hh, h.fdiv, h.mod, liD]
    have es2 : ∀ ρ : Rho, getS 1 ρ = some f.d → getS 9 ρ = some (.int w) → getS 11 ρ = some (liD sz) → (ifT (isB (Z.binT eqD (Z.binT idxD (varT 1) (cT (.int 2))) (cT (.str ("one" : Str))))) (lstT (consT (varT 9) (nilT))) (varT 11)) ρ = .ok (liD ln) ρ := fun ρ h1 h2 h3 => by
      rw [hln]
      by_cases hh : f.width = .one
      · simp [h1, h2, h3, wd_one, hh, liD]
      · simp [h1, h2, h3, wd_one, hh]
    have es3 : ∀ ρ : Rho, getS 1 ρ = some f.d → getS 9 ρ = some (.int w1) → getS 3 ρ = some (.int f.base) → (ifT (isB (Z.binT eqD (Z.binT idxD (varT 1) (cT (.int 2))) (cT (.str ("one" : Str))))) (callB minD (consT (varT 9) (consT (Z.binT subD (varT 3) (cT (.int 1))) (nilT)))) (callB minD (consT (varT 9) (consT (Z.binT subD (Z.binT mulD (varT 3) (varT 3)) (cT (.int 1))) (nilT))))) ρ = .ok (.int w) ρ := fun ρ h1 h2 h3 => by
      rw [← eone]
      by_cases hh : f.width = .one
      · simp [h1, h2, h3, wd_one, hh]
      · simp [h1, h2, h3, wd_one, hh, h.mul]
    refine ⟨found ++ [sg] ++ ln ++ l ++ ck, d4, some (.int sg), some (.str (useS (use f sg))), some (.int w), some (liD l), some (liD sz), ?_, b4.mono (by omega), (((hf.app (InB.one s0 s1)).app lnB).app l0).app ckB, ?_⟩
    · have eu : eqD (.str (useS (use f sg))) (.str "check") = some (.bool (decide (u = .check))) := by rw [huu]; exact us_check u
      have ei : inD (.str (useS (use f sg))) (.tuple [.str "keep", .str "check", .str "skip"]) = some (.bool true) := by rw [uS_chunk, huu]; simp [hu]
      have eg : (callT [some 0, none] S__law_grab (ownT 0 (consT (Z.binT addD (callB minD (consT (Z.binT idxD (varT 1) (cT (.int 3))) (consT (Z.binT idxD (lstT (consT (cT (.int 2)) (consT (cT (.int 6)) (consT (cT (.int 150)) (nilT))))) (callT [some 0, none] S__law_grab (ownT 0 (consT (cT (.int 3)) (nilT))))) (nilT)))) (cT (.int 1))) (nilT))) : Rho → Out Rho D) [some d1, some f.d, some many, some (.int f.base), some (liD found), es, k', some (.int sg), some (.str (useS (use f sg))), g9, g10, g11, none, none, none, none] = .ok (.int w1) [some d3, some f.d, some many, some (.int f.base), some (liD found), es, k', some (.int sg), some (.str (useS (use f sg))), g9, g10, g11, none, none, none, none] := by
        simp [e2, ex, ← hmn, e3]
      show tb _ = _
      have t1 : (asgT 7 (callT [some 0, none] S__law_grab (ownT 0 (consT (varT 3) (nilT)))) : Rho → Out Rho Flw) [some d, some f.d, some many, some (.int f.base), some (liD found), es, k', g7, g8, g9, g10, g11, none, none, none, none] = .ok .nx [some d1, some f.d, some many, some (.int f.base), some (liD found), es, k', some (.int sg), g8, g9, g10, g11, none, none, none, none] := by simp [e1]
      have t2 : (asgT 8 (callT [none, none] S__law_use (consT (varT 1) (consT (varT 7) (nilT)))) : Rho → Out Rho Flw) [some d1, some f.d, some many, some (.int f.base), some (liD found), es, k', some (.int sg), g8, g9, g10, g11, none, none, none, none] = .ok .nx [some d1, some f.d, some many, some (.int f.base), some (liD found), es, k', some (.int sg), some (.str (useS (use f sg))), g9, g10, g11, none, none, none, none] := by simp [law_use_eq]
      have t3 : (isB (Z.binT inD (varT 8) (tupT (consT (cT (.str ("keep" : Str))) (consT (cT (.str ("check" : Str))) (consT (cT (.str ("skip" : Str))) (nilT)))))) : Rho → Out Rho Bool) [some d1, some f.d, some many, some (.int f.base), some (liD found), es, k', some (.int sg), some (.str (useS (use f sg))), g9, g10, g11, none, none, none, none] = .ok true [some d1, some f.d, some many, some (.int f.base), some (liD found), es, k', some (.int sg), some (.str (useS (use f sg))), g9, g10, g11, none, none, none, none] := by simp [ei]
      have f4 := es3 [some d3, some f.d, some many, some (.int f.base), some (liD found), es, k', some (.int sg), some (.str (useS (use f sg))), some (.int w1), g10, g11, none, none, none, none] rfl rfl rfl
      have f5 := es1 [some d4, some f.d, some many, some (.int f.base), some (liD found), es, k', some (.int sg), some (.str (useS (use f sg))), some (.int w), some (liD l), g11, none, none, none, none] rfl rfl rfl
      have f6 := es2 [some d4, some f.d, some many, some (.int f.base), some (liD found), es, k', some (.int sg), some (.str (useS (use f sg))), some (.int w), some (liD l), some (liD sz), none, none, none, none] rfl rfl rfl
      have f7 : (Z.binT catLD (Z.binT addD (Z.binT addD (varT 4) (lstT (consT (varT 7) (nilT)))) (ifT (isB (Z.binT eqD (Z.binT idxD (varT 1) (cT (.int 2))) (cT (.str ("one" : Str))))) (lstT (consT (varT 9) (nilT))) (varT 11))) (varT 10) : Rho → Out Rho D) [some d4, some f.d, some many, some (.int f.base), some (liD found), es, k', some (.int sg), some (.str (useS (use f sg))), some (.int w), some (liD l), some (liD sz), none, none, none, none] = .ok (liD (found ++ [sg] ++ ln ++ l)) [some d4, some f.d, some many, some (.int f.base), some (liD found), es, k', some (.int sg), some (.str (useS (use f sg))), some (.int w), some (liD l), some (liD sz), none, none, none, none] := by
        have q1' : addD (liD found) (.list [.int sg]) = some (liD (found ++ [sg])) := q1
        have this : (Z.binT addD (varT 4) (lstT (consT (varT 7) (nilT))) : Rho → Out Rho D) [some d4, some f.d, some many, some (.int f.base), some (liD found), es, k', some (.int sg), some (.str (useS (use f sg))), some (.int w), some (liD l), some (liD sz), none, none, none, none] = .ok (liD (found ++ [sg])) [some d4, some f.d, some many, some (.int f.base), some (liD found), es, k', some (.int sg), some (.str (useS (use f sg))), some (.int w), some (liD l), some (liD sz), none, none, none, none] := by
          simp [q1']
        rw [Z.binT_eq, Z.binT_eq, this]
        simp only [bind_ok]
        rw [f6]
        simp only [bind_ok, q2, of_some, varT_eq, getS_succ, getS_zero, getK_some, q3]
      have t4 := eg
      have u4 : (asgT 9 (callT [some 0, none] S__law_grab (ownT 0 (consT (Z.binT addD (callB minD (consT (Z.binT idxD (varT 1) (cT (.int 3))) (consT (Z.binT idxD (lstT (consT (cT (.int 2)) (consT (cT (.int 6)) (consT (cT (.int 150)) (nilT))))) (callT [some 0, none] S__law_grab (ownT 0 (consT (cT (.int 3)) (nilT))))) (nilT)))) (cT (.int 1))) (nilT)))) : Rho → Out Rho Flw) [some d1, some f.d, some many, some (.int f.base), some (liD found), es, k', some (.int sg), some (.str (useS (use f sg))), g9, g10, g11, none, none, none, none] = .ok .nx [some d3, some f.d, some many, some (.int f.base), some (liD found), es, k', some (.int sg), some (.str (useS (use f sg))), some (.int w1), g10, g11, none, none, none, none] := by
        rw [asgT_eq, eg]; rfl
      have u5 := asg_run (i := 9) f4
      have u6 := asg_run (i := 10) e4'
      rw [show PyData.list (l.map PyData.int) = liD l from rfl] at u6
      have u7 := asg_run (i := 11) f5
      have u8 := asg_run (i := 4) f7
      simp only [List.set_cons_succ, List.set_cons_zero] at u5 u6 u7 u8
      simp only [tb, sqT_eq, t1, sqK_nx, t2]
      rw [ifT_eq, t3]
      simp only [bind_ok, if_pos, sqT_eq, u4, u5, u6, u7, u8, sqK_nx]
      by_cases hk : u = .check
      · rw [hck, if_pos hk]
        simp [eu, hk, liD_sum, h.mod]
        simp [liD]
        rw [sizeLine_eq]; omega
      · rw [hck, if_neg hk]
        simp [eu, hk]
    · have : ck.length ≤ 1 := by rw [hck]; split <;> simp
      simp only [List.length_append, List.length_cons, List.length_nil]
      omega
  · have ei : inD (.str (useS (use f sg))) (.tuple [.str "keep", .str "check", .str "skip"]) = some (.bool false) := by
      rw [uS_chunk]
      cases hx : use f sg with
      | none => rfl
      | some u => rw [hx] at hu; simp only [Bool.not_eq_true] at hu; simp only [hu]
    exact ⟨found, d1, some (.int sg), some (.str (useS (use f sg))), g9, g10, g11, by simp [tb, e1, law_use_eq, ei], b1.mono (by omega), hf, by omega⟩
theorem cut_to (l : List Int) (k : Nat) : slcD (liD l) none (some (k : Int)) = some (liD (l.take k)) := by
  show some (PyData.list (cutD (l.map PyData.int) none (some (k : Int)))) = _
  unfold cutD
  rw [HT.sIx_nat, List.length_map]
  simp only [HT.sIx_none, List.drop_zero, Nat.sub_zero, ← List.map_take, liD]
  congr 3
  rw [← List.take_take, List.take_length] <;> skip
theorem cut_from (l : List Int) (k : Nat) : slcD (liD l) (some (k : Int)) none = some (liD (l.drop k)) := by
  show some (PyData.list (cutD (l.map PyData.int) (some (k : Int)) none)) = _
  unfold cutD
  rw [HT.sIx_nat, List.length_map]
  simp only [HT.sIx_none, ← List.map_take, ← List.map_drop, liD]
  congr 3
  by_cases h : k ≤ l.length
  · rw [Nat.min_eq_left h, List.take_of_length_le (by simp)]
  · rw [Nat.min_eq_right (by omega), List.drop_eq_nil_of_le (by omega), List.drop_eq_nil_of_le (by omega)]; simp
/-! ### order of files -/
def ltAll (xs ys : List D) : Bool := PyProof.Rows.lexLt PyProof.Rows.itemOrd (PySem.W.keyToksAll xs) (PySem.W.keyToksAll ys)
theorem dataLt_tup (xs ys : List D) : PySem.W.dataLt (.tuple xs) (.tuple ys) = ltAll xs ys := by
  unfold PySem.W.dataLt ltAll
  rw [PySem.W.keyToks, PySem.W.keyToks]
theorem ltAll_nil : ltAll [] [] = false := PyProof.Rows.lex_irrefl _
theorem ltAll_int (i j : Int) (xs ys : List D) : ltAll (.int i :: xs) (.int j :: ys) = if i = j then ltAll xs ys else decide (i < j) := by
  unfold ltAll
  by_cases h : i = j
  · rw [if_pos h, PySem.W.dataLt_all_yes (x := .int i) (y := .int j) (by simp [PySem.W.alike]) (by simp [PyData.eqv, h])]
  · rw [if_neg h, PySem.W.dataLt_all_no (x := .int i) (y := .int j) (by simp [PySem.W.alike]) (by simp [PyData.eqv, h]), PySem.W.dataLt_int]
theorem alike_ints : ∀ (a b : List Int), PySem.W.alikeAll (a.map .int) (b.map .int) = true
  | [], _ => by simp [PySem.W.alikeAll]
  | _ :: _, [] => by simp [PySem.W.alikeAll]
  | x :: a, y :: b => by simp [PySem.W.alikeAll, PySem.W.alike, alike_ints a b]
theorem eqv_ints : ∀ (a b : List Int), PyData.eqvAll (a.map .int) (b.map .int) = decide (a = b)
  | [], [] => by simp [PyData.eqvAll]
  | [], _ :: _ => by simp [PyData.eqvAll]
  | _ :: _, [] => by simp [PyData.eqvAll]
  | x :: a, y :: b => by
    simp only [List.map_cons, PyData.eqvAll, PyData.eqv, eqv_ints a b]
    by_cases h : x = y <;> by_cases h' : a = b <;> simp [h, h']
theorem eqv_sg (a b : List Int) : PyData.eqv (sgD a) (sgD b) = decide (a = b) := by
  simp only [sgD, PyData.eqv, eqv_ints]
theorem ltAll_ge : ∀ (a b : List Int), a.length = b.length → (∀ (i x y : Int) (k : Nat), a[k]? = some x → b[k]? = some y → y ≤ x) → ltAll (a.map .int) (b.map .int) = false
  | [], [], _, _ => ltAll_nil
  | [], _ :: _, h, _ => by simp at h
  | _ :: _, [], h, _ => by simp at h
  | x :: a, y :: b, h, hp => by
    rw [List.map_cons, List.map_cons, ltAll_int]
    have hxy := hp 0 x y 0 rfl rfl
    have ih := ltAll_ge a b (by simpa using h) (fun i p q k h1 h2 => hp i p q (k + 1) (by simpa using h1) (by simpa using h2))
    split
    · exact ih
    · exact decide_eq_false (by omega)
theorem depth_ints : ∀ (a : List Int), PyData.depthAll (a.map .int) = 0
  | [] => by simp [PyData.depthAll]
  | x :: a => by simp [PyData.depthAll, PyData.depth, depth_ints a]
theorem len_tup_gt (a b : List Int) : gtD (.tuple [.int a.length, sgD a]) (.tuple [.int b.length, sgD b]) = some (.bool (ltAll [.int b.length, sgD b] [.int a.length, sgD a])) := by
  have hk : okOrd (.tuple [.int a.length, sgD a]) (.tuple [.int b.length, sgD b]) = true := by
    unfold okOrd
    simp [PySem.W.alike, PySem.W.alikeAll, sgD, alike_ints, PyData.depth, PyData.depthAll, depth_ints]
  show (if okOrd (.tuple [.int a.length, sgD a]) (.tuple [.int b.length, sgD b]) = true then some (PyData.bool (PySem.W.dataLt (.tuple [.int b.length, sgD b]) (.tuple [.int a.length, sgD a]))) else none) = _
  rw [if_pos hk, dataLt_tup]
/-- at most: less long, or as long and at no place more -/
theorem least_le (a b : List Int) (h : a.length ≤ b.length) (hp : a.length = b.length → ∀ (k : Nat) (x y : Int), a[k]? = some x → b[k]? = some y → x ≤ y) : gtD (.tuple [.int a.length, sgD a]) (.tuple [.int b.length, sgD b]) = some (.bool false) := by
  rw [len_tup_gt]
  congr 2
  rw [ltAll_int]
  by_cases e : (b.length : Int) = (a.length : Int)
  · rw [if_pos e]
    have e' : a.length = b.length := by omega
    by_cases hab : b = a
    · subst hab
      unfold ltAll
      rw [PySem.W.dataLt_all_yes (x := sgD b) (y := sgD b) (by simp [PySem.W.alike, sgD, alike_ints]) (by rw [eqv_sg]; simp)]
      exact ltAll_nil
    · unfold ltAll
      rw [PySem.W.dataLt_all_no (x := sgD b) (y := sgD a) (by simp [PySem.W.alike, sgD, alike_ints]) (by rw [eqv_sg]; simp [hab]), sgD, sgD, dataLt_tup]
      exact ltAll_ge b a e'.symm (fun _ x y k h1 h2 => hp e' k y x h2 h1)
  · rw [if_neg e]
    exact decide_eq_false (by omega)
/-! ### the least file -/
def writF (f : Fmt) (c : Cont) : File := ⟨f.head.map (fun m => m.getD 0), c, endS f⟩
theorem writF_signs (f : Fmt) (c : Cont) : (writF f c).signs f = writ f c := rfl
theorem told_use {o : Option Use} (h : useTold o = true) : ∃ u, o = some u ∧ u.told = true ∧ u.chunk = true := by
  cases o with
  | none => cases h
  | some u => exact ⟨u, rfl, h, by cases u <;> simp [useTold, Use.told, Use.chunk] at h ⊢⟩
theorem longest_most (f : Fmt) : longest f ≤ f.most := by unfold longest; omega
theorem endS_ok {f : Fmt} (h : f.Ok) : EndOk f (endS f) ∧ (endS f).length ≤ 1 ∧ InB f.base (endS f) := by
  unfold endS
  cases hz : f.tags.filter isEnd with
  | nil => exact ⟨.inl ⟨by rw [hasEnd_filter, hz]; rfl, rfl⟩, by simp, InB.nil⟩
  | cons t r =>
    have ht : t ∈ f.tags.filter isEnd := by rw [hz]; exact List.mem_cons_self ..
    obtain ⟨h1, h2⟩ := List.mem_filter.mp ht
    have hu := use_mem h h1
    have hb := h.tg t h1
    refine ⟨?_, by simp, InB.one hb.1 hb.2⟩
    unfold isEnd at h2
    rcases of_decide_eq_true h2 with e | e
    · exact .inr (.inl ⟨t.1, [], rfl, by rw [hu, e]⟩)
    · exact .inr (.inr ⟨t.1, rfl, by rw [hu, e]⟩)
theorem writF_ok {f : Fmt} (h : f.Ok) {c : Cont} (hc : ConOk f c) : FileOk f (writF f c) where
  hl := by simp [writF]
  hm := fun i m q => by
    show (f.head.map (fun m => m.getD 0))[i]? = some m
    rw [List.getElem?_map, q]; rfl
  ps := fun p hp => by
    obtain ⟨_, h2, h3, _⟩ := hc.t p hp
    obtain ⟨u, hu, _, hch⟩ := told_use h2
    exact ⟨u, hu, hch, Int.le_trans h3 (longest_most f)⟩
  e := (endS_ok h).1
theorem content_con {f : Fmt} {c : Cont} (hc : ConOk f c) : content f c = c := List.filter_eq_self.mpr fun p hp => (hc.t p hp).2.1
theorem lenS_in {f : Fmt} (h : f.Ok) (n : Int) (h0 : 0 ≤ n) (hn : n ≤ longest f) : InB f.base (lenS f n) := by
  have hb2 := h.b2
  have hr0 := Int.emod_nonneg n (show f.base ≠ 0 by omega)
  have hr1 := Int.emod_lt_of_pos n (show 0 < f.base by omega)
  have hq0 : 0 ≤ n / f.base := Int.ediv_nonneg h0 (by omega)
  have hq1 : f.width ≠ .one → n / f.base < f.base := fun hw => by
    have : n ≤ f.base * f.base - 1 := by
      unfold longest at hn
      rw [if_neg hw] at hn
      omega
    exact Int.ediv_lt_of_lt_mul (by omega) (by omega)
  cases hw : f.width with
  | one =>
    rw [lenS, hw]
    have : n ≤ f.base - 1 := by
      unfold longest at hn
      rw [if_pos hw] at hn
      omega
    exact InB.one h0 (by omega)
  | high =>
    rw [lenS, hw]
    exact InB.two ⟨hq0, hq1 (by rw [hw]; decide)⟩ ⟨hr0, hr1⟩
  | low =>
    rw [lenS, hw]
    exact InB.two ⟨hr0, hr1⟩ ⟨hq0, hq1 (by rw [hw]; decide)⟩
theorem lenS_le {f : Fmt} (h : f.Ok) (n : Int) (h0 : 0 ≤ n) (hm : n ≤ f.most) (hi : InB f.base (lenS f n)) : n ≤ longest f := by
  have hb2 := h.b2
  unfold longest
  cases hw : f.width with
  | one =>
    rw [lenS, hw] at hi
    have := hi n (List.mem_singleton_self n)
    simp
    omega
  | high =>
    rw [lenS, hw] at hi
    have := (hi (n / f.base) (List.mem_cons_self ..)).2
    have : n < f.base * f.base := by
      have := Int.lt_mul_of_ediv_lt (by omega) this
      exact this
    simp
    omega
  | low =>
    rw [lenS, hw] at hi
    have := (hi (n / f.base) (List.mem_cons_of_mem _ (List.mem_cons_self ..))).2
    have : n < f.base * f.base := Int.lt_mul_of_ediv_lt (by omega) this
    simp
    omega
theorem chunkS_in {f : Fmt} (h : f.Ok) {p : Int × List Int} (h1 : 0 ≤ p.1 ∧ p.1 < f.base) (h3 : (p.2.length : Int) ≤ longest f) (h5 : InB f.base p.2) : InB f.base (chunkS f p) := by
  have hb2 := h.b2
  have e : chunkS f p = [p.1] ++ (lenS f (p.2.length : Int) ++ (p.2 ++ (if use f p.1 = some .check then [p.2.sum % f.base] else []))) := rfl
  rw [e]
  refine (InB.one h1.1 h1.2).app ((lenS_in h _ (by omega) h3).app (h5.app ?_))
  split
  · exact InB.one (Int.emod_nonneg _ (by omega)) (Int.emod_lt_of_pos _ (by omega))
  · exact InB.nil
structure Small (c : Cont) : Prop where
  n : c.length ≤ 300
  b : ∀ p ∈ c, p.2.length ≤ 300
theorem flat_small (f : Fmt) : ∀ (c : Cont), (∀ p ∈ c, p.2.length ≤ 300) → (c.flatMap (chunkS f)).length ≤ c.length * 304
  | [], _ => by simp
  | p :: c, h => by
    have h1 := chunkS_len f p
    have h2 := flat_small f c (fun q hq => h q (List.mem_cons_of_mem _ hq))
    have h3 := h p (List.mem_cons_self ..)
    simp only [List.flatMap_cons, List.length_append, List.length_cons]
    omega
theorem writ_sg {f : Fmt} (h : f.Ok) {c : Cont} (hc : ConOk f c) (hs : Small c) : SgOk f (writ f c) := by
  have hb2 := h.b2
  have he := endS_ok h
  constructor
  · have h1 := flat_small f c hs.b
    have h2 := hs.n
    have h3 := h.hl
    have h4 := he.2.1
    simp only [writ, List.length_append, List.length_map]
    omega
  · have : InB f.base (writ f c) := by
      refine InB.app ?_ (InB.app ?_ he.2.2)
      · intro s hs'
        obtain ⟨m, hm, rfl⟩ := List.mem_map.mp hs'
        cases m with
        | none => simp; omega
        | some i => exact h.hd i hm
      · intro s hs'
        obtain ⟨p, hp, hsp⟩ := List.mem_flatMap.mp hs'
        obtain ⟨h1, _, h3, _, h5⟩ := hc.t p hp
        exact chunkS_in h h1 h3 h5 s hsp
    exact this
/-! ### what is told of a file is a content -/
theorem flat_ge (f : Fmt) : ∀ (ps : List (Int × List Int)), ps.length ≤ (ps.flatMap (chunkS f)).length
  | [] => by simp
  | p :: ps => by
    have := flat_ge f ps
    simp only [List.flatMap_cons, List.length_append, List.length_cons, chunkS]
    omega
theorem chunk_mem {f : Fmt} {ps : List (Int × List Int)} {p : Int × List Int} (hp : p ∈ ps) : (chunkS f p).length ≤ (ps.flatMap (chunkS f)).length := by
  induction ps with
  | nil => cases hp
  | cons q ps ih =>
    simp only [List.flatMap_cons, List.length_append]
    rcases List.mem_cons.mp hp with rfl | hp
    · omega
    · have := ih hp; omega
theorem file_con {f : Fmt} (h : f.Ok) {F : File} (hF : FileOk f F) (hi : InB f.base (F.signs f)) (hl : (F.signs f).length ≤ 300) : ConOk f (content f F.ps) ∧ Small (content f F.ps) := by
  have hfl : (F.ps.flatMap (chunkS f)).length ≤ 300 := by
    simp only [File.signs, List.length_append] at hl
    omega
  have hn : (content f F.ps).length ≤ 300 := by
    have h1 : (content f F.ps).length ≤ F.ps.length := List.length_filter_le ..
    have h2 := flat_ge f F.ps
    omega
  have hsub : ∀ p ∈ F.ps, ∀ s ∈ chunkS f p, 0 ≤ s ∧ s < f.base := fun p hp s hs => by
    refine hi s ?_
    simp only [File.signs, List.mem_append, List.mem_flatMap]
    exact .inr (.inl ⟨p, hp, hs⟩)
  have hb : ∀ p ∈ F.ps, p.2.length ≤ 300 := fun p hp => by
    have := chunk_mem (f := f) hp
    simp only [chunkS, List.length_cons, List.length_append] at this
    omega
  refine ⟨⟨by omega, fun p hp => ?_⟩, ⟨hn, fun p hp => hb p (List.mem_filter.mp hp).1⟩⟩
  obtain ⟨hp1, hp2⟩ := List.mem_filter.mp hp
  have hs := hsub p hp1
  obtain ⟨u, _, _, hm⟩ := hF.ps p hp1
  refine ⟨hs p.1 (by simp [chunkS]), hp2, ?_, by have := hb p hp1; omega, fun s hs' => hs s (by simp [chunkS, hs'])⟩
  exact lenS_le h _ (by omega) hm fun s hs' => hs s (by simp [chunkS, hs'])
theorem flat_content (f : Fmt) : ∀ (ps : List (Int × List Int)), ((content f ps).flatMap (chunkS f)).length ≤ (ps.flatMap (chunkS f)).length ∧ (((content f ps).flatMap (chunkS f)).length = (ps.flatMap (chunkS f)).length → content f ps = ps)
  | [] => by simp [content]
  | p :: ps => by
    obtain ⟨h1, h2⟩ := flat_content f ps
    have hc : 1 ≤ (chunkS f p).length := by simp [chunkS]
    simp only [content, List.filter_cons, List.flatMap_cons, List.length_append] at h1 h2 ⊢
    split
    · simp only [List.flatMap_cons, List.length_append]
      exact ⟨by omega, fun e => by rw [h2 (by omega)]⟩
    · exact ⟨by omega, fun e => by omega⟩
theorem end_le {f : Fmt} (h : f.Ok) {e : List Int} (he : EndOk f e) : (endS f).length ≤ e.length ∧ ((endS f).length = e.length → ∀ (k : Nat) (x y : Int), (endS f)[k]? = some x → e[k]? = some y → x ≤ y) := by
  have key : ∀ (t : Int) (u : Use), use f t = some u → (u = .end_ ∨ u = .stop) → ∃ t0 r, f.tags.filter isEnd = t0 :: r ∧ t0.1 ≤ t := by
    intro t u hu hus
    unfold use at hu
    cases hf : f.tags.find? (fun x => decide (x.1 = t)) with
    | none =>
      rw [hf] at hu
      simp only at hu
      split at hu
      · cases hu; rcases hus with e | e <;> cases e
      · cases hu
    | some q =>
      rw [hf] at hu
      simp only [Option.some.injEq] at hu
      have hq := List.find?_some hf
      have hqm := List.mem_of_find?_eq_some hf
      have hq1 : q.1 = t := of_decide_eq_true hq
      have hqf : q ∈ f.tags.filter isEnd := List.mem_filter.mpr ⟨hqm, by unfold isEnd; rw [hu]; exact decide_eq_true hus⟩
      cases hz : f.tags.filter isEnd with
      | nil => rw [hz] at hqf; cases hqf
      | cons t0 r =>
        refine ⟨t0, r, rfl, ?_⟩
        have hp := h.so.filter isEnd
        rw [hz] at hqf hp
        rcases List.mem_cons.mp hqf with rfl | hr
        · omega
        · have := (List.pairwise_cons.mp hp).1 q hr
          omega
  rcases he with ⟨hn, rfl⟩ | ⟨t, r, rfl, hu⟩ | ⟨t, rfl, hu⟩
  · rw [hasEnd_filter] at hn
    have hz : f.tags.filter isEnd = [] := by
      cases hz : f.tags.filter isEnd with
      | nil => rfl
      | cons a b => rw [hz] at hn; cases hn
    simp [endS, hz]
  · obtain ⟨t0, r0, hz, hle⟩ := key t _ hu (.inl rfl)
    simp only [endS, hz]
    refine ⟨by simp, fun _ k x y h1 h2 => ?_⟩
    cases k with
    | zero => simp at h1 h2; omega
    | succ k => simp at h1
  · obtain ⟨t0, r0, hz, hle⟩ := key t _ hu (.inr rfl)
    simp only [endS, hz]
    refine ⟨by simp, fun _ k x y h1 h2 => ?_⟩
    cases k with
    | zero => simp at h1 h2; omega
    | succ k => simp at h1
theorem writ_least {f : Fmt} (h : f.Ok) {F : File} (hF : FileOk f F) (hi : InB f.base (F.signs f)) : gtD (.tuple [.int (writ f (content f F.ps)).length, sgD (writ f (content f F.ps))]) (.tuple [.int (F.signs f).length, sgD (F.signs f)]) = some (.bool false) := by
  obtain ⟨a1, a2⟩ := flat_content f F.ps
  obtain ⟨b1, b2⟩ := end_le h hF.e
  have hl := hF.hl
  refine least_le _ _ ?_ ?_
  · simp only [writ, File.signs, List.length_append, List.length_map]
    omega
  · intro e k x y h1 h2
    simp only [writ, File.signs, List.length_append, List.length_map] at e
    have ec := a2 (by omega)
    have ee := b2 (by omega)
    simp only [writ, File.signs, ec] at h1 h2
    by_cases hk : k < f.head.length
    · rw [List.getElem?_append_left (by simpa using hk)] at h1
      rw [List.getElem?_append_left (by omega)] at h2
      rw [List.getElem?_map, List.getElem?_eq_getElem hk] at h1
      simp only [Option.map_some, Option.some.injEq] at h1
      cases hm : f.head[k] with
      | none =>
        rw [hm] at h1
        have hy := hi y (by simp only [File.signs, List.mem_append]; exact .inl (List.mem_of_getElem? h2))
        simp at h1
        omega
      | some i =>
        rw [hm] at h1
        have := hF.hm k i (by rw [List.getElem?_eq_getElem hk, hm])
        rw [this] at h2
        simp at h1 h2
        omega
    · rw [List.getElem?_append_right (by simpa using hk)] at h1
      rw [List.getElem?_append_right (by omega)] at h2
      rw [List.length_map] at h1
      rw [hl] at h2
      by_cases hk2 : k - f.head.length < (F.ps.flatMap (chunkS f)).length
      · rw [List.getElem?_append_left hk2] at h1 h2
        rw [h1] at h2
        cases h2
        omega
      · rw [List.getElem?_append_right (by omega)] at h1 h2
        exact ee _ x y h1 h2
theorem in_nt (k : Nat) (l : List Nat) : inD (.int (k : Int)) (ntD l) = some (.bool (decide (k ∈ l))) := by
  unfold inD inB ntD
  have e : okIn (.int (k : Int)) (l.map fun (n : Nat) => PyData.int (n : Int)) = true := by
    have h1 : ∀ l : List Nat, PyData.canLayAll0 (l.map fun (n : Nat) => PyData.int (n : Int)) = true := by
      intro l
      induction l with
      | nil => rfl
      | cons a l ih => simp [PyData.canLayAll0, PyData.canLay0, ih]
    simp [okIn, h1, PyData.canLay0, PyData.depth]
  simp only [itemsD_list, e, if_pos, Option.map_some]
  congr 2
  clear e
  induction l with
  | nil => simp
  | cons a l ih =>
    rw [List.map_cons, List.any_cons, ih]
    by_cases h : k = a
    · simp [h, PyData.eqv]
    · have : ¬ (a : Int) = (k : Int) := by omega
      simp [h, this, PyData.eqv]
theorem list_eq_nil : eqD (.list []) (.list []) = some (.bool true) := eq_nil
/-! ### a file that is read has its parts -/
theorem Run.det {f : Fmt} {st st1 : Std} {c c1 : Cont} {l : List Int} (a : Run f st c l st1 c1) : ∀ {st2 : Std} {c2 : Cont}, Run f st c l st2 c2 → st1 = st2 ∧ c1 = c2 := by
  induction a with
  | nil => intro st2 c2 b; cases b; exact ⟨rfl, rfl⟩
  | cons h hn r ih =>
    intro st2 c2 b
    cases b with
    | cons h' hn' r' =>
      rw [h] at h'; cases h'
      exact ih r'
theorem len_parse {f : Fmt} (h : f.Ok) {u : Use} {l : List Int} {st : Std} {c c' : Cont} (hi : InB f.base l) (r : Run f (.len u) c l st c') (he : ending f st = true) : ∃ (n : Nat) (l2 : List Int) (c2 : Cont), (n : Int) ≤ f.most ∧ l = lenS f n ++ l2 ∧ Run f (bodyStd u n) c2 l2 st c' := by
  have hb2 := h.b2
  cases r with
  | nil => cases he
  | @cons _ st' _ _ _ a l h1 hn r =>
    have ha := hi a (List.mem_cons_self ..)
    cases hw : f.width with
    | one =>
      simp only [step, hw] at h1
      split at h1
      · cases h1
        refine ⟨a.toNat, l, toldAt f (.len u) a c, by omega, ?_, ?_⟩
        · rw [lenS, hw, Int.toNat_of_nonneg ha.1]; rfl
        · rw [Int.toNat_of_nonneg ha.1]; exact r
      · cases h1
    | high =>
      simp only [step, hw] at h1
      split at h1
      · cases h1
        cases r with
        | nil => cases he
        | @cons _ st' _ _ _ b l h1 hn r =>
          have hb := hi b (List.mem_cons_of_mem _ (List.mem_cons_self ..))
          simp only [step, hw, if_pos] at h1
          split at h1
          · cases h1
            have hz : 0 ≤ a * f.base := Int.mul_nonneg ha.1 (by omega)
            refine ⟨(a * f.base + b).toNat, l, toldAt f (.second u a) b (toldAt f (.len u) a c), by omega, ?_, ?_⟩
            · rw [lenS, hw, Int.toNat_of_nonneg (by omega)]
              have q1 : (a * f.base + b) / f.base = a := by
                rw [Int.add_comm, Int.add_mul_ediv_right _ _ (by omega), Int.ediv_eq_zero_of_lt hb.1 hb.2]; omega
              have q2 : (a * f.base + b) % f.base = b := by
                rw [Int.add_comm, Int.add_mul_emod_self_right]; exact Int.emod_eq_of_lt hb.1 hb.2
              simp only [q1, q2]; rfl
            · rw [Int.toNat_of_nonneg (by omega)]; exact r
          · cases h1
      · cases h1
    | low =>
      simp only [step, hw] at h1
      split at h1
      · cases h1
        cases r with
        | nil => cases he
        | @cons _ st' _ _ _ b l h1 hn r =>
          have hb := hi b (List.mem_cons_of_mem _ (List.mem_cons_self ..))
          simp only [step, hw] at h1
          rw [if_neg (show ¬ (Wd.low = Wd.high) by decide)] at h1
          split at h1
          · cases h1
            have hz : 0 ≤ b * f.base := Int.mul_nonneg hb.1 (by omega)
            refine ⟨(b * f.base + a).toNat, l, toldAt f (.second u a) b (toldAt f (.len u) a c), by omega, ?_, ?_⟩
            · rw [lenS, hw, Int.toNat_of_nonneg (by omega)]
              have q1 : (b * f.base + a) / f.base = b := by
                rw [Int.add_comm, Int.add_mul_ediv_right _ _ (by omega), Int.ediv_eq_zero_of_lt ha.1 ha.2]; omega
              have q2 : (b * f.base + a) % f.base = a := by
                rw [Int.add_comm, Int.add_mul_emod_self_right]; exact Int.emod_eq_of_lt ha.1 ha.2
              simp only [q1, q2]; rfl
            · rw [Int.toNat_of_nonneg (by omega)]; exact r
          · cases h1
      · cases h1
theorem body_parse {f : Fmt} (hb : 0 < f.base) {u : Use} {st : Std} {c' : Cont} (he : ending f st = true) : ∀ (m : Nat) (tot : Int) (c : Cont) (l : List Int), Run f (.body u ((m + 1 : Nat) : Int) tot) c l st c' → ∃ (b l2 : List Int) (c2 : Cont), l = b ++ l2 ∧ b.length = m + 1 ∧ Run f (afterBody f u (if u = .check then (tot + b.sum) % f.base else tot)) c2 l2 st c'
  | 0, tot, c, l, r => by
    cases r with
    | nil => cases he
    | @cons _ st' _ _ _ s l h1 hn r =>
      simp only [step] at h1
      rw [if_neg (by omega)] at h1
      cases h1
      refine ⟨[s], l, toldAt f (.body u ((0 + 1 : Nat) : Int) tot) s c, rfl, rfl, ?_⟩
      have e : (if u = .check then Std.sum ((tot + s) % f.base) else Std.tag) = afterBody f u (if u = .check then (tot + [s].sum) % f.base else tot) := by
        by_cases hu : u = .check <;> simp [hu, afterBody]
      rw [← e]; exact r
  | m + 1, tot, c, l, r => by
    cases r with
    | nil => cases he
    | @cons _ st' _ _ _ s l h1 hn r =>
      simp only [step] at h1
      rw [if_pos (by omega)] at h1
      cases h1
      rw [show ((m + 1 + 1 : Nat) : Int) - 1 = ((m + 1 : Nat) : Int) by omega] at r
      obtain ⟨b, l2, c2, rfl, hl, r2⟩ := body_parse hb he m _ _ _ r
      refine ⟨s :: b, l2, c2, rfl, by simp [hl], ?_⟩
      have e1 : (if u = .check then ((if u = .check then (tot + s) % f.base else tot) + b.sum) % f.base else (if u = .check then (tot + s) % f.base else tot)) = (if u = .check then (tot + (s :: b).sum) % f.base else tot) := by
        by_cases hu : u = .check
        · simp only [hu, if_pos, List.sum_cons]
          rw [Int.emod_add_emod]
          congr 1
          omega
        · simp [hu]
      rw [e1] at r2
      exact r2
theorem chunk_parse {f : Fmt} (h : f.Ok) {u : Use} {l : List Int} {st : Std} {c c' : Cont} (hi : InB f.base l) (r : Run f (.len u) c l st c') (he : ending f st = true) : ∃ (b l2 : List Int) (c2 : Cont), (b.length : Int) ≤ f.most ∧ l = (lenS f b.length ++ (b ++ (if u = .check then [b.sum % f.base] else []))) ++ l2 ∧ Run f .tag c2 l2 st c' := by
  have hb2 := h.b2
  obtain ⟨n, l2, c2, hn, rfl, r2⟩ := len_parse h hi r he
  have sum : ∀ (x : Int) (c : Cont) (l : List Int), Run f (.sum x) c l st c' → ∃ (l3 : List Int) (c3 : Cont), l = [x] ++ l3 ∧ Run f .tag c3 l3 st c' := by
    intro x c l r
    cases r with
    | nil => cases he
    | @cons _ st' _ _ _ s l h1 hn r =>
      simp only [step] at h1
      split at h1
      · rename_i e; cases h1; subst e; exact ⟨l, _, rfl, r⟩
      · cases h1
  cases n with
  | zero =>
    have e : bodyStd u ((0 : Nat) : Int) = if u = .check then .sum 0 else .tag := by simp [bodyStd]
    rw [e] at r2
    by_cases hu : u = .check
    · rw [if_pos hu] at r2
      obtain ⟨l3, c3, rfl, r3⟩ := sum _ _ _ r2
      exact ⟨[], l3, c3, hn, by simp [hu], r3⟩
    · rw [if_neg hu] at r2
      exact ⟨[], l2, _, hn, by simp [hu], r2⟩
  | succ m =>
    have e : bodyStd u ((m + 1 : Nat) : Int) = .body u ((m + 1 : Nat) : Int) 0 := by
      unfold bodyStd
      rw [if_pos (by omega)]
    rw [e] at r2
    obtain ⟨b, l3, c3, rfl, hl, r3⟩ := body_parse (by omega) he m 0 _ _ r2
    by_cases hu : u = .check
    · subst hu
      simp only [afterBody, if_pos] at r3
      obtain ⟨l4, c4, rfl, r4⟩ := sum _ _ _ r3
      exact ⟨b, l4, c4, by rw [hl]; exact hn, by simp [hl], r4⟩
    · simp only [afterBody, hu, if_false] at r3
      exact ⟨b, l3, c3, by rw [hl]; exact hn, by simp [hl, hu], r3⟩
theorem tag_parse {f : Fmt} (h : f.Ok) {st : Std} {c' : Cont} (he : ending f st = true) : ∀ (n : Nat) (l : List Int) (c : Cont), l.length ≤ n → InB f.base l → Run f .tag c l st c' → ∃ (ps : List (Int × List Int)) (e : List Int), l = ps.flatMap (chunkS f) ++ e ∧ (∀ p ∈ ps, ChunkOk f p) ∧ EndOk f e
  | n, [], c, _, _, r => by
    cases r
    exact ⟨[], [], rfl, (fun p hp => by cases hp), .inl ⟨by simpa [ending] using he, rfl⟩⟩
  | 0, t :: l, c, hl, _, _ => by simp at hl
  | n + 1, t :: l, c, hl, hi, r => by
    cases r with
    | @cons _ st' _ _ _ _ _ h1 hn r =>
      simp only [step] at h1
      cases hu : use f t with
      | none => rw [hu] at h1; cases h1
      | some u =>
        rw [hu] at h1
        have ch : u.chunk = true → st' = .len u := fun hc => by cases u <;> simp [Use.chunk] at hc <;> simp at h1 <;> exact h1.symm
        by_cases hc : u.chunk = true
        · have e := ch hc
          subst e
          obtain ⟨b, l2, c2, hb, rfl, r2⟩ := chunk_parse h (fun s hs => hi s (List.mem_cons_of_mem _ hs)) r he
          obtain ⟨ps, e, rfl, hp, hen⟩ := tag_parse h he n l2 c2 (by simp at hl ⊢; omega) (fun s hs => hi s (by simp [hs])) r2
          refine ⟨(t, b) :: ps, e, ?_, ?_, hen⟩
          · simp [chunkS, hu]
          · intro p hp'
            rcases List.mem_cons.mp hp' with rfl | hp'
            · exact ⟨u, hu, hc, hb⟩
            · exact hp p hp'
        · cases u <;> simp [Use.chunk] at hc
          · exact ⟨[], t :: l, rfl, (fun p hp => by cases hp), .inr (.inl ⟨t, l, rfl, hu⟩)⟩
          · simp at h1
            subst h1
            cases r with
            | nil => exact ⟨[], [t], rfl, (fun p hp => by cases hp), .inr (.inr ⟨t, rfl, hu⟩)⟩
            | cons h2 _ _ => cases h2
theorem head_parse {f : Fmt} {st : Std} {c' : Cont} (he : ending f st = true) : ∀ (k i : Nat) (l : List Int) (c : Cont), i + k = f.head.length → Run f (hdSt f i) c l st c' → ∃ (hd l2 : List Int) (c2 : Cont), l = hd ++ l2 ∧ hd.length = k ∧ (∀ (j : Nat) (m : Int), f.head[i + j]? = some (some m) → hd[j]? = some m) ∧ Run f .tag c2 l2 st c'
  | 0, i, l, c, hk, r => by
    rw [show hdSt f i = .tag from if_neg (by omega)] at r
    refine ⟨[], l, c, rfl, rfl, fun j m q => ?_, r⟩
    rw [List.getElem?_eq_none (by omega)] at q
    cases q
  | k + 1, i, l, c, hk, r => by
    have hi : i < f.head.length := by omega
    rw [show hdSt f i = .head i from if_pos hi] at r
    cases r with
    | nil => cases he
    | @cons _ st' _ _ _ s l h1 hn r =>
      have hm : ∀ m, f.head[i]? = some (some m) → m = s := fun m q => by
        simp only [step, q] at h1
        split at h1
        · assumption
        · cases h1
      have h2 := hd_step hi hm
      rw [h1] at h2
      cases h2
      obtain ⟨hd, l2, c2, rfl, hl, hmm, r2⟩ := head_parse he k (i + 1) l _ (by omega) r
      refine ⟨s :: hd, l2, c2, rfl, by simp [hl], fun j m q => ?_, r2⟩
      cases j with
      | zero => rw [hm m q]; rfl
      | succ j =>
        have := hmm j m (by rw [show i + 1 + j = i + (j + 1) by omega]; exact q)
        simpa using this
theorem run_file {f : Fmt} (h : f.Ok) {l : List Int} {st : Std} {c : Cont} (hi : InB f.base l) (r : Run f (first f) [] l st c) (he : ending f st = true) : ∃ F : File, FileOk f F ∧ l = F.signs f ∧ c = content f F.ps := by
  have e0 : first f = hdSt f 0 := by
    unfold first hdSt
    by_cases e : f.head = []
    · rw [if_pos e, e]; rfl
    · rw [if_neg e, if_pos (List.length_pos_iff.mpr e)]
  rw [e0] at r
  obtain ⟨hd, l2, c2, rfl, hl, hm, r2⟩ := head_parse he f.head.length 0 l [] (by omega) r
  obtain ⟨ps, e, rfl, hp, hen⟩ := tag_parse h he l2.length l2 c2 (Nat.le_refl _) (fun s hs => hi s (List.mem_append_right _ hs)) r2
  have hF : FileOk f ⟨hd, ps, e⟩ := ⟨hl, fun i m q => hm i m (by rw [Nat.zero_add]; exact q), hp, hen⟩
  refine ⟨⟨hd, ps, e⟩, hF, rfl, ?_⟩
  obtain ⟨st', r', _⟩ := file_run h hF
  rw [e0] at r'
  exact (r.det r').2
/-- the law's reading tells whether it is read, and what -/
theorem reading_iff {f : Fmt} (h : f.Ok) {row : List Int} (hr : InB f.base row) (hl : row.length ≤ 10000) : ∃ d, S__law_reading [f.d, sgD row] = .ok d [] ∧
    ((BadB d ∧ ¬ ∃ st c, Run f (first f) [] row st c ∧ ending f st = true) ∨ ∃ st c, Run f (first f) [] row st c ∧ ending f st = true ∧ d = .tuple [coD c, ntD (blindF f (first f) 0 row), .none]) := by
  obtain ⟨d, e, ⟨hb, hs⟩ | ⟨F, F1, F2, rfl⟩⟩ := law_reading_eq h hr hl
  · refine ⟨d, e, .inl ⟨hb, fun ⟨st, c, r, he⟩ => ?_⟩⟩
    rw [hs _ _ _ r] at he
    cases he
  · obtain ⟨st, r, he⟩ := file_run h F1
    rw [← F2] at r
    exact ⟨_, e, .inr ⟨st, _, r, he, rfl⟩⟩
end K66

/-! file K66F1 -/
set_option Elab.async false
set_option linter.all false
set_option autoImplicit false
set_option maxRecDepth 100000
set_option maxHeartbeats 4000000
namespace K66
open PySem PySem.Spec L2 Z
/-! ### what is told, as a row of numbers -/
def tellS (f : Fmt) (st : Std) (s : Int) : List Int := match st with
  | .tag => if useTold (use f s) then [-1 - s] else []
  | .body u _ _ => if u.told then [s] else []
  | _ => []
theorem told_at_faces_eq (f : Fmt) (st : Std) (s : Int) : S_told_at_faces [f.d, st.d, .int s] = .ok (sgD (tellS f st s)) [] := by
  simp only [S_told_at_faces, T_told_at_faces, runF_eq, rho0]
  cases st with
  | tag =>
    simp [tag_eqv, use_at_eq, use_told]
    by_cases hu : useTold (use f s) = true
    · simp [hu, tellS, sgD]
    · simp [hu, tellS, sgD]
  | body u l t =>
    simp [tag_eqv]
    simp [Std.d, eqD_str, o_body, inTold]
    by_cases hu : u = .keep ∨ u = .check
    · have ht : u.told = true := by rcases hu with rfl | rfl <;> rfl
      simp [hu, tellS, ht, sgD]
    · have ht : u.told = false := by cases u <;> simp at hu ⊢ <;> rfl
      simp [hu, tellS, ht, sgD]
  | head p => simp [tag_eqv]; simp [Std.d, eqD_str, o_head, o_body, tellS, sgD]
  | len u => simp [tag_eqv]; simp [Std.d, eqD_str, o_length, o_body, tellS, sgD]
  | second u a => simp [tag_eqv]; simp [Std.d, eqD_str, o_second, o_body, tellS, sgD]
  | sum t => simp [tag_eqv]; simp [Std.d, eqD_str, o_sum, o_body, tellS, sgD]
  | room => simp [tag_eqv]; simp [Std.d, eqD_str, o_room, o_body, tellS, sgD]
  | over => simp [tag_eqv]; simp [Std.d, eqD_str, o_over, o_body, tellS, sgD]
/-! ### leads -/
abbrev Lead := Option (List Int × List Int)
def leadD : Lead → D
  | none => .none
  | some p => .tuple [sgD p.1, sgD p.2]
def cancel : List Int → List Int → Lead
  | [], r => some ([], r)
  | x :: l, [] => some (x :: l, [])
  | x :: l, y :: r => if x = y then cancel l r else none
def leadB : Lead → List Int → List Int → Lead
  | none, _, _ => none
  | some p, m, t => cancel (p.1 ++ m) (p.2 ++ t)
theorem cancel_nilr (l : List Int) : cancel l [] = some (l, []) := by cases l <;> rfl
theorem cancel_drop : ∀ (k : Nat) (a b : List Int), k ≤ a.length → k ≤ b.length → a.take k = b.take k → cancel a b = cancel (a.drop k) (b.drop k)
  | 0, a, b, _, _, _ => rfl
  | k + 1, [], b, h, _, _ => by simp at h
  | k + 1, x :: a, [], _, h, _ => by simp at h
  | k + 1, x :: a, y :: b, h1, h2, h => by
    simp only [List.take_succ_cons, List.cons.injEq] at h
    rw [cancel, if_pos h.1]
    exact cancel_drop k a b (by simpa using h1) (by simpa using h2) h.2
theorem lead_loop (L : Option D) (m t : Option D) (a b : List Int) (hl : a.length ≤ 10000000) : ∃ k : Nat, whT (andT (isB (Z.binT ltD (varT 5) (callB lenD (consT (varT 3) (nilT))))) (andT (isB (Z.binT ltD (varT 5) (callB lenD (consT (varT 4) (nilT))))) (isB (Z.binT eqD (Z.binT idxD (varT 3) (varT 5)) (Z.binT idxD (varT 4) (varT 5)))))) (asgT 5 (Z.binT addD (varT 5) (cT (.int 1)))) fuel
    [L, m, t, some (sgD a), some (sgD b), some (.int 0)] = .ok .nx [L, m, t, some (sgD a), some (sgD b), some (.int (k : Int))] ∧ k ≤ a.length ∧ k ≤ b.length ∧ a.take k = b.take k ∧ (k < a.length → k < b.length → a[k]? ≠ b[k]?) := by
  have lp := whT_inv (tc := andT (isB (Z.binT ltD (varT 5) (callB lenD (consT (varT 3) (nilT))))) (andT (isB (Z.binT ltD (varT 5) (callB lenD (consT (varT 4) (nilT))))) (isB (Z.binT eqD (Z.binT idxD (varT 3) (varT 5)) (Z.binT idxD (varT 4) (varT 5)))))) (tb := asgT 5 (Z.binT addD (varT 5) (cT (.int 1))))
    (fun n ρ => ∃ k : Nat, ρ = [L, m, t, some (sgD a), some (sgD b), some (.int (k : Int))] ∧ n = a.length - k ∧ k ≤ a.length ∧ k ≤ b.length ∧ a.take k = b.take k)
    (fun ρ => ∃ k : Nat, ρ = [L, m, t, some (sgD a), some (sgD b), some (.int (k : Int))] ∧ k ≤ a.length ∧ k ≤ b.length ∧ a.take k = b.take k ∧ (k < a.length → k < b.length → a[k]? ≠ b[k]?))
    (fun _ _ => False) (by
      rintro n ρ ⟨k, rfl, hn, ha, hb, ht⟩
      by_cases h1 : k < a.length
      · by_cases h2 : k < b.length
        · have e1 := sg_at h1
          have e2 := sg_at h2
          by_cases h3 : a[k] = b[k]
          · refine ⟨true, [L, m, t, some (sgD a), some (sgD b), some (.int (k : Int))], by simp [len_sg, h1, h2, e1, e2, h3], (fun h => by cases h), fun _ => .inl ⟨[L, m, t, some (sgD a), some (sgD b), some (.int ((k + 1 : Nat) : Int))], a.length - (k + 1), .inl ?_, by omega, k + 1, rfl, rfl, h1, h2, ?_⟩⟩
            · simp
            · rw [List.take_succ, List.take_succ, ht, List.getElem?_eq_getElem h1, List.getElem?_eq_getElem h2, h3]
          · refine ⟨false, [L, m, t, some (sgD a), some (sgD b), some (.int (k : Int))], by simp [len_sg, h1, h2, e1, e2, h3], fun _ => ⟨k, rfl, ha, hb, ht, fun _ _ => ?_⟩, fun h => by cases h⟩
            rw [List.getElem?_eq_getElem h1, List.getElem?_eq_getElem h2]
            simpa using h3
        · exact ⟨false, [L, m, t, some (sgD a), some (sgD b), some (.int (k : Int))], by simp [len_sg, h1, h2], fun _ => ⟨k, rfl, ha, hb, ht, fun _ h => absurd h h2⟩, fun h => by cases h⟩
      · exact ⟨false, [L, m, t, some (sgD a), some (sgD b), some (.int (k : Int))], by simp [len_sg, h1], fun _ => ⟨k, rfl, ha, hb, ht, fun h => absurd h h1⟩, fun h => by cases h⟩)
    fuel a.length [L, m, t, some (sgD a), some (sgD b), some (.int 0)]
    ⟨0, rfl, rfl, Nat.zero_le _, Nat.zero_le _, rfl⟩ (by rw [fuel_eq]; omega)
  rcases lp with ⟨ρ', e, k, rfl, h⟩ | ⟨_, _, _, h⟩
  · exact ⟨k, e, h⟩
  · exact h.elim
theorem addD_sg (a b : List Int) (h : a.length + b.length ≤ 10000000) : addD (sgD a) (sgD b) = some (sgD (a ++ b)) := by
  simp [addD, sgD]; omega
theorem cut_sg_from (a : List Int) (k : Nat) : slcD (sgD a) (some (k : Int)) none = some (sgD (a.drop k)) := by
  show some (PyData.tuple (cutD (a.map PyData.int) (some (k : Int)) none)) = _
  unfold cutD
  rw [HT.sIx_nat, List.length_map]
  simp only [HT.sIx_none, ← List.map_take, ← List.map_drop, sgD]
  congr 3
  by_cases h : k ≤ a.length
  · rw [Nat.min_eq_left h, List.take_of_length_le (by simp)]
  · rw [Nat.min_eq_right (by omega), List.drop_eq_nil_of_le (by omega), List.drop_eq_nil_of_le (by omega)]; simp
theorem lead_behind_eq (L : Lead) (m t : List Int) (h : ∀ p, L = some p → p.1.length + m.length ≤ 10000000 ∧ p.2.length + t.length ≤ 10000000) : S_lead_behind [leadD L, sgD m, sgD t] = .ok (leadD (leadB L m t)) [] := by
  simp only [S_lead_behind, T_lead_behind, runF_eq, rho0]
  cases L with
  | none => simp [leadD, leadB]
  | some p =>
    obtain ⟨l, r⟩ := p
    obtain ⟨h1, h2⟩ := h _ rfl
    simp only at h1 h2
    obtain ⟨k, e, k1, k2, k3, k4⟩ := lead_loop (some (leadD (some (l, r)))) (some (sgD m)) (some (sgD t)) (l ++ m) (r ++ t) (by simp; omega)
    have i0 : idxD (leadD (some (l, r))) (.int 0) = some (sgD l) := rfl
    have i1 : idxD (leadD (some (l, r))) (.int 1) = some (sgD r) := by simp [leadD]
    have a1 := addD_sg l m h1
    have a2 := addD_sg r t h2
    have nn : isNoneD (leadD (some (l, r))) = false := rfl
    have c1 := cut_sg_from (l ++ m) k
    have c2 := cut_sg_from (r ++ t) k
    have hc := cancel_drop k (l ++ m) (r ++ t) k1 k2 k3
    obtain ⟨A, hA⟩ : ∃ A, A = l ++ m := ⟨_, rfl⟩
    obtain ⟨B, hB⟩ : ∃ B, B = r ++ t := ⟨_, rfl⟩
    rw [← hA, ← hB] at e hc k4
    rw [← hA] at a1 c1 k1
    rw [← hB] at a2 c2 k2
    obtain ⟨la, hla⟩ : ∃ la : Int, la = (A.length : Int) := ⟨_, rfl⟩
    obtain ⟨lb, hlb⟩ : ∃ lb : Int, lb = (B.length : Int) := ⟨_, rfl⟩
    have n1 := len_sg A
    have n2 := len_sg B
    rw [← hla] at n1
    rw [← hlb] at n2
    have res : leadB (some (l, r)) m t = cancel (A.drop k) (B.drop k) := by
      unfold leadB
      simp only
      rw [← hA, ← hB]
      exact hc
    rw [res]
    obtain ⟨LD, hLD⟩ : ∃ LD, LD = leadD (some (l, r)) := ⟨_, rfl⟩
    rw [← hLD] at nn i0 i1 e ⊢
    by_cases ha : (k : Int) = la
    · have : A.drop k = [] := List.drop_eq_nil_of_le (by omega)
      rw [this] at c1
      rw [← ha] at n1
      simp only [this, cancel]
      simp [nn, i0, i1, a1, a2, e, n1, c1, c2]
      try simp [leadD]
    · by_cases hb : (k : Int) = lb
      · have : B.drop k = [] := List.drop_eq_nil_of_le (by omega)
        rw [this] at c2
        rw [← hb] at n2
        simp only [this, cancel_nilr]
        simp [nn, i0, i1, a1, a2, e, n1, n2, ha, c1, c2]
        try simp [leadD]
      · have ha' : k < A.length := by omega
        have hb' : k < B.length := by omega
        have hne := k4 ha' hb'
        rw [List.getElem?_eq_getElem ha', List.getElem?_eq_getElem hb'] at hne
        rw [List.drop_eq_getElem_cons ha', List.drop_eq_getElem_cons hb', cancel, if_neg (by simpa using hne)]
        simp [nn, i0, i1, a1, a2, e, n1, n2, ha, hb]
        try simp [leadD]
end K66

/-! file K66F2 -/
set_option Elab.async false
set_option linter.all false
set_option autoImplicit false
set_option maxRecDepth 100000
set_option maxHeartbeats 4000000
namespace K66
open PySem PySem.Spec L2 Z
/-! ### leads as trees -/
theorem lay_sg (l : List Int) : (sgD l).canLay0 = true := by simp [sgD, PyData.canLay0, lay_ints]
theorem depth_sg (l : List Int) : (sgD l).depth = 1 := by simp [sgD, PyData.depth, depth_ints]
theorem lay_lead (L : Lead) : (leadD L).canLay0 = true := by
  cases L with
  | none => simp [leadD, PyData.canLay0]
  | some p => simp [leadD, PyData.canLay0, PyData.canLayAll0, lay_sg]
theorem depth_lead (L : Lead) : (leadD L).depth ≤ 2 := by
  cases L with
  | none => simp [leadD, PyData.depth]
  | some p => simp [leadD, PyData.depth, PyData.depthAll, depth_sg]
theorem eqv_lead (a b : Lead) : PyData.eqv (leadD a) (leadD b) = decide (a = b) := by
  cases a with
  | none => cases b with
    | none => simp [leadD, PyData.eqv]
    | some q => simp [leadD, PyData.eqv]
  | some p => cases b with
    | none => simp [leadD, PyData.eqv]
    | some q =>
      simp only [leadD, PyData.eqv, PyData.eqvAll, eqv_sg, Bool.and_true]
      obtain ⟨a, b⟩ := p
      obtain ⟨c, d⟩ := q
      by_cases h : a = c <;> by_cases k : b = d <;> simp [h, k]
def lsD (ls : List Lead) : D := .list (ls.map leadD)
theorem lay_leads : ∀ ls : List Lead, PyData.canLayAll0 (ls.map leadD) = true
  | [] => by simp [PyData.canLayAll0]
  | L :: ls => by simp [PyData.canLayAll0, lay_lead, lay_leads ls]
theorem any_lead (L : Lead) (d : D) (hd : d = leadD L) : ∀ ls : List Lead, (ls.map leadD).any (fun y => PyData.eqv y d) = decide (L ∈ ls)
  | [] => by simp
  | M :: ls => by
    subst hd
    rw [List.map_cons, List.any_cons, eqv_lead, any_lead L _ rfl ls]
    by_cases h : L = M
    · simp [h]
    · have h' : ¬ M = L := fun z => h z.symm
      simp [h, h']
theorem in_leads (L : Lead) (d : D) (hd : d = leadD L) (ls : List Lead) : notInD d (lsD ls) = some (.bool (!decide (L ∈ ls))) := by
  have e : okIn d (ls.map leadD) = true := by
    unfold okIn
    rw [lay_leads, hd, lay_lead]
    have := depth_lead L
    simp
    omega
  unfold notInD inB lsD
  simp only [itemsD_list, e, if_true, Option.map_some, any_lead L d hd ls]
def newsB (ls : List Lead) (a : Lead) : Bool := decide (ls.length < 2) && (!decide (none ∈ ls) && !decide (a ∈ ls))
theorem is_news_eq (ls : List Lead) (a : Lead) : S_is_news [lsD ls, leadD a] = .ok (.bool (newsB ls a)) [] := by
  have h1 := in_leads none .none rfl ls
  have h2 := in_leads a _ rfl ls
  have h3 : lenD [lsD ls] = some (.int ls.length) := by simp [lsD, lenD]
  simp only [S_is_news, T_is_news, runF_eq, rho0]
  unfold newsB
  obtain ⟨n, hn⟩ : ∃ n : Int, n = (ls.length : Int) := ⟨_, rfl⟩
  rw [← hn] at h3
  have h4 : decide (ls.length < 2) = decide (n < 2) := by
    by_cases h : ls.length < 2
    · rw [decide_eq_true h, decide_eq_true (by omega)]
    · rw [decide_eq_false h, decide_eq_false (by omega)]
  rw [h4]
  obtain ⟨X, hX⟩ : ∃ X, X = lsD ls := ⟨_, rfl⟩
  rw [← hX] at h1 h2 h3 ⊢
  obtain ⟨Y, hY⟩ : ∃ Y, Y = leadD a := ⟨_, rfl⟩
  rw [← hY] at h2 ⊢
  by_cases c : n < 2
  · by_cases c2 : none ∈ ls
    · simp [h1, h2, h3, c, c2]
    · simp [h1, h2, h3, c, c2]
  · simp [h1, h2, h3, c]
def even : D := .tuple (List.replicate 2 (.tuple []))
theorem even_eq : even = leadD (some ([], [])) := rfl
theorem ne_even (L : Lead) : neD (leadD L) (.tuple (List.replicate 2 (.tuple []))) = some (.bool (!decide (L = some ([], [])))) := by
  have e : okCmp (leadD L) (leadD (some ([], []))) = true := by
    unfold okCmp
    rw [lay_lead, lay_lead]
    have := depth_lead L
    simp
    omega
  show neD (leadD L) (leadD (some ([], []))) = _
  unfold neD
  rw [if_pos e, eqv_lead]
def worseB (f g : Fmt) (st : Std) (its : Option Std) (L : Lead) : Bool := ending f st && (match its with
  | none => true
  | some t => !ending g t || !decide (L = some ([], [])))
theorem is_worse_eq {f g : Fmt} (hf : f.Ok) (hg : g.Ok) (st : Std) (its : Option Std) (L : Lead) : S_is_worse [f.d, g.d, st.d, stD its, leadD L] = .ok (.bool (worseB f g st its L)) [] := by
  have e := ne_even L
  simp only [S_is_worse, T_is_worse, runF_eq, rho0]
  unfold worseB
  obtain ⟨Y, hY⟩ : ∃ Y, Y = leadD L := ⟨_, rfl⟩
  rw [← hY] at e ⊢
  have e1 := is_ending_eq hf st
  cases its with
  | none =>
    have e2 : isNoneD (stD none) = true := rfl
    simp [e1, e2]
    by_cases c : ending f st = true
    · simp [c]
    · simp [c]
  | some t =>
    have e2 : isNoneD (stD (some t)) = false := nonD t
    have e3 : S_is_ending [g.d, stD (some t)] = _ := is_ending_eq hg t
    simp [e1, e2, e3]
    have e := e
    simp only [List.replicate] at e
    by_cases c : ending f st = true
    · by_cases c2 : ending g t = true
      · simp [c, c2, e]
      · simp [c, c2]
    · simp [c]
/-! ### the signs tried -/
theorem ending_tag_eq {f : Fmt} (h : f.Ok) : S_ending_tag [f.d] = .ok (liD (endS f)) [] := by
  have tl := h.tl
  have lc := lcT_pure (vs := [1, 2]) (Ti := seqT (Z.binT idxD (varT 0) (cT (.int 4)))) (g := tupG 2 (consG (setG 1) (consG (setG 2) (nilG)))) (tt := isB (Z.binT inD (varT 2) (tupT (consT (cT (.str ("end" : Str))) (consT (cT (.str ("stop" : Str))) (nilT)))))) (te := varT 1)
    (ρ := [some f.d, none, none]) (ρ1 := [some f.d, none, none]) f.tags tgD isEnd (fun t => .int t.1) (fun t => [some f.d, some (.int t.1), some (.str t.2.s)])
    (by simp) (fun t _ => by simp [tgD, wipeR, inEnd, isEnd]) (by simp; omega)
  have c := cut_to ((f.tags.filter isEnd).map (·.1)) 1
  rw [show liD ((f.tags.filter isEnd).map (·.1)) = .list ((f.tags.filter isEnd).map fun t => .int t.1) by simp [liD, Function.comp_def]] at c
  simp only [S_ending_tag, T_ending_tag, runF_eq, rho0]
  have e : ((f.tags.filter isEnd).map (·.1)).take 1 = endS f := by
    unfold endS
    cases f.tags.filter isEnd <;> rfl
  rw [e] at c
  have c' : slcD (.list ((f.tags.filter isEnd).map fun t => PyData.int t.1)) none (some 1) = some (liD (endS f)) := c
  simp [lc, c']
def irow (b : Int) : List Int := (List.range b.toNat).map fun (i : Nat) => (i : Int)
def wsig (f : Fmt) : Std → List Int
  | .tag => srtI ((f.tags.filter isTold).map (·.1) ++ endS f)
  | .head p => match f.head[p]? with
    | some (some m) => [m]
    | _ => [0]
  | .len _ => irow f.base
  | .second _ _ => irow f.base
  | .body _ _ _ => irow f.base
  | .sum _ => irow f.base
  | .room => []
  | .over => []
theorem intsD_map : ∀ l : List Int, intsD (l.map .int) = some l
  | [] => rfl
  | i :: l => by
    show (intsD (l.map .int)).map (i :: ·) = _
    rw [intsD_map l]; rfl
theorem srt_li (l : List Int) : srtD (liD l) = some (liD (srtI l)) := by
  show (intsD (l.map .int)).map _ = _
  rw [intsD_map]; rfl
theorem lrg1_eq {f : Fmt} (h : f.Ok) : lrg1D (.int f.base) = some (liD (irow f.base)) := by
  have h2 := h.b2
  have h3 := h.b256
  have r := rng_nats 0 f.base.toNat
  have e : ((0 : Nat) : Int) + (f.base.toNat : Int) = f.base := by omega
  rw [e] at r
  have l := lrg_nats 0 f.base.toNat (by omega)
  unfold lrg1D
  simp only
  have ok : rgOkB 0 f.base = true := by
    unfold rgOkB
    simp
    omega
  rw [if_pos ok]
  have r' : rng 0 f.base = _ := r
  rw [r']
  simp [liD, irow, List.range_eq_range', Function.comp_def]
def Std.w : Std → Str
  | .head _ => "head"
  | .tag => "tag"
  | .len _ => "length"
  | .second _ _ => "second"
  | .body _ _ _ => "body"
  | .sum _ => "sum"
  | .room => "room"
  | .over => "over"
theorem std_w (st : Std) : idxD st.d (.int 0) = some (.str st.w) := by cases st <;> simp [Std.d, Std.w]
theorem w_head (st : Std) : eqD (.str st.w) (.str "head") = some (.bool (match st with | .head _ => true | _ => false)) := by
  cases st <;> simp [Std.w, eqD_str, o_head, o_tag, o_length, o_second, o_body, o_sum, o_room, o_over]
theorem w_row (st : Std) : inD (.str st.w) (.tuple [.str "length", .str "second", .str "body", .str "sum"]) = some (.bool (match st with | .len _ => true | .second _ _ => true | .body _ _ _ => true | .sum _ => true | _ => false)) := by
  have hw : PyData.strOk st.w = true := by cases st <;> simp [Std.w, o_head, o_tag, o_length, o_second, o_body, o_sum, o_room, o_over]
  unfold inD inB
  have e : okIn (.str st.w) [.str "length", .str "second", .str "body", .str "sum"] = true := by
    simp [okIn, PyData.canLay0, PyData.canLayAll0, PyData.depth, PyData.depthAll, hw, o_length, o_second, o_body, o_sum]
  simp only [itemsD_tuple, e]
  cases st <;> simp [PyData.eqv, Std.w]
theorem told_lc {f : Fmt} (h : f.Ok) (S : Option D) : lcT [2, 3] (seqT (Z.binT idxD (varT 0) (cT (.int 4)))) (tupG 2 (consG (setG 2) (consG (setG 3) (nilG)))) (isB (Z.binT inD (varT 3) (cT (.tuple [.str ("keep" : Str), .str ("check" : Str)])))) (varT 2) [some f.d, S, none, none] = .ok (liD ((f.tags.filter isTold).map (·.1))) [some f.d, S, none, none] := by
  have tl := h.tl
  have lc := lcT_pure (vs := [2, 3]) (Ti := seqT (Z.binT idxD (varT 0) (cT (.int 4)))) (g := tupG 2 (consG (setG 2) (consG (setG 3) (nilG)))) (tt := isB (Z.binT inD (varT 3) (cT (.tuple [.str ("keep" : Str), .str ("check" : Str)])))) (te := varT 2)
    (ρ := [some f.d, S, none, none]) (ρ1 := [some f.d, S, none, none]) f.tags tgD isTold (fun t => .int t.1) (fun t => [some f.d, S, some (.int t.1), some (.str t.2.s)])
    (by simp) (fun t _ => by simp [tgD, wipeR, inTold, isTold]) (by simp; omega)
  rw [lc]
  simp [liD, Function.comp_def]
theorem written_signs_eq {f : Fmt} (h : f.Ok) (st : Std) (hs : st.In f) : S_written_signs [f.d, st.d] = .ok (liD (wsig f st)) [] := by
  have tl := h.tl
  have lc := told_lc h (some st.d)
  have e1 := tag_eqv st
  have e2 := std_w st
  have e3 := w_head st
  have e4 := w_row st
  have e5 := lrg1_eq h
  simp only [S_written_signs, T_written_signs, runF_eq, rho0]
  cases st with
  | tag =>
    have e6 := ending_tag_eq h
    have a := liD_cat ((f.tags.filter isTold).map (·.1)) (endS f) (by
      have h1 := List.length_filter_le isTold f.tags
      have h2 := (endS_ok h).2.1
      simp only [List.length_map]
      omega)
    have a' := liD_add ((f.tags.filter isTold).map (·.1)) (endS f) (by
      have h1 := List.length_filter_le isTold f.tags
      have h2 := (endS_ok h).2.1
      simp only [List.length_map]
      omega)
    have s := srt_li ((f.tags.filter isTold).map (·.1) ++ endS f)
    simp [e1, lc, e6, a', s, wsig]
  | head p =>
    have hp : p < f.head.length := hs
    have i1 : idxD (Std.head p).d (.int 1) = some (.int p) := by simp [Std.d]
    have i2 : idxD (.tuple (f.head.map mkD)) (.int p) = some (mkD f.head[p]) := by
      show atI (f.head.map mkD) (p : Int) = _
      rw [Z.atI_nat, List.getElem?_map, List.getElem?_eq_getElem hp]; rfl
    cases hm : f.head[p] with
    | none => simp [e1, e2, e3, i1, i2, hm, mkD, wsig, List.getElem?_eq_getElem hp, liD, isNoneD]
    | some m => simp [e1, e2, e3, i1, i2, hm, mkD, wsig, List.getElem?_eq_getElem hp, liD, isNoneD]
  | len u => simp [e1, e2, e3, e4, e5, wsig]
  | second u a => simp [e1, e2, e3, e4, e5, wsig]
  | body u l t => simp [e1, e2, e3, e4, e5, wsig]
  | sum t => simp [e1, e2, e3, e4, e5, wsig]
  | room => simp [e1, e2, e3, e4, e5, wsig, liD]
  | over => simp [e1, e2, e3, e4, e5, wsig, liD]
theorem signs_at_eq {f : Fmt} (h : f.Ok) (st : Std) (hs : st.In f) : S_signs_at [f.d, st.d, .bool true] = .ok (liD (wsig f st)) [] := by
  simp only [S_signs_at, T_signs_at, runF_eq, rho0]
  simp [written_signs_eq h st hs]
end K66

/-! file K66P -/
set_option Elab.async false
set_option linter.all false
set_option autoImplicit false
/-! breadth first search with few leads to a pair: plain -/
namespace Bf
structure Sys (P L : Type) where
  np : P → Int → Option P
  nl : P → L → Int → L
  sg : P → List Int
  bad : P → L → Bool
  news : List L → L → Bool
  okL : P → List L → Prop
  B : Nat
  p0 : P
  l0 : L
  pos : 0 < B
  sgB : ∀ p, ∀ s ∈ sg p, 0 ≤ s ∧ s < B
  sgS : ∀ p, (sg p).Pairwise (· < ·)
def Sys.go {P L : Type} (S : Sys P L) : P → L → List Int → Option (P × L)
  | p, l, [] => some (p, l)
  | p, l, s :: r => if s ∈ S.sg p then (match S.np p s with | none => none | some q => Sys.go S q (S.nl p l s) r) else none
variable {P L : Type} [DecidableEq P] [DecidableEq L] (S : Sys P L)
def Sys.Goal (p : P) (l : L) (r : List Int) : Prop := ∃ q m, S.go p l r = some (q, m) ∧ S.bad q m = true
omit [DecidableEq P] [DecidableEq L] in
theorem go_app : ∀ (a b : List Int) (p : P) (l : L), S.go p l (a ++ b) = (S.go p l a).bind fun x => S.go x.1 x.2 b
  | [], b, p, l => rfl
  | s :: a, b, p, l => by
    rw [List.cons_append, Sys.go, Sys.go]
    by_cases h : s ∈ S.sg p
    · rw [if_pos h, if_pos h]
      cases S.np p s with
      | none => rfl
      | some q => exact go_app a b q _
    · rw [if_neg h, if_neg h]; rfl
def code (B : Nat) : Nat → List Int → Nat
  | c, [] => c
  | c, s :: r => code B (c * B + s.toNat + 1) r
theorem code_app (B : Nat) : ∀ (a b : List Int) (c : Nat), code B c (a ++ b) = code B (code B c a) b
  | [], _, _ => rfl
  | s :: a, b, c => code_app B a b _
theorem code_lt {B : Nat} (hB : 0 < B) : ∀ (r : List Int) {c d : Nat}, c < d → code B c r < code B d r
  | [], _, _, h => h
  | s :: r, c, d, h => code_lt hB r (by have := Nat.mul_lt_mul_of_pos_right h hB; omega)
theorem code_ge {B : Nat} (hB : 0 < B) : ∀ (r : List Int) (c : Nat), c ≤ code B c r
  | [], _ => Nat.le_refl _
  | s :: r, c => Nat.le_trans (by have := Nat.le_mul_of_pos_right c hB; omega) (code_ge hB r _)
def Sys.cd (w : List Int) : Nat := code S.B 0 w
omit [DecidableEq P] [DecidableEq L] in
theorem cd_snoc (w : List Int) (s : Int) : S.cd (w ++ [s]) = S.cd w * S.B + s.toNat + 1 := code_app S.B w [s] 0
omit [DecidableEq P] [DecidableEq L] in
theorem cd_pre {a b : List Int} (h : a <+: b) : S.cd a ≤ S.cd b := by
  obtain ⟨r, rfl⟩ := h
  unfold Sys.cd
  rw [code_app]
  exact code_ge S.pos r _
omit [DecidableEq P] [DecidableEq L] in
theorem cd_lt {a b : List Int} (r : List Int) (h : S.cd a < S.cd b) : S.cd (a ++ r) < S.cd (b ++ r) := by
  unfold Sys.cd at *
  rw [code_app, code_app]
  exact code_lt S.pos r h
def Sys.Min (F : List Int) : Prop := S.Goal S.p0 S.l0 F ∧ ∀ v, S.Goal S.p0 S.l0 v → S.cd F ≤ S.cd v
omit [DecidableEq P] [DecidableEq L] in
theorem min_ex : ∀ (n : Nat) (v : List Int), S.cd v ≤ n → S.Goal S.p0 S.l0 v → ∃ F, S.Min F ∧ S.cd F ≤ S.cd v
  | 0, v, h, g => ⟨v, ⟨g, fun _ _ => by omega⟩, Nat.le_refl _⟩
  | n + 1, v, h, g => by
    by_cases k : ∃ u, S.Goal S.p0 S.l0 u ∧ S.cd u < S.cd v
    · obtain ⟨u, g1, l⟩ := k
      obtain ⟨F, a, b⟩ := min_ex n u (by omega) g1
      exact ⟨F, a, by omega⟩
    · exact ⟨v, ⟨g, fun u gu => Nat.le_of_not_lt fun l => k ⟨u, gu, l⟩⟩, Nat.le_refl _⟩
/-! ### what is known -/
def getK (K : List (P × List L)) (p : P) : Option (List L) := (K.find? fun q => decide (q.1 = p)).map (·.2)
def setK (K : List (P × List L)) (p : P) (v : List L) : List (P × List L) := if (getK K p).isSome = true then K.map (fun q => if q.1 = p then (q.1, v) else q) else K ++ [(p, v)]
def lds (K : List (P × List L)) (p : P) : List L := (getK K p).getD []
def tot : List (P × List L) → Nat
  | [] => 0
  | q :: K => q.2.length + tot K
omit [DecidableEq L] in
theorem getK_nil (p : P) : getK ([] : List (P × List L)) p = none := rfl
omit [DecidableEq L] in
theorem getK_cons (q : P × List L) (K : List (P × List L)) (p : P) : getK (q :: K) p = if q.1 = p then some q.2 else getK K p := by
  unfold getK
  rw [List.find?_cons]
  by_cases h : q.1 = p <;> simp [h]
omit [DecidableEq L] in
theorem getK_none {K : List (P × List L)} {p : P} (h : getK K p = none) : p ∉ K.map (·.1) := by
  induction K with
  | nil => simp
  | cons q K ih =>
    rw [getK_cons] at h
    by_cases e : q.1 = p
    · rw [if_pos e] at h; cases h
    · rw [if_neg e] at h
      simp only [List.map_cons, List.mem_cons, not_or]
      exact ⟨fun z => e z.symm, ih h⟩
omit [DecidableEq L] in
theorem getK_map (K : List (P × List L)) (p r : P) (v : List L) : getK (K.map (fun q => if q.1 = p then (q.1, v) else q)) r = if r = p then (getK K r).map (fun _ => v) else getK K r := by
  induction K with
  | nil => simp [getK_nil]
  | cons q K ih =>
    rw [List.map_cons, getK_cons, getK_cons, ih]
    by_cases h : q.1 = p
    · simp only [h, if_true]
      by_cases e : p = r
      · simp [e]
      · rw [if_neg e, if_neg e]
    · simp only [if_neg h]
      by_cases e : q.1 = r
      · simp [e]
        intro x; exact absurd (e.trans x) h
      · simp only [if_neg e]
omit [DecidableEq L] in
theorem getK_app (K : List (P × List L)) (p r : P) (v : List L) : getK (K ++ [(p, v)]) r = match getK K r with | some x => some x | none => if p = r then some v else none := by
  induction K with
  | nil => rw [List.nil_append, getK_cons, getK_nil]
  | cons q K ih =>
    rw [List.cons_append, getK_cons, getK_cons, ih]
    by_cases h : q.1 = r <;> simp [h]
omit [DecidableEq L] in
theorem lds_put (K : List (P × List L)) (p r : P) (v : List L) : lds (setK K p v) r = if r = p then v else lds K r := by
  unfold lds setK
  by_cases h : (getK K p).isSome = true
  · rw [if_pos h, getK_map]
    by_cases e : r = p
    · rw [if_pos e, if_pos e]
      subst e
      obtain ⟨x, hx⟩ := Option.isSome_iff_exists.mp h
      rw [hx]; rfl
    · rw [if_neg e, if_neg e]
  · rw [if_neg h, getK_app]
    have hn : getK K p = none := by simpa using h
    by_cases e : r = p
    · rw [if_pos e]; subst e; rw [hn]; simp
    · rw [if_neg e]
      cases getK K r with
      | some x => rfl
      | none => simp only; rw [if_neg fun z : p = r => e z.symm]
omit [DecidableEq L] in
theorem keys_put (K : List (P × List L)) (p : P) (v : List L) (h : (K.map (·.1)).Nodup) : ((setK K p v).map (·.1)).Nodup ∧ ∀ r ∈ (setK K p v).map (·.1), r = p ∨ r ∈ K.map (·.1) := by
  unfold setK
  by_cases k : (getK K p).isSome = true
  · rw [if_pos k]
    have : (K.map (fun q => if q.1 = p then (q.1, v) else q)).map (·.1) = K.map (·.1) := by
      rw [List.map_map]
      refine List.map_congr_left fun q _ => ?_
      simp only [Function.comp]
      split <;> rfl
    rw [this]
    exact ⟨h, fun r hr => .inr hr⟩
  · rw [if_neg k]
    have hn := getK_none (show getK K p = none by simpa using k)
    rw [List.map_append]
    refine ⟨List.nodup_append.mpr ⟨h, by simp, fun a ha b hb => ?_⟩, fun r hr => ?_⟩
    · simp only [List.map_cons, List.map_nil, List.mem_singleton] at hb
      subst hb
      exact fun e => hn (e ▸ ha)
    · rcases List.mem_append.mp hr with h | h
      · exact .inr h
      · simp only [List.map_cons, List.map_nil, List.mem_singleton] at h
        exact .inl h
omit [DecidableEq L] in
theorem tot_app (K : List (P × List L)) (q : P × List L) : tot (K ++ [q]) = tot K + q.2.length := by
  induction K with
  | nil => simp [tot]
  | cons r K ih => simp only [List.cons_append, tot, ih]; omega
omit [DecidableEq L] in
theorem tot_map (K : List (P × List L)) (p : P) (v : List L) (h : (K.map (·.1)).Nodup) : tot (K.map (fun q => if q.1 = p then (q.1, v) else q)) + (lds K p).length = tot K + (if (getK K p).isSome = true then v.length else 0) := by
  induction K with
  | nil => simp [tot, lds, getK_nil]
  | cons q K ih =>
    have hn := List.nodup_cons.mp (show (q.1 :: K.map (·.1)).Nodup from h)
    have ih := ih hn.2
    simp only [List.map_cons, tot]
    unfold lds at *
    rw [getK_cons]
    by_cases e : q.1 = p
    · have hk : getK K p = none := by
        cases hg : getK K p with
        | none => rfl
        | some x =>
          unfold getK at hg
          obtain ⟨y, hy, _⟩ := Option.map_eq_some_iff.mp hg
          have h1 := List.mem_of_find?_eq_some hy
          have h2 := List.find?_some hy
          exact absurd (List.mem_map_of_mem (f := (·.1)) h1) (by rw [of_decide_eq_true h2, ← e]; exact hn.1)
      rw [hk] at ih
      simp only [Option.getD_none, List.length_nil, Option.isSome_none, Bool.false_eq_true, if_false, Nat.add_zero] at ih
      simp only [e, if_true, Option.getD_some, Option.isSome_some]
      omega
    · simp only [if_neg e]
      omega
omit [DecidableEq L] in
theorem tot_put (K : List (P × List L)) (p : P) (a : L) (h : (K.map (·.1)).Nodup) : tot (setK K p (lds K p ++ [a])) = tot K + 1 := by
  have t := tot_map K p (lds K p ++ [a]) h
  unfold setK
  by_cases k : (getK K p).isSome = true
  · rw [if_pos k]
    rw [if_pos k, List.length_append, List.length_singleton] at t
    omega
  · rw [if_neg k, tot_app]
    have hn : getK K p = none := by simpa using k
    unfold lds
    rw [hn]
    simp
theorem sub_len {α : Type} [DecidableEq α] : ∀ (l U : List α), l.Nodup → (∀ x ∈ l, x ∈ U) → l.length ≤ U.length
  | [], _, _, _ => Nat.zero_le _
  | x :: l, U, h, k => by
    have hn := List.nodup_cons.mp h
    have hx := k x (List.mem_cons_self ..)
    have := sub_len l (U.erase x) hn.2 fun y hy => (List.mem_erase_of_ne (fun e => hn.1 (by rw [← e]; exact hy))).mpr (k y (List.mem_cons_of_mem _ hy))
    rw [List.length_erase_of_mem hx] at this
    have : 0 < U.length := List.length_pos_of_mem hx
    simp only [List.length_cons]
    omega
omit [DecidableEq L] in
theorem tot_le (K : List (P × List L)) (h : ∀ q ∈ K, q.2.length ≤ 2) : tot K ≤ 2 * K.length := by
  induction K with
  | nil => simp [tot]
  | cons q K ih =>
    have := ih fun r hr => h r (List.mem_cons_of_mem _ hr)
    have := h q (List.mem_cons_self ..)
    simp only [tot, List.length_cons]
    omega
/-! ### the search -/
abbrev Item (P L : Type) := List Int × P × L
/-- between two of the front: what is left of it, what is later -/
structure Inv (K : List (P × List L)) (Q : List (Item P L)) : Prop where
  at_ : ∀ x ∈ Q, S.go S.p0 S.l0 x.1 = some (x.2.1, x.2.2)
  asc : Q.Pairwise fun x y => S.cd x.1 < S.cd y.1
  bnd : ∀ y ∈ Q, ∀ x ∈ Q, S.cd y.1 ≤ S.cd x.1 * S.B
  kn : ∀ p, ∀ l ∈ lds K p, ∃ u, S.go S.p0 S.l0 u = some (p, l) ∧ ∀ x ∈ Q, S.cd u ≤ S.cd x.1 * S.B
  okL : ∀ p, S.okL p (lds K p)
  nd : (K.map (·.1)).Nodup
  mn : ∀ F, S.Min F → ∃ x ∈ Q, x.1 <+: F
/-- amid one of the front: the signs left -/
structure Mid (x : Item P L) (ss : List Int) (K : List (P × List L)) (Q : List (Item P L)) : Prop where
  me : S.go S.p0 S.l0 x.1 = some (x.2.1, x.2.2)
  sub : ∀ s ∈ ss, s ∈ S.sg x.2.1
  sas : ss.Pairwise (· < ·)
  at_ : ∀ y ∈ Q, S.go S.p0 S.l0 y.1 = some (y.2.1, y.2.2)
  asc : Q.Pairwise fun x y => S.cd x.1 < S.cd y.1
  mor : ∀ y ∈ Q, S.cd x.1 < S.cd y.1
  les : ∀ y ∈ Q, ∀ s ∈ ss, S.cd y.1 < S.cd x.1 * S.B + s.toNat + 1
  bnd : ∀ y ∈ Q, ∀ x ∈ Q, S.cd y.1 ≤ S.cd x.1 * S.B
  kn : ∀ p, ∀ l ∈ lds K p, ∃ u, S.go S.p0 S.l0 u = some (p, l) ∧ (∀ y ∈ Q, S.cd u ≤ S.cd y.1 * S.B) ∧ ∀ s ∈ ss, S.cd u < S.cd x.1 * S.B + s.toNat + 1
  okL : ∀ p, S.okL p (lds K p)
  nd : (K.map (·.1)).Nodup
  mn : ∀ F, S.Min F → (∃ y ∈ Q, y.1 <+: F) ∨ ∃ s ∈ ss, x.1 ++ [s] <+: F
variable {S}
theorem Inv.none {K : List (P × List L)} (I : Inv S K []) : ∀ v, ¬ S.Goal S.p0 S.l0 v := fun v g => by
  obtain ⟨F, m, _⟩ := min_ex S _ v (Nat.le_refl _) g
  obtain ⟨x, h, _⟩ := I.mn F m
  cases h
theorem Inv.found {K : List (P × List L)} {x : Item P L} {Q : List (Item P L)} (I : Inv S K (x :: Q)) (hb : S.bad x.2.1 x.2.2 = true) : S.Goal S.p0 S.l0 x.1 ∧ ∀ v, S.Goal S.p0 S.l0 v → S.cd x.1 ≤ S.cd v :=
  ⟨⟨_, _, I.at_ x (List.mem_cons_self ..), hb⟩, fun v g => by
    obtain ⟨F, m, l⟩ := min_ex S _ v (Nat.le_refl _) g
    obtain ⟨y, h, hp⟩ := I.mn F m
    have h1 := cd_pre S hp
    rcases List.mem_cons.mp h with rfl | h
    · omega
    · have := (List.pairwise_cons.mp I.asc).1 y h
      omega⟩
theorem Inv.mid {K : List (P × List L)} {x : Item P L} {Q : List (Item P L)} (I : Inv S K (x :: Q)) (hb : S.bad x.2.1 x.2.2 = false) : Mid S x (S.sg x.2.1) K Q where
  me := I.at_ x (List.mem_cons_self ..)
  sub := fun s h => h
  sas := S.sgS _
  at_ := fun y h => I.at_ y (List.mem_cons_of_mem _ h)
  asc := (List.pairwise_cons.mp I.asc).2
  mor := (List.pairwise_cons.mp I.asc).1
  les := fun y h s _ => by
    have := I.bnd y (List.mem_cons_of_mem _ h) x (List.mem_cons_self ..)
    omega
  bnd := fun y h z k => I.bnd y (List.mem_cons_of_mem _ h) z (List.mem_cons_of_mem _ k)
  kn := fun p l h => by
    obtain ⟨u, a, b⟩ := I.kn p l h
    refine ⟨u, a, fun y hy => b y (List.mem_cons_of_mem _ hy), fun s _ => ?_⟩
    have := b x (List.mem_cons_self ..)
    omega
  okL := I.okL
  nd := I.nd
  mn := fun F m => by
    obtain ⟨y, h, hp⟩ := I.mn F m
    rcases List.mem_cons.mp h with rfl | h
    · refine .inr ?_
      obtain ⟨r, rfl⟩ := hp
      obtain ⟨q, z, g, b⟩ := m.1
      rw [go_app, I.at_ y (List.mem_cons_self ..)] at g
      simp only [Option.bind_some] at g
      cases r with
      | nil =>
        simp only [Sys.go, Option.some.injEq, Prod.mk.injEq] at g
        rw [← g.1, ← g.2, hb] at b
        cases b
      | cons s r =>
        rw [Sys.go] at g
        by_cases hs : s ∈ S.sg y.2.1
        · exact ⟨s, hs, r, by simp⟩
        · rw [if_neg hs] at g; cases g
    · exact .inl ⟨y, h, hp⟩
theorem Mid.fin {K : List (P × List L)} {x : Item P L} {Q : List (Item P L)} (M : Mid S x [] K Q) : Inv S K Q where
  at_ := M.at_
  asc := M.asc
  bnd := M.bnd
  kn := fun p l h => by
    obtain ⟨u, a, b, _⟩ := M.kn p l h
    exact ⟨u, a, b⟩
  okL := M.okL
  nd := M.nd
  mn := fun F m => by
    rcases M.mn F m with h | ⟨s, h, _⟩
    · exact h
    · cases h
theorem Mid.drop {K : List (P × List L)} {x : Item P L} {s : Int} {ss : List Int} {Q : List (Item P L)} (M : Mid S x (s :: ss) K Q) (h : ∀ F, S.Min F → ¬ x.1 ++ [s] <+: F) : Mid S x ss K Q where
  me := M.me
  sub := fun t h => M.sub t (List.mem_cons_of_mem _ h)
  sas := (List.pairwise_cons.mp M.sas).2
  at_ := M.at_
  asc := M.asc
  mor := M.mor
  les := fun y h t k => M.les y h t (List.mem_cons_of_mem _ k)
  bnd := M.bnd
  kn := fun p l h => by
    obtain ⟨u, a, b, c⟩ := M.kn p l h
    exact ⟨u, a, b, fun t k => c t (List.mem_cons_of_mem _ k)⟩
  okL := M.okL
  nd := M.nd
  mn := fun F m => by
    rcases M.mn F m with h1 | ⟨t, h1, hp⟩
    · exact .inl h1
    · rcases List.mem_cons.mp h1 with rfl | h1
      · exact absurd hp (h F m)
      · exact .inr ⟨t, h1, hp⟩
theorem Mid.skip {K : List (P × List L)} {x : Item P L} {s : Int} {ss : List Int} {Q : List (Item P L)} (M : Mid S x (s :: ss) K Q) (h : S.np x.2.1 s = none) : Mid S x ss K Q := M.drop fun F m hp => by
  obtain ⟨r, rfl⟩ := hp
  obtain ⟨q, z, g, b⟩ := m.1
  rw [List.append_assoc, go_app, M.me] at g
  simp only [Option.bind_some, List.cons_append, List.nil_append] at g
  rw [Sys.go, if_pos (M.sub s (List.mem_cons_self ..)), h] at g
  cases g
theorem Mid.rej {K : List (P × List L)} {x : Item P L} {s : Int} {ss : List Int} {Q : List (Item P L)} {q : P} (M : Mid S x (s :: ss) K Q) (h : S.np x.2.1 s = some q)
    (cov : ∀ r, S.Goal q (S.nl x.2.1 x.2.2 s) r → ∃ l ∈ lds K q, S.Goal q l r) : Mid S x ss K Q := M.drop fun F m hp => by
  obtain ⟨r, rfl⟩ := hp
  obtain ⟨q2, z, g, b⟩ := m.1
  rw [List.append_assoc, go_app, M.me] at g
  simp only [Option.bind_some, List.cons_append, List.nil_append] at g
  rw [Sys.go, if_pos (M.sub s (List.mem_cons_self ..)), h] at g
  obtain ⟨l, hl, q3, z3, g3, b3⟩ := cov r ⟨q2, z, g, b⟩
  obtain ⟨u, hu, _, c⟩ := M.kn q l hl
  have c := c s (List.mem_cons_self ..)
  have gu : S.Goal S.p0 S.l0 (u ++ r) := ⟨q3, z3, by rw [go_app, hu]; exact g3, b3⟩
  have := m.2 _ gu
  have lt : S.cd (u ++ r) < S.cd ((x.1 ++ [s]) ++ r) := cd_lt S r (by rw [cd_snoc]; exact c)
  omega
theorem Mid.acc {K : List (P × List L)} {x : Item P L} {s : Int} {ss : List Int} {Q : List (Item P L)} {q : P} (M : Mid S x (s :: ss) K Q) (h : S.np x.2.1 s = some q)
    (hok : S.okL q (lds K q ++ [S.nl x.2.1 x.2.2 s])) : Mid S x ss (setK K q (lds K q ++ [S.nl x.2.1 x.2.2 s])) (Q ++ [(x.1 ++ [s], q, S.nl x.2.1 x.2.2 s)]) := by
  have hg : S.go S.p0 S.l0 (x.1 ++ [s]) = some (q, S.nl x.2.1 x.2.2 s) := by
    rw [go_app, M.me]
    simp only [Option.bind_some]
    rw [Sys.go, if_pos (M.sub s (List.mem_cons_self ..)), h]
    rfl
  have hs := S.sgB _ s (M.sub s (List.mem_cons_self ..))
  have hc := cd_snoc S x.1 s
  have hss : ∀ t ∈ ss, s < t := (List.pairwise_cons.mp M.sas).1
  have hB := S.pos
  have hsB : s.toNat + 1 ≤ S.B := by omega
  have hup : ∀ y ∈ Q, S.cd x.1 * S.B + S.B ≤ S.cd y.1 * S.B := fun y hy => by
    have := Nat.mul_le_mul_right S.B (M.mor y hy)
    have e : (S.cd x.1).succ * S.B = S.cd x.1 * S.B + S.B := Nat.succ_mul _ _
    omega
  have hmul : S.cd x.1 * S.B + s.toNat + 1 ≤ (S.cd x.1 * S.B + s.toNat + 1) * S.B := Nat.le_mul_of_pos_right _ hB
  have hxB : S.cd x.1 ≤ S.cd x.1 * S.B := Nat.le_mul_of_pos_right _ hB
  exact {
    me := M.me
    sub := fun t h => M.sub t (List.mem_cons_of_mem _ h)
    sas := (List.pairwise_cons.mp M.sas).2
    at_ := fun y hy => by
      rcases List.mem_append.mp hy with hy | hy
      · exact M.at_ y hy
      · rw [List.mem_singleton.mp hy]; exact hg
    asc := List.pairwise_append.mpr ⟨M.asc, by simp, fun y hy z hz => by
      rw [List.mem_singleton.mp hz]
      show S.cd y.1 < S.cd (x.1 ++ [s])
      have := M.les y hy s (List.mem_cons_self ..)
      omega⟩
    mor := fun y hy => by
      rcases List.mem_append.mp hy with hy | hy
      · exact M.mor y hy
      · rw [List.mem_singleton.mp hy]
        show S.cd x.1 < S.cd (x.1 ++ [s])
        omega
    les := fun y hy t ht => by
      rcases List.mem_append.mp hy with hy | hy
      · exact M.les y hy t (List.mem_cons_of_mem _ ht)
      · rw [List.mem_singleton.mp hy]
        show S.cd (x.1 ++ [s]) < _
        have := hss t ht
        omega
    bnd := fun y hy z hz => by
      rcases List.mem_append.mp hy with hy | hy
      · rcases List.mem_append.mp hz with hz | hz
        · exact M.bnd y hy z hz
        · rw [List.mem_singleton.mp hz]
          show S.cd y.1 ≤ S.cd (x.1 ++ [s]) * S.B
          have := M.les y hy s (List.mem_cons_self ..)
          rw [hc]
          omega
      · rw [List.mem_singleton.mp hy]
        show S.cd (x.1 ++ [s]) ≤ _
        rcases List.mem_append.mp hz with hz | hz
        · have := hup z hz
          omega
        · rw [List.mem_singleton.mp hz]
          show _ ≤ S.cd (x.1 ++ [s]) * S.B
          rw [hc]
          exact hmul
    kn := fun p l hl => by
      rw [lds_put] at hl
      have old : ∀ l ∈ lds K p, ∃ u, S.go S.p0 S.l0 u = some (p, l) ∧ (∀ y ∈ Q ++ [(x.1 ++ [s], q, S.nl x.2.1 x.2.2 s)], S.cd u ≤ S.cd y.1 * S.B) ∧ ∀ t ∈ ss, S.cd u < S.cd x.1 * S.B + t.toNat + 1 := fun l hl => by
        obtain ⟨u, a, b, c⟩ := M.kn p l hl
        refine ⟨u, a, fun y hy => ?_, fun t ht => c t (List.mem_cons_of_mem _ ht)⟩
        rcases List.mem_append.mp hy with hy | hy
        · exact b y hy
        · rw [List.mem_singleton.mp hy]
          show _ ≤ S.cd (x.1 ++ [s]) * S.B
          have := c s (List.mem_cons_self ..)
          rw [hc]
          omega
      by_cases e : p = q
      · rw [if_pos e] at hl
        rcases List.mem_append.mp hl with hl | hl
        · exact old l (e ▸ hl)
        · rw [List.mem_singleton.mp hl, e]
          refine ⟨x.1 ++ [s], hg, fun y hy => ?_, fun t ht => ?_⟩
          · rcases List.mem_append.mp hy with hy | hy
            · have := hup y hy
              omega
            · rw [List.mem_singleton.mp hy]
              show _ ≤ S.cd (x.1 ++ [s]) * S.B
              rw [hc]
              exact hmul
          · have := hss t ht
            omega
      · rw [if_neg e] at hl
        exact old l hl
    okL := fun p => by
      rw [lds_put]
      by_cases e : p = q
      · rw [if_pos e, e]; exact hok
      · rw [if_neg e]; exact M.okL p
    nd := (keys_put K q _ M.nd).1
    mn := fun F m => by
      rcases M.mn F m with ⟨y, h1, hp⟩ | ⟨t, h1, hp⟩
      · exact .inl ⟨y, List.mem_append_left _ h1, hp⟩
      · rcases List.mem_cons.mp h1 with rfl | h1
        · exact .inl ⟨_, List.mem_append_right _ (List.mem_singleton.mpr rfl), hp⟩
        · exact .inr ⟨t, h1, hp⟩ }
theorem Inv.start (h : S.okL S.p0 [S.l0]) (h0 : ∀ p, S.okL p []) : Inv S [(S.p0, [S.l0])] [(([] : List Int), S.p0, S.l0)] where
  at_ := fun x hx => by rw [List.mem_singleton.mp hx]; rfl
  asc := by simp
  bnd := fun y hy x hx => by
    rw [List.mem_singleton.mp hy]
    exact Nat.zero_le _
  kn := fun p l hl => by
    unfold lds at hl
    rw [getK_cons, getK_nil] at hl
    by_cases e : S.p0 = p
    · rw [if_pos e] at hl
      rw [List.mem_singleton.mp hl, ← e]
      exact ⟨[], rfl, fun x hx => Nat.zero_le _⟩
    · rw [if_neg e] at hl; cases hl
  okL := fun p => by
    unfold lds
    rw [getK_cons, getK_nil]
    by_cases e : S.p0 = p
    · rw [if_pos e, ← e]; exact h
    · rw [if_neg e]; exact h0 p
  nd := by simp
  mn := fun F m => ⟨_, List.mem_singleton.mpr rfl, F, rfl⟩
end Bf

/-! file K66F3 -/
set_option Elab.async false
set_option linter.all false
set_option autoImplicit false
set_option maxRecDepth 100000
set_option maxHeartbeats 4000000
namespace K66
open PySem PySem.Spec L2 Z Bf
/-! ### cancelling -/
theorem cancel_red : ∀ (l r : List Int) (p : List Int × List Int), cancel l r = some p → p.1 = [] ∨ p.2 = []
  | [], r, p, h => by cases h; exact .inl rfl
  | x :: l, [], p, h => by cases h; exact .inr rfl
  | x :: l, y :: r, p, h => by
    rw [cancel] at h
    split at h
    · exact cancel_red l r p h
    · cases h
theorem cancel_app : ∀ (l r m t : List Int), cancel (l ++ m) (r ++ t) = match cancel l r with | none => none | some c => cancel (c.1 ++ m) (c.2 ++ t)
  | [], r, m, t => rfl
  | x :: l, [], m, t => rfl
  | x :: l, y :: r, m, t => by
    rw [List.cons_append, List.cons_append, cancel, cancel]
    by_cases h : x = y
    · rw [if_pos h, if_pos h]; exact cancel_app l r m t
    · rw [if_neg h, if_neg h]
theorem cancel_even : ∀ (l r : List Int), cancel l r = some ([], []) ↔ l = r
  | [], r => by simp [cancel, eq_comm]
  | x :: l, [] => by simp [cancel]
  | x :: l, y :: r => by
    rw [cancel]
    by_cases h : x = y
    · rw [if_pos h, cancel_even l r]; simp [h]
    · rw [if_neg h]; simp [h]
def Red : Lead → Prop
  | none => True
  | some p => p.1 = [] ∨ p.2 = []
theorem red_leadB (L : Lead) (m t : List Int) : Red (leadB L m t) := by
  cases L with
  | none => trivial
  | some p =>
    show Red (cancel (p.1 ++ m) (p.2 ++ t))
    cases h : cancel (p.1 ++ m) (p.2 ++ t) with
    | none => trivial
    | some c => exact cancel_red _ _ _ h
theorem leadB_nil {L : Lead} (h : Red L) : leadB L [] [] = L := by
  cases L with
  | none => rfl
  | some p =>
    obtain ⟨l, r⟩ := p
    show cancel (l ++ []) (r ++ []) = _
    rw [List.append_nil, List.append_nil]
    rcases h with h | h
    · have h : l = [] := h
      subst h; rfl
    · have h : r = [] := h
      subst h; exact cancel_nilr l
theorem leadB_leadB (L : Lead) (m t m' t' : List Int) : leadB (leadB L m t) m' t' = leadB L (m ++ m') (t ++ t') := by
  cases L with
  | none => rfl
  | some p =>
    show leadB (cancel (p.1 ++ m) (p.2 ++ t)) m' t' = cancel (p.1 ++ (m ++ m')) (p.2 ++ (t ++ t'))
    rw [← List.append_assoc, ← List.append_assoc, cancel_app (p.1 ++ m) (p.2 ++ t) m' t']
    cases cancel (p.1 ++ m) (p.2 ++ t) <;> rfl
theorem red_uniq {L M : Lead} {m t : List Int} (hl : Red L) (hm : Red M) (h1 : leadB L m t = some ([], [])) (h2 : leadB M m t = some ([], [])) : L = M := by
  cases L with
  | none => cases h1
  | some p => cases M with
    | none => cases h2
    | some q =>
      obtain ⟨a, b⟩ := p
      obtain ⟨c, d⟩ := q
      have e1 : a ++ m = b ++ t := (cancel_even _ _).mp h1
      have e2 : c ++ m = d ++ t := (cancel_even _ _).mp h2
      have l1 := congrArg List.length e1
      have l2 := congrArg List.length e2
      simp only [List.length_append] at l1 l2
      rcases hl with hl | hl <;> rcases hm with hm | hm <;> simp only at hl hm <;> subst hl <;> subst hm
      · have : b ++ t = d ++ t := e1.symm.trans e2
        rw [List.append_cancel_right this]
      · simp only [List.length_nil] at l1 l2
        have hb : b = [] := List.length_eq_zero_iff.mp (by omega)
        have hc : c = [] := List.length_eq_zero_iff.mp (by omega)
        rw [hb, hc]
      · simp only [List.length_nil] at l1 l2
        have hb : a = [] := List.length_eq_zero_iff.mp (by omega)
        have hc : d = [] := List.length_eq_zero_iff.mp (by omega)
        rw [hb, hc]
      · have : a ++ m = c ++ m := e1.trans e2.symm
        rw [List.append_cancel_right this]
/-! ### pairs -/
abbrev Pr := Std × Option Std
def pairD (p : Pr) : D := .tuple [p.1.d, stD p.2]
def kS : Std → NestedKey
  | .head p => .tup [.text "head", .num p]
  | .tag => .tup [.text "tag"]
  | .len u => .tup [.text "length", .text u.s]
  | .second u a => .tup [.text "second", .text u.s, .num a]
  | .body u l t => .tup [.text "body", .text u.s, .num l, .num t]
  | .sum t => .tup [.text "sum", .num t]
  | .room => .tup [.text "room"]
  | .over => .tup [.text "over"]
def kO : Option Std → NestedKey
  | none => .none
  | some s => kS s
def kP (p : Pr) : NestedKey := .tup [kS p.1, kO p.2]
theorem key_S (st : Std) : keyD st.d = some (kS st) := by cases st <;> simp [Std.d, keyD, keysD, kS]
theorem key_O (o : Option Std) : keyD (stD o) = some (kO o) := by
  cases o with
  | none => simp [stD, keyD, kO]
  | some s => exact key_S s
theorem key_P (p : Pr) : keyD (pairD p) = some (kP p) := by simp [pairD, keyD, keysD, key_S, key_O, kP]
theorem kS_inj {a b : Std} (h : kS a = kS b) : a = b := by
  cases a <;> cases b <;> simp [kS, use_eq] at h <;> first | (simp [h]; done) | (simp; omega)
theorem kO_inj {a b : Option Std} (h : kO a = kO b) : a = b := by
  cases a with
  | none => cases b with
    | none => rfl
    | some b => cases b <;> cases h
  | some a => cases b with
    | none => cases a <;> cases h
    | some b => rw [kS_inj h]
theorem kP_inj {a b : Pr} (h : kP a = kP b) : a = b := by
  obtain ⟨a, a'⟩ := a
  obtain ⟨b, b'⟩ := b
  simp only [kP, NestedKey.tup.injEq, List.cons.injEq, and_true] at h
  rw [kS_inj h.1, kO_inj h.2]
theorem kS_depth (a : Std) : (kS a).depth = 1 := by cases a <;> simp [kS, NestedKey.depth, NestedKey.depthAll]
theorem kP_depth (a : Pr) : (kP a).depth ≤ 8 := by
  obtain ⟨a, b⟩ := a
  cases b with
  | none => simp [kP, kO, NestedKey.depth, NestedKey.depthAll, kS_depth]
  | some b => simp [kP, kO, NestedKey.depth, NestedKey.depthAll, kS_depth]
theorem okKey_P (p : Pr) : okKey (pairD p) = some (kP p) := by
  show (keyD (pairD p)).bind _ = _
  rw [key_P]
  simp [kP_depth]
abbrev Kn := List (Pr × List Lead)
def knD (K : Kn) : List (D × D) := K.map fun q => (pairD q.1, lsD q.2)
theorem key_is (q p : Pr) : (keyD (pairD q) = some (kP p)) ↔ q = p := by
  rw [key_P]
  exact ⟨fun h => kP_inj (Option.some.inj h), fun h => by rw [h]⟩
theorem dget_kn (K : Kn) (p : Pr) : dgetD (knD K) (kP p) = (getK K p).map lsD := by
  induction K with
  | nil => rfl
  | cons q K ih =>
    rw [getK_cons]
    unfold dgetD knD at *
    rw [List.map_cons, List.find?_cons]
    by_cases h : q.1 = p
    · simp [h, key_is]
    · simp only [key_is, h, decide_false, if_false]
      simpa [key_is] using ih
theorem dput_kn (K : Kn) (p : Pr) (v : List Lead) : dputD (knD K) (kP p) (pairD p) (lsD v) = knD (setK K p v) := by
  unfold dputD setK
  rw [dget_kn, Option.isSome_map]
  by_cases h : (getK K p).isSome = true
  · rw [if_pos h, if_pos h]
    simp only [knD, List.map_map]
    refine List.map_congr_left fun q _ => ?_
    simp only [Function.comp, key_is]
    by_cases e : q.1 = p
    · simp [e]
    · simp [e]
  · rw [if_neg h, if_neg h]
    simp [knD]
theorem dget_lds (K : Kn) (p : Pr) : (dgetD (knD K) (kP p)).getD (.list []) = lsD (lds K p) := by
  rw [dget_kn]
  unfold lds
  cases getK K p <;> rfl
/-! ### the search as a system -/
def npP (f g : Fmt) (p : Pr) (s : Int) : Option Pr := (step f p.1 s).map fun st => (st, p.2.bind fun t => step g t s)
def nlP (f g : Fmt) (p : Pr) (L : Lead) (s : Int) : Lead := match p.2 with
  | none => none
  | some t => match step g t s with
    | none => none
    | some _ => leadB L (tellS f p.1 s) (tellS g t s)
def okLs (ls : List Lead) : Prop := ls.length ≤ 2 ∧ ls.Nodup ∧ ∀ L ∈ ls, Red L
theorem irow_mem (b s : Int) : s ∈ irow b ↔ 0 ≤ s ∧ s < b := by
  unfold irow
  simp only [List.mem_map, List.mem_range]
  constructor
  · rintro ⟨i, h, rfl⟩; omega
  · intro h; exact ⟨s.toNat, by omega, by omega⟩
theorem irow_asc (b : Int) : (irow b).Pairwise (· < ·) := by
  unfold irow
  refine List.pairwise_map.mpr (List.pairwise_lt_range.imp fun h => by omega)
theorem tag_sig (f : Fmt) (s : Int) : s ∈ wsig f .tag ↔ (∃ u, (s, u) ∈ f.tags ∧ u.told = true) ∨ s ∈ endS f := by
  show s ∈ srtI _ ↔ _
  rw [(srtI_perm _).mem_iff, List.mem_append]
  refine or_congr_left ?_
  simp only [List.mem_map, List.mem_filter, isTold, decide_eq_true_eq]
  constructor
  · rintro ⟨⟨a, u⟩, ⟨h, k⟩, rfl⟩
    exact ⟨u, h, by rcases k with k | k <;> (simp only at k; subst k; rfl)⟩
  · rintro ⟨u, h, k⟩
    refine ⟨(s, u), ⟨h, ?_⟩, rfl⟩
    cases u <;> simp [Use.told] at k ⊢
theorem endS_mem {f : Fmt} {s : Int} (h : s ∈ endS f) : ∃ u, (s, u) ∈ f.tags ∧ (u = .end_ ∨ u = .stop) := by
  unfold endS at h
  split at h
  case h_2 => cases h
  case h_1 t ts e =>
    rw [List.mem_singleton] at h
    subst h
    have m : t ∈ f.tags.filter isEnd := by rw [e]; exact List.mem_cons_self ..
    rw [List.mem_filter] at m
    exact ⟨t.2, m.1, of_decide_eq_true m.2⟩
theorem wsig_in {f : Fmt} (h : f.Ok) (st : Std) : ∀ s ∈ wsig f st, 0 ≤ s ∧ s < f.base := by
  have b2 := h.b2
  intro s hs
  cases st with
  | tag =>
    rcases (tag_sig f s).mp hs with ⟨u, m, _⟩ | m
    · exact h.tg _ m
    · obtain ⟨u, m, _⟩ := endS_mem m
      exact h.tg _ m
  | head p =>
    have hs : s ∈ (match f.head[p]? with | some (some m) => [m] | _ => [0]) := hs
    split at hs
    · rename_i m e
      rw [List.mem_singleton.mp hs]
      exact h.hd m (List.mem_of_getElem? e)
    · rw [List.mem_singleton.mp hs]; omega
  | len u => exact (irow_mem _ _).mp hs
  | second u a => exact (irow_mem _ _).mp hs
  | body u l t => exact (irow_mem _ _).mp hs
  | sum t => exact (irow_mem _ _).mp hs
  | room => cases hs
  | over => cases hs
theorem wsig_asc {f : Fmt} (h : f.Ok) (st : Std) : (wsig f st).Pairwise (· < ·) := by
  cases st with
  | tag =>
    show (srtI _).Pairwise _
    have hn : ((f.tags.filter isTold).map (·.1) ++ endS f).Nodup := by
      have hs := h.so
      refine List.nodup_append.mpr ⟨?_, ?_, ?_⟩
      · exact (List.pairwise_map.mpr ((hs.filter _).imp fun h e => by omega))
      · unfold endS; split <;> simp
      · intro a ha b hb e
        subst e
        obtain ⟨⟨x, u⟩, hm, rfl⟩ := List.mem_map.mp ha
        rw [List.mem_filter] at hm
        obtain ⟨v, hv, k⟩ := endS_mem hb
        have u1 := use_mem h hm.1
        have u2 := use_mem h hv
        rw [u1] at u2
        cases u2
        have := of_decide_eq_true hm.2
        simp only at this
        rcases this with t | t <;> rcases k with k | k <;> (rw [t] at k; cases k)
    have hs := srtI_sorted ((f.tags.filter isTold).map (·.1) ++ endS f)
    have hn' := (srtI_perm ((f.tags.filter isTold).map (·.1) ++ endS f)).nodup_iff.mpr hn
    exact (hs.and hn').imp fun h => by
      obtain ⟨h1, h2⟩ := h
      omega
  | head p =>
    show (match f.head[p]? with | some (some m) => [m] | _ => [0]).Pairwise (· < ·)
    split <;> simp
  | len u => exact irow_asc _
  | second u a => exact irow_asc _
  | body u l t => exact irow_asc _
  | sum t => exact irow_asc _
  | room => exact .nil
  | over => exact .nil
def sys (f g : Fmt) (hf : f.Ok) : Sys Pr Lead where
  np := npP f g
  nl := nlP f g
  sg := fun p => wsig f p.1
  bad := fun p L => worseB f g p.1 p.2 L
  news := newsB
  okL := fun _ ls => okLs ls
  B := f.base.toNat
  p0 := (first f, some (first g))
  l0 := some ([], [])
  pos := by have := hf.b2; omega
  sgB := fun p s h => by
    have := wsig_in hf _ s h
    omega
  sgS := fun p => wsig_asc hf _
end K66

/-! file K66F4 -/
set_option Elab.async false
set_option linter.all false
set_option autoImplicit false
set_option maxRecDepth 100000
set_option maxHeartbeats 4000000
namespace K66
open PySem PySem.Spec L2 Z Bf
/-! ### what two leads to a pair cover -/
def tells (f : Fmt) : Std → List Int → List Int
  | _, [] => []
  | st, s :: r => tellS f st s ++ (match step f st s with
    | none => []
    | some st' => tells f st' r)
variable {f g : Fmt} {hf : f.Ok}
theorem go_any : ∀ (r : List Int) (q : Pr) (a : Lead) (q' : Pr) (m : Lead), (sys f g hf).go q a r = some (q', m) → ∀ a', ∃ m', (sys f g hf).go q a' r = some (q', m')
  | [], q, a, q', m, h, a' => by
    simp only [Sys.go, Option.some.injEq, Prod.mk.injEq] at h
    exact ⟨a', by rw [← h.1]; rfl⟩
  | s :: r, q, a, q', m, h, a' => by
    rw [Sys.go] at h
    split at h
    case isTrue hs =>
      split at h
      · cases h
      · rename_i q1 e
        obtain ⟨m', k⟩ := go_any r q1 _ q' m h ((sys f g hf).nl q a' s)
        exact ⟨m', by rw [Sys.go, if_pos hs, e]; exact k⟩
    case isFalse => cases h
theorem go_none : ∀ (r : List Int) (st : Std) (a : Lead) (q' : Pr) (m : Lead), (sys f g hf).go (st, none) a r = some (q', m) → q'.2 = none
  | [], st, a, q', m, h => by
    simp only [Sys.go, Option.some.injEq, Prod.mk.injEq] at h
    rw [← h.1]
  | s :: r, st, a, q', m, h => by
    rw [Sys.go] at h
    split at h
    case isTrue hs =>
      split at h
      · cases h
      · rename_i q1 e
        obtain ⟨st1, e1, rfl⟩ := Option.map_eq_some_iff.mp (show (step f st s).map _ = some q1 from e)
        exact go_none r st1 _ q' m h
    case isFalse => cases h
theorem go_lead : ∀ (r : List Int) (st t : Std) (a : Lead) (q' : Pr) (m : Lead), Red a → (sys f g hf).go (st, some t) a r = some (q', m) → q'.2 ≠ none → m = leadB a (tells f st r) (tells g t r)
  | [], st, t, a, q', m, ha, h, hq => by
    simp only [Sys.go, Option.some.injEq, Prod.mk.injEq] at h
    rw [← h.2]
    exact (leadB_nil ha).symm
  | s :: r, st, t, a, q', m, ha, h, hq => by
    rw [Sys.go] at h
    split at h
    case isTrue hs =>
      split at h
      · cases h
      · rename_i q1 e
        obtain ⟨st1, e1, rfl⟩ := Option.map_eq_some_iff.mp (show (step f st s).map _ = some q1 from e)
        simp only [Option.bind_some] at h
        cases e2 : step g t s with
        | none => rw [e2] at h; exact absurd (go_none r st1 _ q' m h) hq
        | some t1 =>
          rw [e2] at h
          have en : (sys f g hf).nl (st, some t) a s = leadB a (tellS f st s) (tellS g t s) := by
            show nlP f g (st, some t) a s = _
            unfold nlP
            simp only [e2]
          rw [en] at h
          rw [go_lead r st1 t1 _ q' m (red_leadB _ _ _) h hq, leadB_leadB, tells, tells, e1, e2]
    case isFalse => cases h
theorem worse_none (st : Std) (L : Lead) : worseB f g st none L = ending f st := by simp [worseB]
theorem cov (q : Pr) (ls : List Lead) (a : Lead) (hok : okLs ls) (hn : newsB ls a = false) (r : List Int) (G : (sys f g hf).Goal q a r) : ∃ l ∈ ls, (sys f g hf).Goal q l r := by
  obtain ⟨q', m, hg, hb⟩ := G
  have hb : worseB f g q'.1 q'.2 m = true := hb
  by_cases ha : a ∈ ls
  · exact ⟨a, ha, q', m, hg, hb⟩
  have he : ending f q'.1 = true := by
    unfold worseB at hb
    rw [Bool.and_eq_true] at hb
    exact hb.1
  obtain ⟨st, its⟩ := q
  by_cases h0 : (none : Lead) ∈ ls
  · obtain ⟨m', k⟩ := go_any r _ a q' m hg none
    refine ⟨none, h0, q', m', k, ?_⟩
    show worseB f g q'.1 q'.2 m' = true
    cases h2 : q'.2 with
    | none => rw [worse_none]; exact he
    | some t' =>
      cases its with
      | none => have := go_none r st none q' m' k; rw [this] at h2; cases h2
      | some t =>
        have := go_lead r st t none q' m' trivial k (by rw [h2]; simp)
        rw [this]
        simp [worseB, he, leadB]
  have hl : 2 ≤ ls.length := by
    unfold newsB at hn
    simp only [ha, h0, decide_false, Bool.not_false, Bool.and_true, decide_eq_false_iff_not] at hn
    omega
  obtain ⟨h1, h2, h3⟩ := hok
  match ls, hl, h1, h2, h3 with
  | [l1, l2], _, _, h2, h3 =>
    have hne : l1 ≠ l2 := by
      intro e
      subst e
      simp at h2
    obtain ⟨m1, k1⟩ := go_any r _ a q' m hg l1
    obtain ⟨m2, k2⟩ := go_any r _ a q' m hg l2
    by_cases w1 : worseB f g q'.1 q'.2 m1 = true
    · exact ⟨l1, by simp, q', m1, k1, w1⟩
    refine ⟨l2, by simp, q', m2, k2, ?_⟩
    show worseB f g q'.1 q'.2 m2 = true
    cases e2 : q'.2 with
    | none => rw [worse_none]; exact he
    | some t' =>
      cases its with
      | none => have := go_none r st l1 q' m1 k1; rw [this] at e2; cases e2
      | some t =>
        have r1 := go_lead r st t l1 q' m1 (h3 _ (by simp)) k1 (by rw [e2]; simp)
        have r2 := go_lead r st t l2 q' m2 (h3 _ (by simp)) k2 (by rw [e2]; simp)
        rw [e2] at w1
        unfold worseB at w1 ⊢
        rw [he] at w1 ⊢
        simp only [Bool.true_and] at w1 ⊢
        by_cases eg : ending g t' = true
        · rw [eg] at w1 ⊢
          simp only [Bool.not_true, Bool.false_or, Bool.not_eq_true, Bool.not_eq_false', decide_eq_true_eq, Bool.not_eq_eq_eq_not, decide_eq_false_iff_not] at w1 ⊢
          intro z
          refine hne (red_uniq (h3 _ (by simp)) (h3 _ (by simp)) (m := tells f st r) (t := tells g t r) ?_ ?_)
          · rw [← r1]; exact Decidable.not_not.mp w1
          · rw [← r2]; exact z
        · simp [eg]
theorem red_nl (q : Pr) (a : Lead) (s : Int) : Red (nlP f g q a s) := by
  unfold nlP
  split
  · trivial
  · split
    · trivial
    · exact red_leadB _ _ _
theorem ok_acc {ls : List Lead} {a : Lead} (h : okLs ls) (ha : Red a) (hn : newsB ls a = true) : okLs (ls ++ [a]) := by
  unfold newsB at hn
  simp only [Bool.and_eq_true, decide_eq_true_eq, Bool.not_eq_true', decide_eq_false_iff_not] at hn
  obtain ⟨h1, h2, h3⟩ := h
  refine ⟨by simp; omega, List.nodup_append.mpr ⟨h2, by simp, fun x hx y hy e => ?_⟩, fun L hL => ?_⟩
  · rw [List.mem_singleton] at hy
    subst hy
    exact hn.2.2 (e ▸ hx)
  · rcases List.mem_append.mp hL with hL | hL
    · exact h3 L hL
    · rw [List.mem_singleton.mp hL]; exact ha
/-! ### sizes -/
def Lsz (n : Nat) : Lead → Prop
  | none => True
  | some p => p.1.length ≤ n ∧ p.2.length ≤ n
theorem cancel_sz : ∀ (l r : List Int) (n : Nat), l.length ≤ n → r.length ≤ n → Lsz n (cancel l r)
  | [], r, n, _, h => ⟨Nat.zero_le _, h⟩
  | x :: l, [], n, h, _ => ⟨h, Nat.zero_le _⟩
  | x :: l, y :: r, n, h1, h2 => by
    rw [cancel]
    split
    · exact cancel_sz l r n (by simp at h1; omega) (by simp at h2; omega)
    · trivial
theorem tellS_len (f : Fmt) (st : Std) (s : Int) : (tellS f st s).length ≤ 1 := by
  cases st <;> simp [tellS]
  · split <;> simp
  · split <;> simp
theorem nl_sz {q : Pr} {a : Lead} {s : Int} {n : Nat} (h : Lsz n a) : Lsz (n + 1) (nlP f g q a s) := by
  unfold nlP
  split
  · trivial
  · rename_i t e
    split
    · trivial
    · cases a with
      | none => trivial
      | some p =>
        have h1 := tellS_len f q.1 s
        have h2 := tellS_len g t s
        obtain ⟨a1, a2⟩ := h
        exact cancel_sz _ _ _ (by simp; omega) (by simp; omega)
theorem go_sz : ∀ (r : List Int) (q : Pr) (a : Lead) (q' : Pr) (m : Lead) (n : Nat), Lsz n a → (sys f g hf).go q a r = some (q', m) → Lsz (n + r.length) m
  | [], q, a, q', m, n, hn, h => by
    simp only [Sys.go, Option.some.injEq, Prod.mk.injEq] at h
    rw [← h.2]; exact hn
  | s :: r, q, a, q', m, n, hn, h => by
    rw [Sys.go] at h
    split at h
    case isTrue hs =>
      split at h
      · cases h
      · rename_i q1 e
        have := go_sz r q1 _ q' m (n + 1) (nl_sz (f := f) (g := g) (q := q) (s := s) hn) h
        rw [List.length_cons]
        rw [show n + (r.length + 1) = n + 1 + r.length by omega]
        exact this
    case isFalse => cases h
/-! ### few stands -/
structure Sm (f : Fmt) : Prop where
  b4 : f.base ≤ 4
  m5 : f.most ≤ 5
  h4 : f.head.length ≤ 4
def Wf (f : Fmt) : Std → Prop
  | .head p => p < f.head.length
  | .tag => True
  | .len u => u.chunk = true
  | .second u a => u.chunk = true ∧ 0 ≤ a ∧ a < f.base
  | .body u l t => u.chunk = true ∧ 0 ≤ l ∧ l ≤ f.most ∧ 0 ≤ t ∧ t < f.base ∧ (u ≠ .check → t = 0)
  | .sum t => 0 ≤ t ∧ t < f.base
  | .room => True
  | .over => True
def nat4 : List Int := [0, 1, 2, 3]
def nat6 : List Int := [0, 1, 2, 3, 4, 5]
def uses3 : List Use := [.keep, .check, .skip]
def stands : List Std := [.head 0, .head 1, .head 2, .head 3, .tag, .room, .over] ++ (uses3.map .len ++ ((uses3.flatMap fun u => nat4.map fun a => .second u a) ++ ((nat6.flatMap fun l => .body .keep l 0 :: .body .skip l 0 :: nat4.map fun t => .body .check l t) ++ nat4.map .sum)))
theorem mem4 {a : Int} (h : 0 ≤ a) (k : a < 4) : a ∈ nat4 := by
  unfold nat4
  have : a = 0 ∨ a = 1 ∨ a = 2 ∨ a = 3 := by omega
  rcases this with rfl | rfl | rfl | rfl <;> decide
theorem mem6 {a : Int} (h : 0 ≤ a) (k : a < 6) : a ∈ nat6 := by
  unfold nat6
  have : a = 0 ∨ a = 1 ∨ a = 2 ∨ a = 3 ∨ a = 4 ∨ a = 5 := by omega
  rcases this with rfl | rfl | rfl | rfl | rfl | rfl <;> decide
theorem mem_stands {f : Fmt} (h : Sm f) {st : Std} (w : Wf f st) : st ∈ stands := by
  obtain ⟨b4, m5, h4⟩ := h
  cases st with
  | head p =>
    have w : p < f.head.length := w
    have : p = 0 ∨ p = 1 ∨ p = 2 ∨ p = 3 := by omega
    rcases this with rfl | rfl | rfl | rfl <;> decide
  | tag => decide
  | room => decide
  | over => decide
  | len u =>
    have w : u.chunk = true := w
    cases u <;> first | decide | cases w
  | second u a =>
    obtain ⟨w1, w2, w3⟩ := w
    refine List.mem_append_right _ (List.mem_append_right _ (List.mem_append_left _ (List.mem_flatMap.mpr ⟨u, ?_, List.mem_map.mpr ⟨a, mem4 w2 (by omega), rfl⟩⟩)))
    cases u <;> first | decide | cases w1
  | body u l t =>
    obtain ⟨w1, w2, w3, w4, w5, w6⟩ := w
    refine List.mem_append_right _ (List.mem_append_right _ (List.mem_append_right _ (List.mem_append_left _ (List.mem_flatMap.mpr ⟨l, mem6 w2 (by omega), ?_⟩))))
    cases u with
    | keep => rw [w6 (by simp)]; exact List.mem_cons_self ..
    | skip => rw [w6 (by simp)]; exact List.mem_cons_of_mem _ (List.mem_cons_self ..)
    | check => exact List.mem_cons_of_mem _ (List.mem_cons_of_mem _ (List.mem_map.mpr ⟨t, mem4 w4 (by omega), rfl⟩))
    | end_ => cases w1
    | stop => cases w1
  | sum t =>
    obtain ⟨w1, w2⟩ := w
    exact List.mem_append_right _ (List.mem_append_right _ (List.mem_append_right _ (List.mem_append_right _ (List.mem_map.mpr ⟨t, mem4 w1 (by omega), rfl⟩))))
theorem wf_body {f : Fmt} (h : f.Ok) {u : Use} (hu : u.chunk = true) {n : Int} (hn : n ≤ f.most) : Wf f (bodyStd u n) := by
  have b2 := h.b2
  unfold bodyStd
  split
  · exact ⟨hu, by omega, hn, by omega, by omega, fun _ => rfl⟩
  · split
    · exact ⟨by omega, by omega⟩
    · trivial
theorem use_chunk {f : Fmt} {s : Int} {u : Use} (h : use f s = some u) (h1 : u ≠ .end_) (h2 : u ≠ .stop) : u.chunk = true := by
  cases u <;> first | rfl | exact absurd rfl h1 | exact absurd rfl h2
theorem wf_step {f : Fmt} (h : f.Ok) {st st' : Std} {s : Int} (w : Wf f st) (h0 : 0 ≤ s) (h1 : s < f.base) (e : step f st s = some st') : Wf f st' := by
  have b2 := h.b2
  have hm : ∀ x : Int, 0 ≤ x % f.base ∧ x % f.base < f.base := fun x => ⟨Int.emod_nonneg _ (by omega), Int.emod_lt_of_pos _ (by omega)⟩
  cases st with
  | head p =>
    simp only [step] at e
    have hh : ∀ st2 : Std, (if p + 1 < f.head.length then Std.head (p + 1) else .tag) = st2 → Wf f st2 := fun st2 z => by
      subst z
      split
      · assumption
      · trivial
    split at e
    · cases e
    · exact hh _ (Option.some.inj e)
    · split at e
      · exact hh _ (Option.some.inj e)
      · cases e
  | tag =>
    simp only [step] at e
    split at e
    · cases e
    · cases e; trivial
    · cases e; trivial
    · rename_i u k1 k2 hu
      cases e
      exact use_chunk hu (fun z => by subst z; exact k1 rfl) (fun z => by subst z; exact k2 rfl)
  | len u =>
    simp only [step] at e
    split at e
    · split at e
      · cases e; exact wf_body h w (by assumption)
      · cases e
    · split at e
      · cases e; exact ⟨w, h0, h1⟩
      · cases e
    · split at e
      · cases e; exact ⟨w, h0, h1⟩
      · cases e
  | second u a =>
    simp only [step] at e
    obtain ⟨w1, w2, w3⟩ := w
    have hw : ∀ n : Int, (if n ≤ f.most then some (bodyStd u n) else none) = some st' → Wf f st' := fun n z => by
      split at z
      · cases z; exact wf_body h w1 (by assumption)
      · cases z
    exact hw _ e
  | body u l t =>
    simp only [step, Option.some.injEq] at e
    obtain ⟨w1, w2, w3, w4, w5, w6⟩ := w
    subst e
    by_cases hu : u = .check
    · subst hu
      simp only [if_true]
      split
      · exact ⟨w1, by omega, by omega, (hm _).1, (hm _).2, fun z => absurd rfl z⟩
      · exact hm _
    · simp only [if_neg hu]
      split
      · exact ⟨w1, by omega, by omega, w4, w5, w6⟩
      · trivial
  | sum t =>
    simp only [step] at e
    split at e
    · cases e; trivial
    · cases e
  | room => cases e; trivial
  | over => cases e
theorem wf_first (f : Fmt) : Wf f (first f) := by
  unfold first
  split
  · trivial
  · rename_i h
    show 0 < f.head.length
    exact List.length_pos_iff.mpr h
def pairs : List Pr := stands.flatMap fun a => (a, none) :: stands.map fun b => (a, some b)
theorem pairs_len : pairs.length = 3906 := by decide +kernel
def WfP (f g : Fmt) (q : Pr) : Prop := Wf f q.1 ∧ ∀ t, q.2 = some t → Wf g t
theorem mem_pairs {f g : Fmt} (h : Sm f) (k : Sm g) {q : Pr} (w : WfP f g q) : q ∈ pairs := by
  obtain ⟨a, b⟩ := q
  refine List.mem_flatMap.mpr ⟨a, mem_stands h w.1, ?_⟩
  cases b with
  | none => exact List.mem_cons_self ..
  | some b => exact List.mem_cons_of_mem _ (List.mem_map.mpr ⟨b, mem_stands k (w.2 b rfl), rfl⟩)
theorem wfP_step {f g : Fmt} (h : f.Ok) (k : g.Ok) (hb : g.base = f.base) {q q' : Pr} {s : Int} (w : WfP f g q) (hs : s ∈ wsig f q.1) (e : npP f g q s = some q') : WfP f g q' := by
  have hs := wsig_in h _ s hs
  obtain ⟨st1, e1, rfl⟩ := Option.map_eq_some_iff.mp e
  refine ⟨wf_step h w.1 hs.1 hs.2 e1, fun t ht => ?_⟩
  obtain ⟨t0, h1, h2⟩ := Option.bind_eq_some_iff.mp (show q.2.bind (fun t => step g t s) = some t from ht)
  exact wf_step k (w.2 t0 h1) hs.1 (by omega) h2
end K66

/-! file K66F5 -/
set_option Elab.async false
set_option linter.all false
set_option autoImplicit false
set_option maxRecDepth 100000
set_option maxHeartbeats 4000000
namespace K66
open PySem PySem.Spec L2 Z Bf
variable {f g : Fmt}
theorem wf_in {st : Std} (w : Wf f st) : st.In f := by
  cases st <;> first | exact w | trivial
abbrev It := Item Pr Lead
def itD (x : It) : D := .tuple [sgD x.1, pairD x.2.1, leadD x.2.2]
def TAcc : Rho → Out Rho Flw := sqT (stK 4 (varT 15) (Z.binT addD (getO 4 (varT 15) (lstT (nilT))) (lstT (consT (varT 14) (nilT))))) (appT 6 (tupT (consT (tupT (starT (varT 7) (consT (varT 11) (nilT)))) (consT (varT 15) (consT (varT 14) (nilT))))))
def TNew : Rho → Out Rho Flw := ifT (isB (callT [none, none] S_is_news (consT (getO 4 (varT 15) (lstT (nilT))) (consT (varT 14) (nilT))))) TAcc (nxT)
def TAsk : Rho → Out Rho Flw := sqT (asgT 13 (ifT (isB (Z.binT isD (varT 9) (cT .none))) (cT .none) (callT [none, none, none] S_step (consT (varT 1) (consT (varT 9) (consT (varT 11) (nilT))))))) (sqT (asgT 14 (cT .none)) (sqT (ifT (isB (Z.binT isNotD (varT 13) (cT .none))) (asgT 14 (callT [none, none, none] S_lead_behind (consT (varT 10) (consT (callT [none, none, none] S_told_at_faces (consT (varT 0) (consT (varT 8) (consT (varT 11) (nilT))))) (consT (callT [none, none, none] S_told_at_faces (consT (varT 1) (consT (varT 9) (consT (varT 11) (nilT))))) (nilT)))))) (nxT)) (sqT (asgT 15 (tupT (consT (varT 12) (consT (varT 13) (nilT))))) TNew)))
def TIn : Rho → Out Rho Flw := sqT (asgT 12 (callT [none, none, none] S_step (consT (varT 0) (consT (varT 8) (consT (varT 11) (nilT)))))) (ifT (isB (Z.binT isNotD (varT 12) (cT .none))) TAsk (nxT))
def TMid : Rho → Out Rho Flw := sqT (ifT (isB (callT [none, none, none, none, none] S_is_worse (consT (varT 0) (consT (varT 1) (consT (varT 8) (consT (varT 9) (consT (varT 10) (nilT)))))))) (retT (varT 7)) (nxT)) (forS (seqT (callT [none, none, none] S_signs_at (consT (varT 0) (consT (varT 8) (consT (varT 2) (nilT)))))) (setG 11) TIn)
def GIt : D → Rho → Option Rho := tupG 3 (consG (setG 7) (consG (tupG 2 (consG (setG 8) (consG (setG 9) (nilG)))) (consG (setG 10) (nilG))))
def TBod : Rho → Out Rho Flw := sqT (asgT 6 (lstT (nilT))) (sqT (forS (seqT (varT 5)) GIt TMid) (asgT 5 (varT 6)))
theorem T_worse_eq : T_worse_in = sqT (asgT 3 (tupT (consT (callT [none] S_first_stand (consT (varT 0) (nilT))) (consT (callT [none] S_first_stand (consT (varT 1) (nilT))) (nilT))))) (sqT (par2T 4 5 (consT (dct1T (varT 3) (lstT (consT (cT (.tuple (List.replicate 2 (.tuple [])))) (nilT)))) (consT (lstT (consT (tupT (consT (tupT (nilT)) (consT (varT 3) (consT (cT (.tuple (List.replicate 2 (.tuple [])))) (nilT))))) (nilT))) (nilT)))) (sqT (whT (isB (Z.binT neD (varT 5) (lstT (nilT)))) TBod fuel) (retT (cT .none)))) := rfl
def envW (f g : Fmt) (s3 : Option D) (K : Kn) (fr la a7 a8 a9 a10 a11 a12 a13 a14 a15 : Option D) : Rho := [some f.d, some g.d, some (.bool true), s3, some (.dict (knD K)), fr, la, a7, a8, a9, a10, a11, a12, a13, a14, a15]
def env (f g : Fmt) (s3 : Option D) (K : Kn) (fr : Option D) (la : List It) (x : It) (a11 a12 a13 a14 a15 : Option D) : Rho := envW f g s3 K fr (some (.list (la.map itD))) (some (sgD x.1)) (some x.2.1.1.d) (some (stD x.2.1.2)) (some (leadD x.2.2)) a11 a12 a13 a14 a15
theorem step_stD {g : Fmt} (hg : g.Ok) {t : Std} (w : Wf g t) (s : Int) : S_step [g.d, stD (some t), .int s] = .ok (stD (step g t s)) [] := step_eq hg t (wf_in w) s
theorem ask_eq (hg : g.Ok) (s3 : Option D) (K : Kn) (fr : Option D) (la : List It) (x : It) (s : Int) (st1 : Std) (a13 a14 a15 : Option D) (w : WfP f g x.2.1) (hz : Lsz 100000 x.2.2) :
    TAsk (env f g s3 K fr la x (some (.int s)) (some st1.d) a13 a14 a15) = TNew (env f g s3 K fr la x (some (.int s)) (some st1.d) (some (stD (x.2.1.2.bind fun t => step g t s))) (some (leadD (nlP f g x.2.1 x.2.2 s))) (some (pairD (st1, x.2.1.2.bind fun t => step g t s)))) := by
  obtain ⟨u, ⟨st, its⟩, L⟩ := x
  obtain ⟨NT, hNT⟩ : ∃ NT, NT = TNew := ⟨_, rfl⟩
  unfold TAsk
  rw [← hNT]
  have t1 := told_at_faces_eq f st s
  have n0 : isNoneD (stD none) = true := rfl
  have l1 := tellS_len f st s
  cases its with
  | none => simp [env, envW, n0, nlP, pairD, leadD, stD]
  | some t =>
    have n1 : isNoneD (stD (some t)) = false := nonD t
    have e1 := step_stD hg (w.2 t rfl) s
    have t2 : S_told_at_faces [g.d, stD (some t), .int s] = _ := told_at_faces_eq g t s
    have l2 := tellS_len g t s
    cases e2 : step g t s with
    | none =>
      rw [e2] at e1
      simp [env, envW, n0, n1, e1, e2, nlP, pairD, leadD]
    | some tt =>
      rw [e2] at e1
      have n2 : isNoneD (stD (some tt)) = false := nonD tt
      have lb := lead_behind_eq L (tellS f st s) (tellS g t s) (fun p hp => by
        have hz : Lsz 100000 L := hz
        rw [hp] at hz
        obtain ⟨z1, z2⟩ := hz
        omega)
      obtain ⟨Y, hY⟩ : ∃ Y, Y = leadD L := ⟨_, rfl⟩
      rw [← hY] at lb
      simp [env, envW, n0, n1, n2, e1, e2, nlP, pairD, ← hY, t1, t2, lb]
theorem add_ls (a b : List Lead) (h : a.length + b.length ≤ 1000000) : addD (lsD a) (lsD b) = some (lsD (a ++ b)) := by
  simp [addD, lsD]; omega
theorem new_rej (s3 : Option D) (K : Kn) (fr : Option D) (la : List It) (x : It) (q : Pr) (a : Lead) (a11 a12 a13 : Option D) (hn : newsB (lds K q) a = false) :
    TNew (env f g s3 K fr la x a11 a12 a13 (some (leadD a)) (some (pairD q))) = .ok .nx (env f g s3 K fr la x a11 a12 a13 (some (leadD a)) (some (pairD q))) := by
  have n1 := is_news_eq (lds K q) a
  have k1 := okKey_P q
  have k2 := dget_lds K q
  rw [hn] at n1
  obtain ⟨kvs, hk⟩ : ∃ kvs, kvs = knD K := ⟨_, rfl⟩
  rw [← hk] at k2
  simp [TNew, env, envW, ← hk, k1, k2, n1]
theorem new_acc (s3 : Option D) (K : Kn) (fr : Option D) (la : List It) (x : It) (q : Pr) (a : Lead) (s : Int) (a12 a13 : Option D) (hn : newsB (lds K q) a = true) (hK : K.length < 100000) (hla : la.length < 100000) (hx : x.1.length < 100000) :
    TNew (env f g s3 K fr la x (some (.int s)) a12 a13 (some (leadD a)) (some (pairD q))) = .ok .nx (env f g s3 (setK K q (lds K q ++ [a])) fr (la ++ [(x.1 ++ [s], q, a)]) x (some (.int s)) a12 a13 (some (leadD a)) (some (pairD q))) := by
  have n1 := is_news_eq (lds K q) a
  have k1 := okKey_P q
  have k2 := dget_lds K q
  rw [hn] at n1
  have hl : (lds K q).length < 2 := by
    unfold newsB at hn
    simp only [Bool.and_eq_true, decide_eq_true_eq] at hn
    exact hn.1
  have ad := add_ls (lds K q) [a] (by simp; omega)
  have ad : addD (lsD (lds K q)) (.list [leadD a]) = some (lsD (lds K q ++ [a])) := ad
  have pt := dput_kn K q (lds K q ++ [a])
  have lk : (knD K).length < sizeLine := by
    simp [knD, sizeLine]; omega
  have kn' : (sgD x.1) = .tuple (x.1.map .int) := rfl
  have it : itD (x.1 ++ [s], q, a) = .tuple [.tuple (x.1.map .int ++ [.int s]), pairD q, leadD a] := by simp [itD, sgD]
  have c1 : (la.map itD).length < sizeLine := by simp [sizeLine]; omega
  have c2 : (x.1.map PyData.int ++ [PyData.int s]).length ≤ sizeLine := by simp [sizeLine]; omega
  obtain ⟨kvs, hk⟩ : ∃ kvs, kvs = knD K := ⟨_, rfl⟩
  rw [← hk] at k2 pt lk
  obtain ⟨its, hi⟩ : ∃ its, its = la.map itD := ⟨_, rfl⟩
  rw [← hi] at c1
  obtain ⟨ws, hw⟩ : ∃ ws, ws = x.1.map PyData.int := ⟨_, rfl⟩
  rw [← hw] at c2 it kn'
  have e1 : stK 4 (varT 15) (Z.binT addD (getO 4 (varT 15) (lstT (nilT))) (lstT (consT (varT 14) (nilT)))) (env f g s3 K fr la x (some (.int s)) a12 a13 (some (leadD a)) (some (pairD q))) = .ok .nx (env f g s3 (setK K q (lds K q ++ [a])) fr la x (some (.int s)) a12 a13 (some (leadD a)) (some (pairD q))) := by
    simp [env, envW, ← hk, k1, k2, ad, lk, pt]
  have e2 : appT 6 (tupT (consT (tupT (starT (varT 7) (consT (varT 11) (nilT)))) (consT (varT 15) (consT (varT 14) (nilT))))) (env f g s3 (setK K q (lds K q ++ [a])) fr la x (some (.int s)) a12 a13 (some (leadD a)) (some (pairD q))) = .ok .nx (env f g s3 (setK K q (lds K q ++ [a])) fr (la ++ [(x.1 ++ [s], q, a)]) x (some (.int s)) a12 a13 (some (leadD a)) (some (pairD q))) := by
    have c3 : ws.length + 1 ≤ sizeLine := by simpa using c2
    have c4 : ws.length ≤ 16777215 := by simp [sizeLine] at c3; omega
    simp [env, envW, kn', c1, c3, c4, List.map_append, it, ← hi]
  unfold TNew
  have e0 : isB (callT [none, none] S_is_news (consT (getO 4 (varT 15) (lstT (nilT))) (consT (varT 14) (nilT)))) (env f g s3 K fr la x (some (.int s)) a12 a13 (some (leadD a)) (some (pairD q))) = .ok true (env f g s3 K fr la x (some (.int s)) a12 a13 (some (leadD a)) (some (pairD q))) := by
    simp [env, envW, ← hk, k1, k2, n1]
  rw [ifT_eq, e0, bind_ok, if_pos rfl, TAcc, sqT_eq, e1, sqK_nx, e2]
theorem in_none (hf : f.Ok) (s3 : Option D) (K : Kn) (fr : Option D) (la : List It) (x : It) (s : Int) (a12 a13 a14 a15 : Option D) (w : WfP f g x.2.1) (e : step f x.2.1.1 s = none) :
    TIn (env f g s3 K fr la x (some (.int s)) a12 a13 a14 a15) = .ok .nx (env f g s3 K fr la x (some (.int s)) (some .none) a13 a14 a15) := by
  have e1 := step_eq hf x.2.1.1 (wf_in w.1) s
  rw [e] at e1
  have e1 : S_step [f.d, x.2.1.1.d, .int s] = .ok .none [] := e1
  unfold TIn
  obtain ⟨A, hA⟩ : ∃ A, A = TAsk := ⟨_, rfl⟩
  rw [← hA]
  simp [env, envW, e1, isNoneD]
theorem in_some (hf : f.Ok) (hg : g.Ok) (s3 : Option D) (K : Kn) (fr : Option D) (la : List It) (x : It) (s : Int) (st1 : Std) (a12 a13 a14 a15 : Option D) (w : WfP f g x.2.1) (hz : Lsz 100000 x.2.2) (e : step f x.2.1.1 s = some st1) :
    TIn (env f g s3 K fr la x (some (.int s)) a12 a13 a14 a15) = TNew (env f g s3 K fr la x (some (.int s)) (some st1.d) (some (stD (x.2.1.2.bind fun t => step g t s))) (some (leadD (nlP f g x.2.1 x.2.2 s))) (some (pairD (st1, x.2.1.2.bind fun t => step g t s)))) := by
  have e1 := step_eq hf x.2.1.1 (wf_in w.1) s
  rw [e] at e1
  have e1 : S_step [f.d, x.2.1.1.d, .int s] = .ok st1.d [] := e1
  have n1 := nonD st1
  rw [← ask_eq hg s3 K fr la x s st1 a13 a14 a15 w hz]
  unfold TIn
  obtain ⟨A, hA⟩ : ∃ A, A = TAsk := ⟨_, rfl⟩
  rw [← hA]
  simp [env, envW, e1, n1]
end K66

/-! file K66F6 -/
set_option Elab.async false
set_option linter.all false
set_option autoImplicit false
set_option maxRecDepth 100000
set_option maxHeartbeats 4000000
namespace K66
open PySem PySem.Spec L2 Z Bf
variable {f g : Fmt} {hf : f.Ok}
structure Bd (f g : Fmt) (K : Kn) : Prop where
  k : ∀ q ∈ K, WfP f g q.1 ∧ q.2.length ≤ 2
theorem Bd.len {K : Kn} (B : Bd f g K) (sf : Sm f) (sg : Sm g) (nd : (K.map (·.1)).Nodup) : K.length ≤ 3906 ∧ tot K ≤ 7812 := by
  have h := sub_len (K.map (·.1)) pairs nd fun q hq => by
    obtain ⟨r, hr, rfl⟩ := List.mem_map.mp hq
    exact mem_pairs sf sg (B.k r hr).1
  rw [pairs_len, List.length_map] at h
  have := tot_le K fun q hq => (B.k q hq).2
  exact ⟨h, by omega⟩
theorem mem_set {K : Kn} {p : Pr} {v : List Lead} {q : Pr × List Lead} (h : q ∈ setK K p v) : q ∈ K ∨ q = (p, v) := by
  unfold setK at h
  split at h
  · obtain ⟨r, hr, e⟩ := List.mem_map.mp h
    split at e
    · rename_i hp
      rw [← e, hp]; exact .inr rfl
    · rw [← e]; exact .inl hr
  · rcases List.mem_append.mp h with h | h
    · exact .inl h
    · exact .inr (List.mem_singleton.mp h)
theorem Bd.put {K : Kn} (B : Bd f g K) {p : Pr} {v : List Lead} (w : WfP f g p) (hv : v.length ≤ 2) : Bd f g (setK K p v) := ⟨fun q hq => by
  rcases mem_set hq with h | rfl
  · exact B.k q h
  · exact ⟨w, hv⟩⟩
theorem go_wf (hg : g.Ok) (hb : g.base = f.base) : ∀ (r : List Int) (q : Pr) (a : Lead) (q' : Pr) (m : Lead), WfP f g q → (sys f g hf).go q a r = some (q', m) → WfP f g q'
  | [], q, a, q', m, w, h => by
    simp only [Sys.go, Option.some.injEq, Prod.mk.injEq] at h
    rw [← h.1]; exact w
  | s :: r, q, a, q', m, w, h => by
    rw [Sys.go] at h
    split at h
    case isTrue hs =>
      split at h
      · cases h
      · rename_i q1 e
        exact go_wf hg hb r q1 _ q' m (wfP_step hf hg hb w hs e) h
    case isFalse => cases h
theorem wf_start (f g : Fmt) : WfP f g (first f, some (first g)) := ⟨wf_first f, fun t h => by cases h; exact wf_first g⟩
theorem lay_sgs (l : List It) : PyData.canLayAll0 (l.map itD) = true := by
  induction l with
  | nil => simp [PyData.canLayAll0]
  | cons x l ih =>
    obtain ⟨u, ⟨st, its⟩, L⟩ := x
    have : (itD (u, (st, its), L)).canLay0 = true := by
      cases its <;> simp [itD, pairD, PyData.canLay0, PyData.canLayAll0, lay_sg, lay_lead, std_lay, stD]
    simp [PyData.canLayAll0, this, ih]
theorem inner (hg : g.Ok) (hb : g.base = f.base) (sf : Sm f) (sg : Sm g) (s3 fr : Option D) (fr0 : List It) (x : It) (t0 : Nat) (hx : x.1.length ≤ 7812) :
    ∀ (ss : List Int) (K : Kn) (la : List It) (a11 a12 a13 a14 a15 : Option D), Mid (sys f g hf) x ss K (fr0 ++ la) → Bd f g K → tot K = t0 + la.length → (∀ y ∈ la, y.1.length = x.1.length + 1) →
    ∃ (K' : Kn) (la' : List It) (b11 b12 b13 b14 b15 : Option D), forT (setG 11) TIn (ss.map .int) (env f g s3 K fr la x a11 a12 a13 a14 a15) = .ok .nx (env f g s3 K' fr la' x b11 b12 b13 b14 b15) ∧ Mid (sys f g hf) x [] K' (fr0 ++ la') ∧ Bd f g K' ∧ tot K' = t0 + la'.length ∧ (∀ y ∈ la', y.1.length = x.1.length + 1)
  | [], K, la, a11, a12, a13, a14, a15, M, B, ht, hl => ⟨K, la, a11, a12, a13, a14, a15, rfl, M, B, ht, hl⟩
  | s :: ss, K, la, a11, a12, a13, a14, a15, M, B, ht, hl => by
    have w : WfP f g x.2.1 := go_wf hg hb _ _ _ _ _ (wf_start f g) M.me
    have hz : Lsz 100000 x.2.2 := by
      have z0 : Lsz 0 (some ([], [])) := ⟨Nat.le_refl _, Nat.le_refl _⟩
      have := go_sz x.1 _ _ _ _ 0 z0 M.me
      cases h : x.2.2 with
      | none => trivial
      | some p =>
        rw [h] at this
        obtain ⟨z1, z2⟩ := this
        exact ⟨by omega, by omega⟩
    have bl := B.len sf sg M.nd
    have hs : s ∈ wsig f x.2.1.1 := M.sub s (List.mem_cons_self ..)
    have hset : setG 11 (.int s) (env f g s3 K fr la x a11 a12 a13 a14 a15) = some (env f g s3 K fr la x (some (.int s)) a12 a13 a14 a15) := rfl
    rw [List.map_cons, forT_cons, hset, rK_some]
    cases e : step f x.2.1.1 s with
    | none =>
      rw [in_none hf s3 K fr la x s a12 a13 a14 a15 w e, loopK_nx]
      exact inner hg hb sf sg s3 fr fr0 x t0 hx ss K la _ _ _ _ _ (M.skip (by show npP f g x.2.1 s = none; unfold npP; rw [e]; rfl)) B ht hl
    | some st1 =>
      have en : (sys f g hf).np x.2.1 s = some (st1, x.2.1.2.bind fun t => step g t s) := by
        show npP f g x.2.1 s = _
        unfold npP; rw [e]; rfl
      rw [in_some hf hg s3 K fr la x s st1 a12 a13 a14 a15 w hz e]
      obtain ⟨q, hq⟩ : ∃ q : Pr, q = (st1, x.2.1.2.bind fun t => step g t s) := ⟨_, rfl⟩
      rw [← hq] at en ⊢
      have wq : WfP f g q := wfP_step hf hg hb w hs en
      cases hn : newsB (lds K q) (nlP f g x.2.1 x.2.2 s) with
      | false =>
        rw [new_rej s3 K fr la x q _ _ _ _ hn, loopK_nx]
        exact inner hg hb sf sg s3 fr fr0 x t0 hx ss K la _ _ _ _ _ (M.rej en fun r G => cov q _ _ (M.okL q) hn r G) B ht hl
      | true =>
        have hok := ok_acc (M.okL q) (red_nl (f := f) (g := g) x.2.1 x.2.2 s) hn
        have ma := M.acc en hok
        rw [List.append_assoc] at ma
        rw [new_acc s3 K fr la x q _ s _ _ hn (by omega) (by omega) (by omega), loopK_nx]
        refine inner hg hb sf sg s3 fr fr0 x t0 hx ss _ _ _ _ _ _ _ ma (B.put wq hok.1) ?_ ?_
        · rw [show tot (setK K q (lds K q ++ [nlP f g x.2.1 x.2.2 s])) = tot K + 1 from tot_put K q _ M.nd, List.length_append, List.length_singleton]; omega
        · intro y hy
          rcases List.mem_append.mp hy with hy | hy
          · exact hl y hy
          · rw [List.mem_singleton.mp hy]; simp
def Found (f g : Fmt) (hf : f.Ok) (w : List Int) : Prop := w.length ≤ 7812 ∧ (sys f g hf).Goal (sys f g hf).p0 (sys f g hf).l0 w ∧ ∀ v, (sys f g hf).Goal (sys f g hf).p0 (sys f g hf).l0 v → (sys f g hf).cd w ≤ (sys f g hf).cd v
theorem mid_run (hg : g.Ok) (hb : g.base = f.base) (sf : Sm f) (sg : Sm g) (s3 fr : Option D) (fr0 : List It) (x : It) (t0 : Nat) (hx : x.1.length ≤ 7812) (K : Kn) (la : List It) (a11 a12 a13 a14 a15 : Option D)
    (I : Inv (sys f g hf) K (x :: fr0 ++ la)) (B : Bd f g K) (ht : tot K = t0 + la.length) (hl : ∀ y ∈ la, y.1.length = x.1.length + 1) :
    (∃ (K' : Kn) (la' : List It) (b11 b12 b13 b14 b15 : Option D), TMid (env f g s3 K fr la x a11 a12 a13 a14 a15) = .ok .nx (env f g s3 K' fr la' x b11 b12 b13 b14 b15) ∧ Inv (sys f g hf) K' (fr0 ++ la') ∧ Bd f g K' ∧ tot K' = t0 + la'.length ∧ (∀ y ∈ la', y.1.length = x.1.length + 1)) ∨
    ∃ ρ', TMid (env f g s3 K fr la x a11 a12 a13 a14 a15) = .ok (.rt (sgD x.1)) ρ' ∧ Found f g hf x.1 := by
  have w : WfP f g x.2.1 := go_wf hg hb _ _ _ _ _ (wf_start f g) (I.at_ x (List.mem_cons_self ..))
  have e1 := is_worse_eq hf hg x.2.1.1 x.2.1.2 x.2.2
  have e2 := signs_at_eq hf x.2.1.1 (wf_in w.1)
  have t1 : isB (callT [none, none, none, none, none] S_is_worse (consT (varT 0) (consT (varT 1) (consT (varT 8) (consT (varT 9) (consT (varT 10) (nilT))))))) (env f g s3 K fr la x a11 a12 a13 a14 a15) = .ok (worseB f g x.2.1.1 x.2.1.2 x.2.2) (env f g s3 K fr la x a11 a12 a13 a14 a15) := by
    simp [env, envW, e1]
  have t2 : seqT (callT [none, none, none] S_signs_at (consT (varT 0) (consT (varT 8) (consT (varT 2) (nilT))))) (env f g s3 K fr la x a11 a12 a13 a14 a15) = .ok ((wsig f x.2.1.1).map .int) (env f g s3 K fr la x a11 a12 a13 a14 a15) := by
    simp [env, envW, e2, liD]
  cases hw : worseB f g x.2.1.1 x.2.1.2 x.2.2 with
  | true =>
    rw [hw] at t1
    have t3 : retT (varT 7) (env f g s3 K fr la x a11 a12 a13 a14 a15) = .ok (.rt (sgD x.1)) (env f g s3 K fr la x a11 a12 a13 a14 a15) := by
      simp [env, envW]
    refine .inr ⟨_, by rw [TMid, sqT_eq, ifT_eq, t1, bind_ok, if_pos rfl, t3, sqK_rt], hx, ?_⟩
    exact I.found hw
  | false =>
    rw [hw] at t1
    obtain ⟨K', la', b11, b12, b13, b14, b15, h1, h2, h3, h4, h5⟩ := inner (hf := hf) hg hb sf sg s3 fr fr0 x t0 hx (wsig f x.2.1.1) K la a11 a12 a13 a14 a15 (I.mid hw) B ht hl
    refine .inl ⟨K', la', b11, b12, b13, b14, b15, ?_, h2.fin, h3, h4, h5⟩
    rw [TMid, sqT_eq, ifT_eq, t1, bind_ok, if_neg (by decide), nxT_eq, sqK_nx, forS_eq, t2, bind_ok, h1]
theorem outer (hg : g.Ok) (hb : g.base = f.base) (sf : Sm f) (sg : Sm g) (s3 fr : Option D) (t0 n : Nat) (hn : n ≤ 7812) :
    ∀ (fr0 : List It) (K : Kn) (la : List It) (a7 a8 a9 a10 a11 a12 a13 a14 a15 : Option D), Inv (sys f g hf) K (fr0 ++ la) → Bd f g K → tot K = t0 + la.length → (∀ y ∈ fr0, y.1.length = n) → (∀ y ∈ la, y.1.length = n + 1) →
    (∃ (K' : Kn) (la' : List It) (b7 b8 b9 b10 b11 b12 b13 b14 b15 : Option D), forT GIt TMid (fr0.map itD) (envW f g s3 K fr (some (.list (la.map itD))) a7 a8 a9 a10 a11 a12 a13 a14 a15) = .ok .nx (envW f g s3 K' fr (some (.list (la'.map itD))) b7 b8 b9 b10 b11 b12 b13 b14 b15) ∧ Inv (sys f g hf) K' la' ∧ Bd f g K' ∧ tot K' = t0 + la'.length ∧ (∀ y ∈ la', y.1.length = n + 1)) ∨
    ∃ w ρ', forT GIt TMid (fr0.map itD) (envW f g s3 K fr (some (.list (la.map itD))) a7 a8 a9 a10 a11 a12 a13 a14 a15) = .ok (.rt (sgD w)) ρ' ∧ Found f g hf w
  | [], K, la, a7, a8, a9, a10, a11, a12, a13, a14, a15, I, B, ht, _, hl => .inl ⟨K, la, a7, a8, a9, a10, a11, a12, a13, a14, a15, rfl, I, B, ht, hl⟩
  | x :: fr0, K, la, a7, a8, a9, a10, a11, a12, a13, a14, a15, I, B, ht, hf0, hl => by
    have hx : x.1.length = n := hf0 x (List.mem_cons_self ..)
    have hset : GIt (itD x) (envW f g s3 K fr (some (.list (la.map itD))) a7 a8 a9 a10 a11 a12 a13 a14 a15) = some (env f g s3 K fr la x a11 a12 a13 a14 a15) := by
      simp [GIt, itD, pairD, envW, env]
    rw [List.map_cons, forT_cons, hset, rK_some]
    rcases mid_run (hf := hf) hg hb sf sg s3 fr fr0 x t0 (by omega) K la a11 a12 a13 a14 a15 I B ht (fun y hy => by rw [hl y hy, hx]) with ⟨K', la', b11, b12, b13, b14, b15, h1, h2, h3, h4, h5⟩ | ⟨ρ', h1, h2⟩
    · rw [h1, loopK_nx]
      exact outer hg hb sf sg s3 fr t0 n hn fr0 K' la' _ _ _ _ _ _ _ _ _ h2 h3 h4 (fun y hy => hf0 y (List.mem_cons_of_mem _ hy)) (fun y hy => by rw [h5 y hy, hx])
    · rw [h1, loopK_rt]
      exact .inr ⟨x.1, ρ', rfl, h2⟩
structure Lev (f g : Fmt) (hf : f.Ok) (s3 : Option D) (m : Nat) (ρ : Rho) : Prop where
  ex : ∃ (K : Kn) (fr : List It) (n : Nat) (a6 a7 a8 a9 a10 a11 a12 a13 a14 a15 : Option D), ρ = envW f g s3 K (some (.list (fr.map itD))) a6 a7 a8 a9 a10 a11 a12 a13 a14 a15 ∧ Inv (sys f g hf) K fr ∧ Bd f g K ∧ (∀ y ∈ fr, y.1.length = n) ∧ n ≤ tot K ∧ m = 2 * (7812 - tot K) + (if fr = [] then 0 else 1)
theorem wh_run (hg : g.Ok) (hb : g.base = f.base) (sf : Sm f) (sg : Sm g) (s3 : Option D) (m : Nat) (ρ : Rho) (L : Lev f g hf s3 m ρ) :
    (∃ ρ', whT (isB (Z.binT neD (varT 5) (lstT (nilT)))) TBod fuel ρ = .ok .nx ρ' ∧ ∀ v, ¬ (sys f g hf).Goal (sys f g hf).p0 (sys f g hf).l0 v) ∨
    ∃ d ρ', whT (isB (Z.binT neD (varT 5) (lstT (nilT)))) TBod fuel ρ = .ok (.rt d) ρ' ∧ ∃ w, d = sgD w ∧ Found f g hf w := by
  have hm : m < fuel := by
    obtain ⟨K, fr, n, _, _, _, _, _, _, _, _, _, _, _, I, B, _, _, hm⟩ := L.ex
    rw [fuel_eq]
    split at hm <;> omega
  refine whT_inv (fun m ρ => Lev f g hf s3 m ρ) (fun _ => ∀ v, ¬ (sys f g hf).Goal (sys f g hf).p0 (sys f g hf).l0 v) (fun d _ => ∃ w, d = sgD w ∧ Found f g hf w) ?_ fuel m ρ L hm
  rintro m ρ ⟨K, fr, n, a6, a7, a8, a9, a10, a11, a12, a13, a14, a15, rfl, I, B, hl, hn, hm⟩
  have ne := lists_ne (fr.map itD) (lay_sgs fr)
  have t1 : isB (Z.binT neD (varT 5) (lstT (nilT))) (envW f g s3 K (some (.list (fr.map itD))) a6 a7 a8 a9 a10 a11 a12 a13 a14 a15) = .ok (!(fr.map itD).isEmpty) (envW f g s3 K (some (.list (fr.map itD))) a6 a7 a8 a9 a10 a11 a12 a13 a14 a15) := by
    simp [envW, ne]
  refine ⟨_, _, t1, fun h => ?_, fun h => ?_⟩
  · have : fr = [] := by
      cases fr with
      | nil => rfl
      | cons x l => simp at h
    subst this
    exact I.none
  · have hne : fr ≠ [] := by
      rintro rfl
      simp at h
    have bl := B.len sf sg I.nd
    rw [if_neg hne] at hm
    have t2 : asgT 6 (lstT (nilT)) (envW f g s3 K (some (.list (fr.map itD))) a6 a7 a8 a9 a10 a11 a12 a13 a14 a15) = .ok .nx (envW f g s3 K (some (.list (fr.map itD))) (some (.list (([] : List It).map itD))) a7 a8 a9 a10 a11 a12 a13 a14 a15) := by
      simp [envW]
    have t3 : ∀ la a7 a8 a9 a10 a11 a12 a13 a14 a15, seqT (varT 5) (envW f g s3 K (some (.list (fr.map itD))) la a7 a8 a9 a10 a11 a12 a13 a14 a15) = .ok (fr.map itD) (envW f g s3 K (some (.list (fr.map itD))) la a7 a8 a9 a10 a11 a12 a13 a14 a15) := by
      intros; simp [envW]
    rcases outer (hf := hf) hg hb sf sg s3 (some (.list (fr.map itD))) (tot K) n (by omega) fr K [] a7 a8 a9 a10 a11 a12 a13 a14 a15 (by rw [List.append_nil]; exact I) B rfl hl (fun y hy => by cases hy) with ⟨K', la', b7, b8, b9, b10, b11, b12, b13, b14, b15, h1, h2, h3, h4, h5⟩ | ⟨w, ρ', h1, h2⟩
    · have t4 : asgT 5 (varT 6) (envW f g s3 K' (some (.list (fr.map itD))) (some (.list (la'.map itD))) b7 b8 b9 b10 b11 b12 b13 b14 b15) = .ok .nx (envW f g s3 K' (some (.list (la'.map itD))) (some (.list (la'.map itD))) b7 b8 b9 b10 b11 b12 b13 b14 b15) := by
        simp [envW]
      have bl' := h3.len sf sg h2.nd
      refine .inl ⟨envW f g s3 K' (some (.list (la'.map itD))) (some (.list (la'.map itD))) b7 b8 b9 b10 b11 b12 b13 b14 b15, 2 * (7812 - tot K') + (if la' = [] then 0 else 1), .inl ?_, ?_, ?_⟩
      · rw [TBod, sqT_eq, t2, sqK_nx, sqT_eq, forS_eq, t3, bind_ok, h1, sqK_nx, t4]
      · by_cases he : la' = []
        · rw [if_pos he]; omega
        · rw [if_neg he]
          have : 0 < la'.length := List.length_pos_iff.mpr he
          omega
      · by_cases he : la' = []
        · subst he
          exact ⟨K', [], 0, _, _, _, _, _, _, _, _, _, _, rfl, h2, h3, (fun y hy => by cases hy), Nat.zero_le _, rfl⟩
        · have : 0 < la'.length := List.length_pos_iff.mpr he
          exact ⟨K', la', n + 1, _, _, _, _, _, _, _, _, _, _, rfl, h2, h3, h5, by omega, rfl⟩
    · refine .inr (.inr ⟨sgD w, ρ', ?_, w, rfl, h2⟩)
      rw [TBod, sqT_eq, t2, sqK_nx, sqT_eq, forS_eq, t3, bind_ok, h1, sqK_rt]
theorem worse_in_eq (hf : f.Ok) (hg : g.Ok) (hb : g.base = f.base) (sf : Sm f) (sg : Sm g) :
    (S_worse_in [f.d, g.d, .bool true] = .ok .none [] ∧ ∀ v, ¬ (sys f g hf).Goal (sys f g hf).p0 (sys f g hf).l0 v) ∨ ∃ w, S_worse_in [f.d, g.d, .bool true] = .ok (sgD w) [] ∧ Found f g hf w := by
  have k1 := okKey_P (first f, some (first g))
  have e0 : S_first_stand [f.d] = _ := first_stand_eq f
  have e1 : S_first_stand [g.d] = _ := first_stand_eq g
  have B : Bd f g [((first f, some (first g)), [some ([], [])])] := ⟨fun q hq => by
    rw [List.mem_singleton.mp hq]
    exact ⟨wf_start f g, by simp⟩⟩
  have o1 : okLs [some ([], [])] := ⟨by simp, by simp, fun L hL => by rw [List.mem_singleton.mp hL]; exact .inl rfl⟩
  have o0 : okLs [] := ⟨by simp, by simp, fun L hL => by cases hL⟩
  have I : Inv (sys f g hf) [((first f, some (first g)), [some ([], [])])] [([], (first f, some (first g)), some ([], []))] := Inv.start (S := sys f g hf) o1 fun _ => o0
  have L : Lev f g hf (some (pairD (first f, some (first g)))) (2 * (7812 - 1) + 1) (envW f g (some (pairD (first f, some (first g)))) [((first f, some (first g)), [some ([], [])])] (some (.list ([(([] : List Int), ((first f, some (first g)) : Pr), (some ([], []) : Lead))].map itD))) none none none none none none none none none none) :=
    ⟨_, _, 0, _, _, _, _, _, _, _, _, _, _, rfl, I, B, fun y hy => by rw [List.mem_singleton.mp hy]; rfl, Nat.zero_le _, rfl⟩
  have r := wh_run hg hb sf sg _ _ _ L
  obtain ⟨W, hW⟩ : ∃ W, W = whT (isB (Z.binT neD (varT 5) (lstT (nilT)))) TBod fuel := ⟨_, rfl⟩
  rw [← hW] at r
  simp only [S_worse_in, runF_eq, rho0]
  rw [T_worse_eq, ← hW]
  have t1 : asgT 3 (tupT (consT (callT [none] S_first_stand (consT (varT 0) (nilT))) (consT (callT [none] S_first_stand (consT (varT 1) (nilT))) (nilT)))) [some f.d, some g.d, some (.bool true), none, none, none, none, none, none, none, none, none, none, none, none, none] = .ok .nx [some f.d, some g.d, some (.bool true), some (pairD (first f, some (first g))), none, none, none, none, none, none, none, none, none, none, none, none] := by
    simp [e0, e1, pairD, stD]
  have t2 : par2T 4 5 (consT (dct1T (varT 3) (lstT (consT (cT (.tuple (List.replicate 2 (.tuple [])))) (nilT)))) (consT (lstT (consT (tupT (consT (tupT (nilT)) (consT (varT 3) (consT (cT (.tuple (List.replicate 2 (.tuple [])))) (nilT))))) (nilT))) (nilT))) [some f.d, some g.d, some (.bool true), some (pairD (first f, some (first g))), none, none, none, none, none, none, none, none, none, none, none, none] = .ok .nx (envW f g (some (pairD (first f, some (first g)))) [((first f, some (first g)), [some ([], [])])] (some (.list ([(([] : List Int), ((first f, some (first g)) : Pr), (some ([], []) : Lead))].map itD))) none none none none none none none none none none) := by
    simp [k1, envW, knD, itD, lsD, leadD, sgD]
  have t0 : List.map some [f.d, g.d, PyData.bool true] ++ List.replicate (16 - [f.d, g.d, PyData.bool true].length) none = [some f.d, some g.d, some (.bool true), none, none, none, none, none, none, none, none, none, none, none, none, none] := rfl
  rw [t0, sqT_eq, t1, sqK_nx, sqT_eq, t2, sqK_nx, sqT_eq]
  rcases r with ⟨ρ', h1, h2⟩ | ⟨d, ρ', h1, w, rfl, h2⟩
  · refine .inl ⟨?_, h2⟩
    rw [h1, sqK_nx]; rfl
  · refine .inr ⟨w, ?_, h2⟩
    rw [h1, sqK_rt]; rfl
end K66

/-! file K66F7 -/
set_option Elab.async false
set_option linter.all false
set_option autoImplicit false
set_option maxRecDepth 100000
set_option maxHeartbeats 4000000
namespace K66
open PySem PySem.Spec L2 Z Bf
/-! ### words and runs -/
def stp (f : Fmt) : Std → List Int → Option Std
  | st, [] => some st
  | st, s :: r => match step f st s with
    | none => none
    | some st' => stp f st' r
def alw (f : Fmt) : Std → List Int → Prop
  | _, [] => True
  | st, s :: r => s ∈ wsig f st ∧ ∃ st', step f st s = some st' ∧ alw f st' r
theorem stp_app (f : Fmt) : ∀ (a b : List Int) (st : Std), stp f st (a ++ b) = (stp f st a).bind fun st' => stp f st' b
  | [], b, st => rfl
  | s :: a, b, st => by
    rw [List.cons_append, stp, stp]
    cases step f st s with
    | none => rfl
    | some st' => exact stp_app f a b st'
theorem alw_app {f : Fmt} : ∀ (a b : List Int) (st st' : Std), alw f st a → stp f st a = some st' → alw f st' b → alw f st (a ++ b)
  | [], b, st, st', _, h, k => by
    simp only [stp, Option.some.injEq] at h
    rw [h]; exact k
  | s :: a, b, st, st', h, e, k => by
    obtain ⟨h1, st1, h2, h3⟩ := h
    rw [stp, h2] at e
    exact ⟨h1, st1, h2, alw_app a b st1 st' h3 e k⟩
theorem alw_split {f : Fmt} : ∀ (a b : List Int) (st : Std), alw f st (a ++ b) → alw f st a ∧ ∃ st', stp f st a = some st' ∧ alw f st' b
  | [], b, st, h => ⟨trivial, st, rfl, h⟩
  | s :: a, b, st, h => by
    obtain ⟨h1, st1, h2, h3⟩ := h
    obtain ⟨h4, st', h5, h6⟩ := alw_split a b st1 h3
    exact ⟨⟨h1, st1, h2, h4⟩, st', by rw [stp, h2]; exact h5, h6⟩
theorem alw_stp {f : Fmt} : ∀ (a : List Int) (st : Std), alw f st a → ∃ st', stp f st a = some st'
  | [], st, h => ⟨st, rfl⟩
  | s :: a, st, h => by
    obtain ⟨h1, st1, h2, h3⟩ := h
    obtain ⟨st', e⟩ := alw_stp a st1 h3
    exact ⟨st', by rw [stp, h2]; exact e⟩
theorem Run.stp {f : Fmt} {st st' : Std} {c c' : Cont} {l : List Int} (r : Run f st c l st' c') : stp f st l = some st' := by
  induction r with
  | nil => rfl
  | cons h hn r ih => rw [K66.stp, h]; exact ih
def Good (st : Std) (c : Cont) : Prop := match st with
  | .len u => u.told = true → c ≠ []
  | .second u _ => u.told = true → c ≠ []
  | .body u _ _ => u.told = true → c ≠ []
  | _ => True
theorem toldAt_ne {f : Fmt} {st : Std} {s : Int} {c : Cont} (h : c ≠ []) : toldAt f st s c ≠ [] := by
  unfold toldAt
  split
  · split <;> simp [h]
  · split
    · obtain ⟨pre, x, rfl⟩ : ∃ pre x, c = pre ++ [x] := ⟨c.dropLast, c.getLast h, (List.dropLast_concat_getLast h).symm⟩
      simp
    · exact h
  · exact h
theorem good_body {u : Use} {n : Int} {c : Cont} (h : u.told = true → c ≠ []) : Good (bodyStd u n) c := by
  unfold bodyStd
  split
  · exact h
  · split <;> trivial
theorem good_step {f : Fmt} {st st' : Std} {s : Int} {c : Cont} (g : Good st c) (e : step f st s = some st') : Good st' (toldAt f st s c) := by
  cases st with
  | head p =>
    simp only [step] at e
    have hh : ∀ st2 : Std, (if p + 1 < f.head.length then Std.head (p + 1) else .tag) = st2 → Good st2 (toldAt f (.head p) s c) := fun st2 z => by
      subst z
      split <;> trivial
    split at e
    · cases e
    · exact hh _ (Option.some.inj e)
    · split at e
      · exact hh _ (Option.some.inj e)
      · cases e
  | tag =>
    simp only [step] at e
    split at e
    · cases e
    · cases e; trivial
    · cases e; trivial
    · rename_i u k1 k2 hu
      cases e
      intro ht
      have hut : useTold (use f s) = true := by rw [hu]; exact ht
      simp [toldAt, hut]
  | len u =>
    simp only [step] at e
    have g : u.told = true → c ≠ [] := g
    have tt : toldAt f (.len u) s c = c := rfl
    rw [tt]
    split at e
    · split at e
      · cases e; exact good_body g
      · cases e
    · split at e
      · cases e; exact g
      · cases e
    · split at e
      · cases e; exact g
      · cases e
  | second u a =>
    simp only [step] at e
    have g : u.told = true → c ≠ [] := g
    have tt : toldAt f (.second u a) s c = c := rfl
    rw [tt]
    have hw : ∀ n : Int, (if n ≤ f.most then some (bodyStd u n) else none) = some st' → Good st' c := fun n z => by
      split at z
      · cases z; exact good_body g
      · cases z
    exact hw _ e
  | body u l t =>
    simp only [step, Option.some.injEq] at e
    have g : u.told = true → c ≠ [] := g
    subst e
    split
    · exact fun ht => toldAt_ne (g ht)
    · split <;> trivial
  | sum t =>
    simp only [step] at e
    split at e
    · cases e; trivial
    · cases e
  | room => cases e; trivial
  | over => cases e
theorem stp_run {f : Fmt} : ∀ (l : List Int) (st st' : Std) (c : Cont), Good st c → stp f st l = some st' → ∃ c', Run f st c l st' c'
  | [], st, st', c, g, h => by
    simp only [stp, Option.some.injEq] at h
    rw [h]; exact ⟨c, .nil _ _⟩
  | s :: l, st, st', c, g, h => by
    rw [stp] at h
    split at h
    · cases h
    · rename_i st1 e
      obtain ⟨c', r⟩ := stp_run l st1 st' _ (good_step g e) h
      exact ⟨c', .cons e (fun u a t z ht => by subst z; exact g ht) r⟩
theorem good_first (f : Fmt) : Good (first f) [] := by
  unfold first
  split <;> trivial
/-! ### what is told, as one row -/
def enc (c : Cont) : List Int := c.flatMap fun p => (-1 - p.1) :: p.2
theorem enc_app (a b : Cont) : enc (a ++ b) = enc a ++ enc b := List.flatMap_append
theorem Run.enc {f : Fmt} {st st' : Std} {c c' : Cont} {l : List Int} (r : Run f st c l st' c') : K66.enc c' = K66.enc c ++ tells f st l := by
  induction r with
  | nil => simp [tells]
  | @cons st st1 st2 c c2 s l h hn r ih =>
    rw [ih, tells, h]
    simp only
    rw [← List.append_assoc]
    congr 1
    cases st with
    | tag =>
      simp only [toldAt, tellS]
      by_cases hu : useTold (use f s) = true
      · rw [if_pos hu, if_pos hu, enc_app]; simp [K66.enc]
      · rw [if_neg hu, if_neg hu]; simp
    | body u l2 t =>
      by_cases hu : u.told = true
      · have hc := hn u l2 t rfl hu
        obtain ⟨pre, ⟨t0, b0⟩, rfl⟩ : ∃ pre x, c = pre ++ [x] := ⟨c.dropLast, c.getLast hc, (List.dropLast_concat_getLast hc).symm⟩
        simp [toldAt, tellS, hu, K66.enc]
      · simp [toldAt, tellS, hu]
    | head p => simp [toldAt, tellS]
    | len u => simp [toldAt, tellS]
    | second u a => simp [toldAt, tellS]
    | sum t => simp [toldAt, tellS]
    | room => simp [toldAt, tellS]
    | over => simp [toldAt, tellS]
def Pos (c : Cont) : Prop := ∀ p ∈ c, 0 ≤ p.1 ∧ ∀ s ∈ p.2, 0 ≤ s
theorem Run.pos {f : Fmt} {st st' : Std} {c c' : Cont} {l : List Int} (r : Run f st c l st' c') : (∀ s ∈ l, 0 ≤ s) → Pos c → Pos c' := by
  induction r with
  | nil => exact fun _ h => h
  | @cons st st1 st2 c c2 s l h hn r ih =>
    intro hl hc
    refine ih (fun t ht => hl t (List.mem_cons_of_mem _ ht)) ?_
    have hs := hl s (List.mem_cons_self ..)
    cases st with
    | tag =>
      simp only [toldAt]
      split
      · intro p hp
        rcases List.mem_append.mp hp with hp | hp
        · exact hc p hp
        · rw [List.mem_singleton.mp hp]
          exact ⟨hs, fun _ h => by cases h⟩
      · exact hc
    | body u l2 t =>
      by_cases hu : u.told = true
      · have hne := hn u l2 t rfl hu
        obtain ⟨pre, ⟨t0, b0⟩, rfl⟩ : ∃ pre x, c = pre ++ [x] := ⟨c.dropLast, c.getLast hne, (List.dropLast_concat_getLast hne).symm⟩
        have e : toldAt f (.body u l2 t) s (pre ++ [(t0, b0)]) = pre ++ [(t0, b0 ++ [s])] := by simp [toldAt, hu]
        rw [e]
        intro p hp
        rcases List.mem_append.mp hp with hp | hp
        · exact hc p (List.mem_append_left _ hp)
        · rw [List.mem_singleton.mp hp]
          have := hc (t0, b0) (List.mem_append_right _ (List.mem_singleton.mpr rfl))
          exact ⟨this.1, fun q hq => (List.mem_append.mp hq).elim (this.2 q) fun z => by rw [List.mem_singleton.mp z]; exact hs⟩
      · have e : toldAt f (.body u l2 t) s c = c := by simp [toldAt, hu]
        rw [e]; exact hc
    | head p => exact hc
    | len u => exact hc
    | second u a => exact hc
    | sum t => exact hc
    | room => exact hc
    | over => exact hc
theorem body_inj : ∀ (b d : List Int) (c e : Cont), (∀ s ∈ b, 0 ≤ s) → (∀ s ∈ d, 0 ≤ s) → Pos c → Pos e → b ++ enc c = d ++ enc e → b = d ∧ enc c = enc e
  | [], [], c, e, _, _, _, _, h => ⟨rfl, h⟩
  | [], s :: d, c, e, _, hd, hc, _, h => by
    have hs := hd s (List.mem_cons_self ..)
    cases c with
    | nil => simp [enc] at h
    | cons p c =>
      have hp := (hc p (List.mem_cons_self ..)).1
      simp only [enc, List.nil_append, List.flatMap_cons, List.cons_append, List.cons.injEq] at h
      omega
  | s :: b, [], c, e, hb, _, _, he, h => by
    have hs := hb s (List.mem_cons_self ..)
    cases e with
    | nil => simp [enc] at h
    | cons p e =>
      have hp := (he p (List.mem_cons_self ..)).1
      simp only [enc, List.nil_append, List.flatMap_cons, List.cons_append, List.cons.injEq] at h
      omega
  | s :: b, t :: d, c, e, hb, hd, hc, he, h => by
    simp only [List.cons_append, List.cons.injEq] at h
    obtain ⟨h1, h2⟩ := body_inj b d c e (fun q hq => hb q (List.mem_cons_of_mem _ hq)) (fun q hq => hd q (List.mem_cons_of_mem _ hq)) hc he h.2
    exact ⟨by rw [h.1, h1], h2⟩
theorem enc_inj : ∀ (c e : Cont), Pos c → Pos e → enc c = enc e → c = e
  | [], [], _, _, _ => rfl
  | [], p :: e, _, _, h => by simp [enc] at h
  | p :: c, [], _, _, h => by simp [enc] at h
  | (a, b) :: c, (a', b') :: e, hc, he, h => by
    have h : (-1 - a) :: (b ++ enc c) = (-1 - a') :: (b' ++ enc e) := by simpa [enc] using h
    simp only [List.cons.injEq] at h
    have h1 := hc _ (List.mem_cons_self ..)
    have h2 := he _ (List.mem_cons_self ..)
    have hc' : Pos c := fun q hq => hc q (List.mem_cons_of_mem _ hq)
    have he' : Pos e := fun q hq => he q (List.mem_cons_of_mem _ hq)
    obtain ⟨k1, k2⟩ := body_inj b b' c e h1.2 h2.2 hc' he' h.2
    rw [enc_inj c e hc' he' k2, k1, show a = a' by omega]
/-! ### goals -/
variable {f g : Fmt} {hf : f.Ok}
theorem go_alw : ∀ (r : List Int) (q : Pr) (a : Lead) (q' : Pr) (m : Lead), (sys f g hf).go q a r = some (q', m) → alw f q.1 r ∧ stp f q.1 r = some q'.1 ∧ q'.2 = q.2.bind fun t => stp g t r
  | [], q, a, q', m, h => by
    simp only [Sys.go, Option.some.injEq, Prod.mk.injEq] at h
    rw [← h.1]
    refine ⟨trivial, rfl, ?_⟩
    cases q.2 <;> rfl
  | s :: r, q, a, q', m, h => by
    rw [Sys.go] at h
    split at h
    case isTrue hs =>
      split at h
      · cases h
      · rename_i q1 e
        obtain ⟨st1, e1, rfl⟩ := Option.map_eq_some_iff.mp (show (step f q.1 s).map _ = some q1 from e)
        obtain ⟨h1, h2, h3⟩ := go_alw r _ _ q' m h
        refine ⟨⟨hs, st1, e1, h1⟩, by rw [stp, e1]; exact h2, ?_⟩
        rw [h3]
        cases q.2 with
        | none => rfl
        | some t =>
          simp only [Option.bind_some]
          rw [stp]
          cases step g t s <;> rfl
    case isFalse => cases h
theorem alw_go : ∀ (r : List Int) (st : Std) (its : Option Std) (a : Lead), alw f st r → ∃ q' m, (sys f g hf).go (st, its) a r = some (q', m)
  | [], st, its, a, _ => ⟨_, _, rfl⟩
  | s :: r, st, its, a, h => by
    obtain ⟨h1, st1, h2, h3⟩ := h
    obtain ⟨q', m, k⟩ := alw_go r st1 (its.bind fun t => step g t s) ((sys f g hf).nl (st, its) a s) h3
    refine ⟨q', m, ?_⟩
    have e : (sys f g hf).np (st, its) s = some (st1, its.bind fun t => step g t s) := by
      show npP f g (st, its) s = _
      unfold npP
      rw [h2]; rfl
    rw [Sys.go, if_pos (show s ∈ (sys f g hf).sg (st, its) from h1), e]
    exact k
theorem alw_in (h : f.Ok) : ∀ (l : List Int) (st : Std), alw f st l → InB f.base l
  | [], st, _ => InB.nil
  | s :: l, st, h1 => by
    obtain ⟨h1, st1, h2, h3⟩ := h1
    intro q hq
    rcases List.mem_cons.mp hq with rfl | hq
    · exact wsig_in h st _ h1
    · exact alw_in h l st1 h3 q hq
/-- a goal: it ends for the one, and the other does not tell the same -/
theorem goal_iff (hf : f.Ok) (w : List Int) : (sys f g hf).Goal (sys f g hf).p0 (sys f g hf).l0 w ↔ alw f (first f) w ∧ ∃ st c, Run f (first f) [] w st c ∧ ending f st = true ∧ ¬ ∃ st2, Run g (first g) [] w st2 c ∧ ending g st2 = true := by
  have p0 : (sys f g hf).p0 = (first f, some (first g)) := rfl
  have l0 : (sys f g hf).l0 = some ([], []) := rfl
  rw [p0, l0]
  have key : ∀ q' m, (sys f g hf).go (first f, some (first g)) (some ([], [])) w = some (q', m) → ∀ st c, Run f (first f) [] w st c → ending f st = true → (worseB f g q'.1 q'.2 m = true ↔ ¬ ∃ st2, Run g (first g) [] w st2 c ∧ ending g st2 = true) := by
    intro q' m hg st c r he
    obtain ⟨h1, h2, h3⟩ := go_alw w _ _ q' m hg
    have e1 : q'.1 = st := Option.some.inj (h2.symm.trans r.stp)
    have h3 : q'.2 = stp g (first g) w := h3
    have hin := alw_in hf w _ h1
    have hp : ∀ s ∈ w, 0 ≤ s := fun s hs => (hin s hs).1
    have e0 : Pos ([] : Cont) := fun p hp => by cases hp
    rw [e1]
    cases e2 : q'.2 with
    | none =>
      rw [worse_none, he]
      simp only [true_iff]
      rintro ⟨st2, r2, _⟩
      rw [e2] at h3
      rw [r2.stp] at h3
      cases h3
    | some t =>
      rw [e2] at h3
      obtain ⟨c2, r2⟩ := stp_run w (first g) t [] (good_first g) h3.symm
      have hm := go_lead w (first f) (first g) (some ([], [])) q' m (.inl rfl) hg (by rw [e2]; simp)
      have n1 := r.enc
      have n2 := r2.enc
      have z : enc [] = [] := rfl
      rw [z, List.nil_append] at n1 n2
      have hm' : (m = some ([], [])) ↔ c = c2 := by
        rw [hm, ← n1, ← n2]
        show cancel ([] ++ enc c) ([] ++ enc c2) = _ ↔ _
        rw [List.nil_append, List.nil_append, cancel_even]
        exact ⟨fun e => enc_inj _ _ (r.pos hp e0) (r2.pos hp e0) e, fun e => by rw [e]⟩
      unfold worseB
      rw [he]
      simp only [Bool.true_and, Bool.or_eq_true, Bool.not_eq_true', decide_eq_false_iff_not]
      constructor
      · rintro h ⟨st2, r3, k⟩
        obtain ⟨a1, a2⟩ := Run.det r2 r3
        rcases h with h | h
        · rw [a1, k] at h; cases h
        · exact h (hm'.mpr a2.symm)
      · intro h
        by_cases k : ending g t = true
        · refine .inr fun z => h ⟨t, ?_, k⟩
          rw [hm'.mp z]; exact r2
        · exact .inl (by simpa using k)
  constructor
  · rintro ⟨q', m, hg, hb⟩
    obtain ⟨h1, h2, h3⟩ := go_alw w _ _ q' m hg
    obtain ⟨c, r⟩ := stp_run w (first f) q'.1 [] (good_first f) h2
    have hb : worseB f g q'.1 q'.2 m = true := hb
    have he : ending f q'.1 = true := by
      unfold worseB at hb
      rw [Bool.and_eq_true] at hb
      exact hb.1
    exact ⟨h1, q'.1, c, r, he, (key q' m hg _ c r he).mp hb⟩
  · rintro ⟨h1, st, c, r, he, hn⟩
    obtain ⟨q', m, hg⟩ := alw_go (g := g) (hf := hf) w (first f) (some (first g)) (some ([], [])) h1
    exact ⟨q', m, hg, (key q' m hg st c r he).mpr hn⟩
end K66

/-! file K66F8 -/
set_option Elab.async false
set_option linter.all false
set_option autoImplicit false
set_option maxRecDepth 100000
set_option maxHeartbeats 4000000
namespace K66
open PySem PySem.Spec L2 Z Bf
variable {f g : Fmt}
/-! ### the words tried are the files that `write` gives -/
theorem first_hd (f : Fmt) : first f = hdSt f 0 := by
  unfold first hdSt
  cases f.head <;> simp
theorem hd_sig {i : Nat} (hi : i < f.head.length) (s : Int) : s ∈ wsig f (.head i) ↔ s = (f.head[i]).getD 0 := by
  show s ∈ (match f.head[i]? with | some (some m) => [m] | _ => [0]) ↔ _
  rw [List.getElem?_eq_getElem hi]
  cases f.head[i] <;> simp
theorem alw_head : ∀ (k i : Nat), i + k = f.head.length → alw f (hdSt f i) ((f.head.drop i).map fun m => m.getD 0)
  | 0, i, h => by
    rw [List.drop_eq_nil_of_le (by omega)]; trivial
  | k + 1, i, h => by
    have hi : i < f.head.length := by omega
    rw [List.drop_eq_getElem_cons hi, List.map_cons]
    have e : hdSt f i = .head i := by unfold hdSt; rw [if_pos hi]
    rw [e]
    refine ⟨(hd_sig hi _).mpr rfl, _, hd_step hi (fun m hm => ?_), alw_head k (i + 1) (by omega)⟩
    rw [List.getElem?_eq_getElem hi] at hm
    rw [Option.some.inj hm]; rfl
theorem head_alw : ∀ (k i : Nat) (hd rest : List Int), i + k = f.head.length → hd.length = k → alw f (hdSt f i) (hd ++ rest) → hd = (f.head.drop i).map fun m => m.getD 0
  | 0, i, hd, rest, h, hl, _ => by
    rw [List.drop_eq_nil_of_le (by omega), List.length_eq_zero_iff.mp hl]; rfl
  | k + 1, i, [], rest, h, hl, _ => by cases hl
  | k + 1, i, s :: hd, rest, h, hl, ha => by
    have hi : i < f.head.length := by omega
    rw [List.drop_eq_getElem_cons hi, List.map_cons]
    have e : hdSt f i = .head i := by unfold hdSt; rw [if_pos hi]
    rw [e] at ha
    obtain ⟨h1, st', h2, h3⟩ := ha
    have h1 := (hd_sig hi s).mp h1
    rw [hd_step hi (fun m hm => by
      rw [List.getElem?_eq_getElem hi] at hm
      rw [h1, Option.some.inj hm]; rfl)] at h2
    cases h2
    rw [← h1, head_alw k (i + 1) hd rest (by omega) (by simpa using hl) h3]
theorem alw_body {u : Use} : ∀ (b : List Int) (l t : Int), (b.length : Int) ≤ l → InB f.base b → alw f (.body u l t) b
  | [], _, _, _, _ => trivial
  | s :: b, l, t, hl, hi => by
    have hb := alw_body (u := u) b (l - 1) (if u = .check then (t + s) % f.base else t) (by simp at hl; omega) fun q hq => hi q (List.mem_cons_of_mem _ hq)
    refine ⟨(irow_mem _ _).mpr (hi s (List.mem_cons_self ..)), _, rfl, ?_⟩
    cases b with
    | nil => trivial
    | cons q b =>
      have : 1 < l := by simp at hl; omega
      rw [if_pos this]
      exact hb
theorem stp_body {u : Use} : ∀ (b : List Int) (s t : Int), ∃ t', stp f (.body u (((s :: b).length : Nat) : Int) t) (s :: b) = some (afterBody f u t')
  | [], s, t => by
    by_cases hu : u = .check
    · exact ⟨(t + s) % f.base, by simp [stp, step, afterBody, hu]⟩
    · exact ⟨0, by simp [stp, step, afterBody, hu]⟩
  | q :: b, s, t => by
    obtain ⟨t', e⟩ := stp_body (u := u) b q (if u = .check then (t + s) % f.base else t)
    refine ⟨t', ?_⟩
    rw [stp]
    have h1 : (1 : Int) < (((s :: q :: b).length : Nat) : Int) := by simp; omega
    have h2 : (((s :: q :: b).length : Nat) : Int) - 1 = (((q :: b).length : Nat) : Int) := by simp
    simp only [step, if_pos h1, h2]
    exact e
theorem alw_lenS (h : f.Ok) (u : Use) (n : Int) (h0 : 0 ≤ n) (hm : n ≤ f.most) (hi : InB f.base (lenS f n)) : alw f (.len u) (lenS f n) := by
  have r := (len_run h u n h0 hm []).stp
  unfold lenS at r hi ⊢
  have b1 : ∀ {st : Std} {s : Int}, stp f st [s] = some (bodyStd u n) → ∃ st', step f st s = some st' := fun {st s} e => by
    rw [stp] at e
    split at e
    · cases e
    · rename_i st1 e1; exact ⟨st1, e1⟩
  have b2 : ∀ {a b : Int}, f.width ≠ .one → stp f (.len u) [a, b] = some (bodyStd u n) → InB f.base [a, b] → alw f (.len u) [a, b] := fun {a b} hw e hi => by
    rw [stp] at e
    split at e
    · cases e
    · rename_i st1 e1
      obtain ⟨st2, e2⟩ := b1 e
      have hs : st1 = .second u a := by
        simp only [step] at e1
        split at e1
        · rename_i z; exact absurd z hw
        · split at e1
          · exact (Option.some.inj e1).symm
          · cases e1
        · split at e1
          · exact (Option.some.inj e1).symm
          · cases e1
      subst hs
      exact ⟨(irow_mem _ _).mpr (hi a (by simp)), _, e1, (irow_mem _ _).mpr (hi b (by simp)), st2, e2, trivial⟩
  cases hw : f.width with
  | one =>
    rw [hw] at r hi
    obtain ⟨st', e⟩ := b1 r
    exact ⟨(irow_mem _ _).mpr (hi n (by simp)), st', e, trivial⟩
  | high =>
    rw [hw] at r hi
    exact b2 (by rw [hw]; simp) r hi
  | low =>
    rw [hw] at r hi
    exact b2 (by rw [hw]; simp) r hi
theorem mem_use {s : Int} {u : Use} (h : use f s = some u) (hn : u ≠ .skip) : (s, u) ∈ f.tags := by
  unfold use at h
  split at h
  · rename_i t e
    have h1 := List.mem_of_find?_eq_some e
    have h2 : t.1 = s := by simpa using List.find?_some e
    cases h
    rw [← h2]; exact h1
  · split at h
    · cases h; exact absurd rfl hn
    · cases h
theorem told_sig (h : f.Ok) (s : Int) : s ∈ wsig f .tag ↔ useTold (use f s) = true ∨ s ∈ endS f := by
  rw [tag_sig]
  refine or_congr_left ?_
  constructor
  · rintro ⟨u, m, k⟩
    rw [use_mem h m]; exact k
  · intro k
    cases hu : use f s with
    | none => rw [hu] at k; cases k
    | some u =>
      rw [hu] at k
      refine ⟨u, mem_use hu ?_, k⟩
      rintro rfl
      cases k
theorem alw_chunk (h : f.Ok) {p : Int × List Int} (ht : useTold (use f p.1) = true) (hm : (p.2.length : Int) ≤ longest f) (hb : InB f.base p.2) : alw f .tag (chunkS f p) := by
  obtain ⟨u, hu, hut, huc⟩ := told_use ht
  have hb2 := h.b2
  have hmo : (p.2.length : Int) ≤ f.most := by have := longest_most f; omega
  have hli := lenS_in h (p.2.length : Int) (by omega) hm
  have rr := (chunk_run h p u hu huc hmo []).stp
  have h1 : p.1 ∈ wsig f .tag := (told_sig h _).mpr (.inl ht)
  have h2 : step f .tag p.1 = some (.len u) := by
    simp only [step, hu]
    cases u <;> first | rfl | cases hut
  have h3 := alw_lenS h u p.2.length (by omega) hmo hli
  have h4 := (len_run h u p.2.length (by omega) hmo []).stp
  have h5 : alw f (bodyStd u p.2.length) p.2 ∧ ∃ t', stp f (bodyStd u p.2.length) p.2 = some (afterBody f u t') := by
    cases hp : p.2 with
    | nil =>
      refine ⟨trivial, 0, ?_⟩
      simp [stp, bodyStd, afterBody]
    | cons s b =>
      have e : bodyStd u (((s :: b).length : Nat) : Int) = .body u (((s :: b).length : Nat) : Int) 0 := by
        unfold bodyStd
        rw [if_pos (by simp)]
      rw [e]
      exact ⟨alw_body _ _ _ (Int.le_refl _) (by rw [← hp]; exact hb), stp_body b s 0⟩
  obtain ⟨h5, t', h6⟩ := h5
  have h7 : alw f .tag (p.1 :: (lenS f p.2.length ++ p.2)) := ⟨h1, _, h2, alw_app _ _ _ _ h3 h4 h5⟩
  have h8 : stp f .tag (p.1 :: (lenS f p.2.length ++ p.2)) = some (afterBody f u t') := by
    rw [stp, h2]
    show stp f (.len u) _ = _
    rw [stp_app, h4]; exact h6
  have e : chunkS f p = (p.1 :: (lenS f p.2.length ++ p.2)) ++ (if use f p.1 = some .check then [p.2.sum % f.base] else []) := by
    unfold chunkS
    simp
  rw [e] at rr ⊢
  refine alw_app _ _ _ _ h7 h8 ?_
  rw [stp_app, h8] at rr
  simp only [Option.bind_some] at rr
  by_cases hc : use f p.1 = some .check
  · rw [if_pos hc] at rr ⊢
    have huc : u = .check := by rw [hu] at hc; exact Option.some.inj hc
    subst huc
    have ha : afterBody f .check t' = .sum t' := rfl
    rw [ha] at rr ⊢
    rw [stp] at rr
    split at rr
    · cases rr
    · rename_i st1 e1
      exact ⟨(irow_mem _ _).mpr ⟨Int.emod_nonneg _ (by omega), Int.emod_lt_of_pos _ (by omega)⟩, st1, e1, trivial⟩
  · rw [if_neg hc]; trivial
theorem chunk_stp (h : f.Ok) {p : Int × List Int} (hp : ChunkOk f p) : stp f .tag (chunkS f p) = some .tag := by
  obtain ⟨u, hu, huc, hm⟩ := hp
  exact (chunk_run h p u hu huc hm []).stp
theorem alw_chunks (h : f.Ok) : ∀ (c : Cont), (∀ p ∈ c, useTold (use f p.1) = true ∧ (p.2.length : Int) ≤ longest f ∧ InB f.base p.2) → alw f .tag (c.flatMap (chunkS f)) ∧ stp f .tag (c.flatMap (chunkS f)) = some .tag
  | [], _ => ⟨trivial, rfl⟩
  | p :: c, hc => by
    obtain ⟨h1, h2, h3⟩ := hc p (List.mem_cons_self ..)
    obtain ⟨u, hu, hut, huc⟩ := told_use h1
    obtain ⟨i1, i2⟩ := alw_chunks h c fun q hq => hc q (List.mem_cons_of_mem _ hq)
    have hs := chunk_stp h (p := p) ⟨u, hu, huc, by have := longest_most f; omega⟩
    rw [List.flatMap_cons]
    exact ⟨alw_app _ _ _ _ (alw_chunk h h1 h2 h3) hs i1, by rw [stp_app, hs]; exact i2⟩
theorem endS_use (h : f.Ok) {t : Int} (ht : t ∈ endS f) : endS f = [t] ∧ (use f t = some .end_ ∨ use f t = some .stop) := by
  constructor
  · unfold endS at ht ⊢
    split at ht
    · rw [List.mem_singleton.mp ht]
    · cases ht
  · obtain ⟨u, m, k⟩ := endS_mem ht
    rw [use_mem h m]
    rcases k with rfl | rfl <;> simp
theorem alw_end (h : f.Ok) : alw f .tag (endS f) := by
  cases e : endS f with
  | nil => trivial
  | cons t r =>
    have ht : t ∈ endS f := by rw [e]; exact List.mem_cons_self ..
    obtain ⟨e1, e2⟩ := endS_use h ht
    rw [e] at e1
    cases e1
    refine ⟨(told_sig h t).mpr (.inr ht), ?_⟩
    rcases e2 with e2 | e2
    · exact ⟨.room, by simp [step, e2], trivial⟩
    · exact ⟨.over, by simp [step, e2], trivial⟩
theorem alw_writ (h : f.Ok) {c : Cont} (hc : ConOk f c) : alw f (first f) (writ f c) := by
  have h1 := alw_head (f := f) f.head.length 0 (by omega)
  rw [List.drop_zero, ← first_hd] at h1
  have h2 : stp f (first f) (f.head.map fun m => m.getD 0) = some .tag := (first_run (writF_ok h hc)).stp
  obtain ⟨h3, h4⟩ := alw_chunks h c fun p hp => ⟨(hc.t p hp).2.1, (hc.t p hp).2.2.1, (hc.t p hp).2.2.2.2⟩
  exact alw_app _ _ _ _ h1 h2 (alw_app _ _ _ _ h3 h4 (alw_end h))
theorem chunks_alw (h : f.Ok) : ∀ (ps : List (Int × List Int)) (e : List Int), (∀ p ∈ ps, ChunkOk f p) → alw f .tag (ps.flatMap (chunkS f) ++ e) → (∀ p ∈ ps, useTold (use f p.1) = true) ∧ alw f .tag e
  | [], e, _, ha => ⟨(fun p hp => by cases hp), ha⟩
  | p :: ps, e, hc, ha => by
    rw [List.flatMap_cons, List.append_assoc] at ha
    obtain ⟨h1, st', h2, h3⟩ := alw_split _ _ _ ha
    have hp := hc p (List.mem_cons_self ..)
    rw [chunk_stp h hp] at h2
    cases h2
    obtain ⟨i1, i2⟩ := chunks_alw h ps e (fun q hq => hc q (List.mem_cons_of_mem _ hq)) h3
    refine ⟨fun q hq => ?_, i2⟩
    rcases List.mem_cons.mp hq with rfl | hq
    · unfold chunkS at h1
      rcases (told_sig h _).mp h1.1 with k | k
      · exact k
      · obtain ⟨u, hu, huc, _⟩ := hp
        rcases (endS_use h k).2 with z | z <;> (rw [z] at hu; cases hu; cases huc)
    · exact i1 q hq
theorem end_alw (h : f.Ok) {e : List Int} (he : EndOk f e) (ha : alw f .tag e) : e = endS f := by
  rcases he with ⟨h1, rfl⟩ | ⟨t, r, rfl, h1⟩ | ⟨t, rfl, h1⟩
  · rw [hasEnd_filter] at h1
    unfold endS
    have : f.tags.filter isEnd = [] := by
      cases hz : f.tags.filter isEnd with
      | nil => rfl
      | cons a b => rw [hz] at h1; cases h1
    rw [this]
  · obtain ⟨h2, st', h3, h4⟩ := ha
    have hr : r = [] := by
      simp only [step, h1, Option.some.injEq] at h3
      subst h3
      cases r with
      | nil => rfl
      | cons s r => cases h4.1
    subst hr
    rcases (told_sig h t).mp h2 with k | k
    · rw [h1] at k; cases k
    · exact (endS_use h k).1.symm
  · obtain ⟨h2, st', h3, h4⟩ := ha
    rcases (told_sig h t).mp h2 with k | k
    · rw [h1] at k; cases k
    · exact (endS_use h k).1.symm
theorem con_of (h : f.Ok) {F : File} (hF : FileOk f F) (hi : InB f.base (F.signs f)) (hl : (F.signs f).length ≤ 10000) (h5 : f.most ≤ 1000) : ConOk f (content f F.ps) := by
  have hfl : (F.ps.flatMap (chunkS f)).length ≤ 10000 := by
    simp only [File.signs, List.length_append] at hl
    omega
  have hn : (content f F.ps).length ≤ 10000 := by
    have h1 : (content f F.ps).length ≤ F.ps.length := List.length_filter_le ..
    have h2 := flat_ge f F.ps
    omega
  refine ⟨hn, fun p hp => ?_⟩
  obtain ⟨hp1, hp2⟩ := List.mem_filter.mp hp
  have hs : ∀ s ∈ chunkS f p, 0 ≤ s ∧ s < f.base := fun s hs => by
    refine hi s ?_
    simp only [File.signs, List.mem_append, List.mem_flatMap]
    exact .inr (.inl ⟨p, hp1, hs⟩)
  obtain ⟨u, _, _, hm⟩ := hF.ps p hp1
  refine ⟨hs p.1 (by simp [chunkS]), hp2, ?_, by omega, fun s hs' => hs s (by simp [chunkS, hs'])⟩
  exact lenS_le h _ (by omega) hm fun s hs' => hs s (by simp [chunkS, hs'])
theorem writ_of (h : f.Ok) {w : List Int} {st : Std} {c : Cont} (ha : alw f (first f) w) (r : Run f (first f) [] w st c) (he : ending f st = true) (hl : w.length ≤ 10000) (h5 : f.most ≤ 1000) : w = writ f c ∧ ConOk f c := by
  have hi := alw_in h w _ ha
  obtain ⟨F, hF, rfl, rfl⟩ := run_file h hi r he
  refine ⟨?_, con_of h hF hi hl h5⟩
  unfold File.signs at ha
  have e1 : F.hd = f.head.map fun m => m.getD 0 := by
    have := head_alw (f := f) f.head.length 0 F.hd _ (by omega) hF.hl (by rw [← first_hd]; exact ha)
    rw [List.drop_zero] at this
    exact this
  obtain ⟨_, st', h2, h3⟩ := alw_split _ _ _ ha
  rw [(first_run hF).stp] at h2
  cases h2
  obtain ⟨k1, k2⟩ := chunks_alw h F.ps F.e hF.ps h3
  have e2 : content f F.ps = F.ps := List.filter_eq_self.mpr k1
  have e3 := end_alw h hF.e k2
  unfold File.signs writ
  rw [e2, ← e1, ← e3]
end K66

/-! file K66D1 -/
set_option Elab.async false
set_option linter.all false
set_option autoImplicit false
set_option maxRecDepth 100000
set_option maxHeartbeats 4000000
namespace K66
open PySem PySem.Spec L2 Z
/-! ### drawn formats, near to others -/
theorem head_draw2 {n : Nat} {d : D} (hB : Bag n d) (base : Int) (h0 : 2 ≤ base) (h1 : base ≤ 256) (mm : Int) (hm0 : 0 ≤ mm) (hm1 : mm ≤ 100) (hn : n + 200 ≤ 1000000000000) (a b c : D) :
    ∃ hs d' k, lcLoop [10] (setG 10) yesT (ifT (isB (Z.binT eqD (callT [some 0, none] S__law_grab (ownT 0 (consT (cT (.int 3)) (nilT)))) (cT (.int 0)))) (cT .none) (callT [some 0, none] S__law_grab (ownT 0 (consT (varT 1) (nilT))))) ((List.range mm.toNat).map fun i : Nat => PyData.int (i : Int)) []
      [some d, some (.int base), some a, some b, some c, some (.int mm), none, none, none, none, none] = .ok (hs.map mkD) [some d', some (.int base), some a, some b, some c, some (.int mm), none, none, none, none, k] ∧ Bag (n + 200) d' ∧ HdOk base hs ∧ hs.length = mm.toNat := by
  obtain ⟨l, ρ', e, bag, k, hs, rfl, rfl, ⟨m, hb, hm⟩, ho, hl⟩ := lcLoop_inv (vs := [10]) (g := setG 10) (tt := yesT) (te := ifT (isB (Z.binT eqD (callT [some 0, none] S__law_grab (ownT 0 (consT (cT (.int 3)) (nilT)))) (cT (.int 0)))) (cT .none) (callT [some 0, none] S__law_grab (ownT 0 (consT (varT 1) (nilT)))))
    (fun i : Nat => PyData.int (i : Int))
    (fun rest acc ρ => ∃ bag k hs, ρ = [some bag, some (.int base), some a, some b, some c, some (.int mm), none, none, none, none, k] ∧ acc = hs.map mkD ∧ (∃ m, Bag m bag ∧ m + 2 * rest.length ≤ n + 200) ∧ HdOk base hs ∧ hs.length + rest.length = mm.toNat)
    (by
      rintro s rest acc ρ ⟨bag, k, hs, rfl, rfl, ⟨m, hb, hm⟩, ho, hl⟩
      rw [List.length_cons] at hm hl
      obtain ⟨v, bag1, e1, hv0, hv1, hb1⟩ := grab_eq hb (by omega) 3 (by decide) (by decide)
      obtain ⟨v2, bag2, e2, hw0, hw1, hb2⟩ := grab_eq hb1 (by omega) base (by omega) (by omega)
      refine ⟨[some bag, some (.int base), some a, some b, some c, some (.int mm), none, none, none, none, some (.int (s : Int))], by simp [wipeR], true, [some bag, some (.int base), some a, some b, some c, some (.int mm), none, none, none, none, some (.int (s : Int))], by simp [yesT], fun _ => ?_, fun h => by cases h⟩
      by_cases hz : v = 0
      · refine ⟨.none, [some bag1, some (.int base), some a, some b, some c, some (.int mm), none, none, none, none, some (.int (s : Int))], by simp [e1, hz], by simp only [List.length_map]; rw [sizeLine_eq]; omega, bag1, _, hs ++ [none], rfl, by simp [mkD], ⟨m + 1, hb1, by omega⟩, fun i hi => ?_, by simp; omega⟩
        rcases List.mem_append.mp hi with hi | hi
        · exact ho i hi
        · simp at hi
      · refine ⟨.int v2, [some bag2, some (.int base), some a, some b, some c, some (.int mm), none, none, none, none, some (.int (s : Int))], by simp [e1, hz, e2], by simp only [List.length_map]; rw [sizeLine_eq]; omega, bag2, _, hs ++ [some v2], rfl, by simp [mkD], ⟨m + 2, hb2, by omega⟩, fun i hi => ?_, by simp; omega⟩
        rcases List.mem_append.mp hi with hi | hi
        · exact ho i hi
        · simp at hi; subst hi; exact ⟨hw0, hw1⟩)
    (List.range mm.toNat) [] [some d, some (.int base), some a, some b, some c, some (.int mm), none, none, none, none, none]
    ⟨d, none, [], rfl, rfl, ⟨n, hB, by simp; omega⟩, fun i hi => by simp at hi, by simp⟩
  exact ⟨hs, bag, k, e, hb.mono (by simp at hm; omega), ho, by simpa using hl⟩
theorem drawn_form2 {n : Nat} {d : D} (hB : Bag n d) (hn : n + 3000 ≤ 1000000000000) (base marks most many : Int) (h0 : 2 ≤ base) (h1 : base ≤ 256) (hk0 : 0 ≤ marks) (hk1 : marks ≤ 50) (hm0 : 0 ≤ most) (hm1 : most ≤ 100000) (hy0 : 0 ≤ many) (hy1 : many ≤ 1000) :
    ∃ f d', S__law_drawn_form [d, .int base, .int marks, .int most, .int many] = .ok (Fmt.d f) [d'] ∧ f.Ok ∧ f.base = base ∧ f.most ≤ most ∧ f.head.length ≤ marks.toNat ∧ Bag (n + 3000) d' := by
  simp only [S__law_drawn_form, T__law_drawn_form, runF_eq, rho0]
  obtain ⟨mm, d1, e1, a0, a1, b1⟩ := grab_eq hB (by omega) (marks + 1) (by omega) (by omega)
  obtain ⟨hs, d2, k, e2, b2, ho, hl⟩ := head_draw2 b1 base h0 h1 mm (by omega) (by omega) (by omega) (.int marks) (.int most) (.int many)
  obtain ⟨v3, d3, e3, c0, c1, b3⟩ := grab_eq b2 (by omega) 4 (by decide) (by decide)
  obtain ⟨w, ew⟩ := wide_at v3 c0 c1
  obtain ⟨top, d4, e4, t0, t1, b4⟩ := grab_eq b3 (by omega) (most + 1) (by omega) (by omega)
  obtain ⟨mt, d5, e5, u0, u1, b5⟩ := grab_eq b4 (by omega) (many + 1) (by omega) (by omega)
  obtain ⟨ts, d6, e6, ht, b6⟩ := drawn_tags_eq b5 (by omega) base mt h0 h1
  obtain ⟨v7, d7, e7, x0, x1, b7⟩ := grab_eq b6 (by omega) 2 (by decide) (by decide)
  obtain ⟨r, er⟩ := rest_at v7 x0 x1
  have rg := rng_nat mm (by omega) (by omega)
  have lc := lcT_run (vs := [10]) (Ti := rngT rng1D (consT (varT 5) (nilT))) (ρ := [some d1, some (.int base), some (.int marks), some (.int most), some (.int many), some (.int mm), none, none, none, none, none]) (by simp [rg]) e2
  refine ⟨⟨base, hs, w, top, ts, r⟩, d7, ?_, ⟨h0, h1, ho, by simp; omega, t0, ht.1, ht.2.1, ht.2.2⟩, rfl, by simp; omega, by simp; omega, b7.mono (by omega)⟩
  simp [e1, lc, putBack, e3, ew, e4, e5, e6, e7, er, Fmt.d]
theorem cutT_to (l : List D) (k : Nat) : slcD (.tuple l) none (some (k : Int)) = some (.tuple (l.take k)) := by
  show some (PyData.tuple (cutD l none (some (k : Int)))) = _
  unfold cutD
  rw [HT.sIx_nat]
  simp only [HT.sIx_none, List.drop_zero, Nat.sub_zero]
  congr 2
  by_cases h : k ≤ l.length
  · rw [Nat.min_eq_left h]
  · rw [Nat.min_eq_right (by omega), List.take_of_length_le (Nat.le_refl _), List.take_of_length_le (by omega)]
theorem cutT_from (l : List D) (k : Nat) : slcD (.tuple l) (some (k : Int)) none = some (.tuple (l.drop k)) := by
  show some (PyData.tuple (cutD l (some (k : Int)) none)) = _
  unfold cutD
  rw [HT.sIx_nat]
  simp only [HT.sIx_none]
  congr 2
  by_cases h : k ≤ l.length
  · rw [Nat.min_eq_left h, List.take_of_length_le (by simp)]
  · rw [Nat.min_eq_right (by omega), List.drop_eq_nil_of_le (by omega), List.drop_eq_nil_of_le (by omega)]; simp
theorem addT (a b : List D) (h : a.length + b.length ≤ 1000000) : addD (.tuple a) (.tuple b) = some (.tuple (a ++ b)) := by
  simp [addD]; omega
structure NF (b : Int) (f : Fmt) : Prop where
  ok : f.Ok
  b : f.base = b
  m5 : f.most ≤ 5
  h4 : f.head.length ≤ 4
def TLast : Rho → Out Rho Flw := (ifT (isB (Z.binT neD (varT 6) (tupT (nilT)))) (sqT (par2T 10 12 (consT (callT [some 0, none] S__law_grab (ownT 0 (consT (callB lenD (consT (varT 6) (nilT))) (nilT)))) (consT (lstT (consT (cT (.str ("keep" : Str))) (consT (cT (.str ("check" : Str))) (consT (cT (.str ("skip" : Str))) (consT (cT (.str ("end" : Str))) (consT (cT (.str ("stop" : Str))) (nilT))))))) (nilT)))) (sqT (asgT 13 (tupT (consT (tupT (consT (Z.binT idxD (Z.binT idxD (varT 6) (varT 10)) (cT (.int 0))) (consT (Z.binT idxD (varT 12) (callT [some 0, none] S__law_grab (ownT 0 (consT (cT (.int 5)) (nilT))))) (nilT)))) (nilT)))) (asgT 6 (Z.binT addD (Z.binT addD (slcT (varT 6) (noP) (someP (varT 10))) (ifT (isB (Z.binT ltD (varT 9) (cT (.int 7)))) (varT 13) (tupT (nilT)))) (slcT (varT 6) (someP (Z.binT addD (varT 10) (cT (.int 1)))) (noP)))))) (nxT))
def TNear : Rho → Out Rho Flw := (sqT (asgT 9 (callT [some 0, none] S__law_grab (ownT 0 (consT (cT (.int 8)) (nilT))))) (ifT (andT (isB (Z.binT eqD (varT 9) (cT (.int 0)))) (isB (Z.binT neD (varT 3) (tupT (nilT))))) (sqT (par2T 10 11 (consT (callT [some 0, none] S__law_grab (ownT 0 (consT (callB lenD (consT (varT 3) (nilT))) (nilT)))) (consT (Z.binT idxD (lstT (consT (cT .none) (consT (callT [some 0, none] S__law_grab (ownT 0 (consT (varT 2) (nilT)))) (nilT)))) (callT [some 0, none] S__law_grab (ownT 0 (consT (cT (.int 2)) (nilT))))) (nilT)))) (asgT 3 (Z.binT addD (Z.binT addD (slcT (varT 3) (noP) (someP (varT 10))) (tupT (consT (varT 11) (nilT)))) (slcT (varT 3) (someP (Z.binT addD (varT 10) (cT (.int 1)))) (noP))))) (ifT (isB (Z.binT eqD (varT 9) (cT (.int 1)))) (asgT 4 (Z.binT idxD (lstT (consT (cT (.str ("one" : Str))) (consT (cT (.str ("high" : Str))) (consT (cT (.str ("low" : Str))) (nilT))))) (callT [some 0, none] S__law_grab (ownT 0 (consT (cT (.int 3)) (nilT)))))) (ifT (isB (Z.binT eqD (varT 9) (cT (.int 2)))) (asgT 5 (callB maxD (consT (cT (.int 0)) (consT (callB minD (consT (cT (.int 5)) (consT (Z.binT subD (Z.binT addD (varT 5) (callT [some 0, none] S__law_grab (ownT 0 (consT (cT (.int 3)) (nilT))))) (cT (.int 1))) (nilT)))) (nilT))))) (ifT (isB (Z.binT eqD (varT 9) (cT (.int 3)))) (asgT 7 (Z.binT idxD (lstT (consT (cT (.str ("skip" : Str))) (consT (cT (.str ("refuse" : Str))) (nilT)))) (callT [some 0, none] S__law_grab (ownT 0 (consT (cT (.int 2)) (nilT)))))) (ifT (isB (Z.binT eqD (varT 9) (cT (.int 4)))) (asgT 6 (callT [some 0, none, none] S__law_drawn_tags (ownT 0 (consT (varT 2) (consT (callT [some 0, none] S__law_grab (ownT 0 (consT (Z.binT addD (callB lenD (consT (varT 6) (nilT))) (cT (.int 2))) (nilT)))) (nilT)))))) TLast))))))
def nst (bag F : D) (f : Fmt) (t w a10 a11 a12 a13 : Option D) : Rho := [some bag, some F, some (.int f.base), some (.tuple (f.head.map mkD)), some (.str f.width.s), some (.int f.most), some (.tuple (f.tags.map tgD)), some (.str (if f.rest then "skip" else "refuse")), t, w, a10, a11, a12, a13]
theorem wd3 (v : Int) (h0 : 0 ≤ v) (h1 : v < 3) : ∃ w : Wd, atI [PyData.str "one", .str "high", .str "low"] v = some (.str w.s) := by
  have : v = 0 ∨ v = 1 ∨ v = 2 := by omega
  rcases this with rfl | rfl | rfl
  · exact ⟨.one, rfl⟩
  · exact ⟨.high, rfl⟩
  · exact ⟨.low, rfl⟩
theorem use5 (v : Int) (h0 : 0 ≤ v) (h1 : v < 5) : ∃ u : Use, atI [PyData.str "keep", .str "check", .str "skip", .str "end", .str "stop"] v = some (.str u.s) := by
  have : v = 0 ∨ v = 1 ∨ v = 2 ∨ v = 3 ∨ v = 4 := by omega
  rcases this with rfl | rfl | rfl | rfl | rfl
  · exact ⟨.keep, rfl⟩
  · exact ⟨.check, rfl⟩
  · exact ⟨.skip, rfl⟩
  · exact ⟨.end_, rfl⟩
  · exact ⟨.stop, rfl⟩
theorem mark2 (v x : Int) (h0 : 0 ≤ v) (h1 : v < 2) : ∃ m : Option Int, atI [PyData.none, .int x] v = some (mkD m) ∧ (m = none ∨ m = some x) := by
  have : v = 0 ∨ v = 1 := by omega
  rcases this with rfl | rfl
  · exact ⟨none, rfl, .inl rfl⟩
  · exact ⟨some x, rfl, .inr rfl⟩
theorem pw_cut {α : Type} {R : α → α → Prop} {l : List α} (h : l.Pairwise R) (k : Nat) (mid : List α) (hm : ∀ x ∈ mid, ∃ y, l[k]? = some y ∧ (∀ z, R z y → R z x) ∧ ∀ z, R y z → R x z) (hmp : mid.Pairwise R) : (l.take k ++ mid ++ l.drop (k + 1)).Pairwise R := by
  by_cases hk : k < l.length
  · have e : l = l.take k ++ (l[k] :: l.drop (k + 1)) := by rw [← List.drop_eq_getElem_cons hk, List.take_append_drop]
    rw [e] at h
    obtain ⟨h1, h2, h3⟩ := List.pairwise_append.mp h
    obtain ⟨h4, h5⟩ := List.pairwise_cons.mp h2
    have hy : l[k]? = some l[k] := List.getElem?_eq_getElem hk
    rw [List.append_assoc]
    refine List.pairwise_append.mpr ⟨h1, List.pairwise_append.mpr ⟨hmp, h5, fun x hx z hz => ?_⟩, fun z hz x hx => ?_⟩
    · obtain ⟨y, e1, _, e3⟩ := hm x hx
      rw [hy] at e1
      cases e1
      exact e3 z (h4 z hz)
    · rcases List.mem_append.mp hx with hx | hx
      · obtain ⟨y, e1, e2, _⟩ := hm x hx
        rw [hy] at e1
        cases e1
        exact e2 z (h3 z hz _ (List.mem_cons_self ..))
      · exact h3 z hz x (List.mem_cons_of_mem _ hx)
  · have e1 : l.drop (k + 1) = [] := List.drop_eq_nil_of_le (by omega)
    have e2 : mid = [] := by
      cases mid with
      | nil => rfl
      | cons x m =>
        obtain ⟨y, e, _⟩ := hm x (List.mem_cons_self ..)
        rw [List.getElem?_eq_none (by omega)] at e
        cases e
    rw [e1, e2]
    simp only [List.append_nil]
    exact h.take
theorem last_turn {n : Nat} {d : D} (hB : Bag n d) (hn : n + 2000 ≤ 1000000000000) {b : Int} {f : Fmt} (hf : NF b f) (F : D) (t : Option D) (way : Int) (a10 a11 a12 a13 : Option D) :
    ∃ d' f' b10 b11 b12 b13, TLast (nst d F f t (some (.int way)) a10 a11 a12 a13) = .ok .nx (nst d' F f' t (some (.int way)) b10 b11 b12 b13) ∧ NF b f' ∧ Bag (n + 1000) d' := by
  obtain ⟨ok, hb, m5, h4⟩ := hf
  have nt := neD_nil (f.tags.map tgD) (lay_tg f.tags)
  rw [List.isEmpty_map] at nt
  have tl := ok.tl
  by_cases hne : f.tags = []
  · refine ⟨d, f, a10, a11, a12, a13, ?_, ⟨ok, hb, m5, h4⟩, hB.mono (by omega)⟩
    have hemp : f.tags.isEmpty = true := by rw [hne]; rfl
    obtain ⟨H, hH⟩ : ∃ H, H = PyData.tuple (f.tags.map tgD) := ⟨_, rfl⟩
    rw [← hH] at nt
    simp only [nst, ← hH]
    simp [TLast, nt, hemp]
  · have hpos : 0 < f.tags.length := List.length_pos_iff.mpr hne
    have hemp : f.tags.isEmpty = false := by cases h : f.tags <;> simp_all
    obtain ⟨k, d2, e2, k0, k1, b2⟩ := grab_eq hB (by omega) (f.tags.length : Int) (by omega) (by omega)
    obtain ⟨v, d3, e3, v0, v1, b3⟩ := grab_eq b2 (by omega) 5 (by decide) (by decide)
    obtain ⟨u, eu⟩ := use5 v v0 v1
    obtain ⟨kn, rfl⟩ : ∃ kn : Nat, k = (kn : Int) := ⟨k.toNat, by omega⟩
    have hkn : kn < f.tags.length := by omega
    have ix : idxD (.tuple (f.tags.map tgD)) (.int kn) = some (tgD f.tags[kn]) := by
      show atI (f.tags.map tgD) (kn : Int) = _
      rw [Z.atI_nat, List.getElem?_map, List.getElem?_eq_getElem hkn]; rfl
    have ix0 : idxD (tgD f.tags[kn]) (.int 0) = some (.int f.tags[kn].1) := rfl
    have hl3 : lenD [PyData.tuple (f.tags.map tgD)] = some (.int f.tags.length) := by simp
    have s1 := cutT_to (f.tags.map tgD) kn
    have s2 := cutT_from (f.tags.map tgD) (kn + 1)
    have s2 : slcD (.tuple (f.tags.map tgD)) (some ((kn : Int) + 1)) none = _ := s2
    obtain ⟨mid, hmid⟩ : ∃ mid : List (Int × Use), mid = if way < 7 then [(f.tags[kn].1, u)] else [] := ⟨_, rfl⟩
    have hml : mid.length ≤ 1 := by rw [hmid]; split <;> simp
    have a1 := addT ((f.tags.map tgD).take kn) (mid.map tgD) (by simp; omega)
    have a2 := addT ((f.tags.map tgD).take kn ++ mid.map tgD) ((f.tags.map tgD).drop (kn + 1)) (by simp; omega)
    have e5 : (f.tags.map tgD).take kn ++ mid.map tgD ++ (f.tags.map tgD).drop (kn + 1) = (f.tags.take kn ++ mid ++ f.tags.drop (kn + 1)).map tgD := by simp [List.map_take, List.map_drop]
    rw [e5] at a2
    have hlen : (f.tags.take kn ++ mid ++ f.tags.drop (kn + 1)).length ≤ f.tags.length := by simp; omega
    have hmm : ∀ x ∈ mid, x = (f.tags[kn].1, u) := by
      rw [hmid]
      intro x hx
      split at hx
      · exact List.mem_singleton.mp hx
      · cases hx
    refine ⟨d3, { f with tags := f.tags.take kn ++ mid ++ f.tags.drop (kn + 1) }, some (.int kn), a11, some (.list [.str "keep", .str "check", .str "skip", .str "end", .str "stop"]), some (.tuple [tgD (f.tags[kn].1, u)]), ?_, ⟨⟨ok.b2, ok.b256, ok.hd, ok.hl, ok.m0, fun t ht => ?_, pw_cut ok.so kn mid (fun x hx => ?_) ?_, by simp only; omega⟩, hb, m5, h4⟩, b3.mono (by omega)⟩
    · have hm1 : (if way < 7 then PyData.tuple [tgD (f.tags[kn].1, u)] else .tuple []) = .tuple (mid.map tgD) := by
        rw [hmid]; split <;> rfl
      have tg2 : tgD (f.tags[kn].1, u) = .tuple [.int f.tags[kn].1, .str u.s] := rfl
      obtain ⟨T0, hT0⟩ : ∃ T0, T0 = tgD f.tags[kn] := ⟨_, rfl⟩
      rw [← hT0] at ix ix0
      obtain ⟨H, hH⟩ : ∃ H, H = PyData.tuple (f.tags.map tgD) := ⟨_, rfl⟩
      rw [← hH] at nt hl3 s1 s2 ix
      obtain ⟨H', hH'⟩ : ∃ H', H' = PyData.tuple ((f.tags.take kn ++ mid ++ f.tags.drop (kn + 1)).map tgD) := ⟨_, rfl⟩
      rw [← hH'] at a2
      simp only [nst, ← hH, ← hH']
      by_cases c : way < 7
      · rw [if_pos c] at hm1
        rw [tg2] at hm1 ⊢
        simp [TLast, nt, hemp, hl3, e2, e3, eu, ix, ix0, s1, s2, c, hm1, a1, a2]
      · rw [if_neg c] at hm1
        rw [tg2]
        rw [← hm1] at a1
        simp [TLast, nt, hemp, hl3, e2, e3, eu, ix, ix0, s1, s2, c, a1, a2]
    · rcases List.mem_append.mp ht with ht | ht
      · rcases List.mem_append.mp ht with ht | ht
        · exact ok.tg t (List.mem_of_mem_take ht)
        · rw [hmm t ht]; exact ok.tg f.tags[kn] (List.getElem_mem hkn)
      · exact ok.tg t (List.mem_of_mem_drop ht)
    · rw [hmm x hx]
      exact ⟨f.tags[kn], List.getElem?_eq_getElem hkn, fun z h => h, fun z h => h⟩
    · rw [hmid]; split <;> simp
theorem near_turn {n : Nat} {d : D} (hB : Bag n d) (hn : n + 3000 ≤ 1000000000000) {b : Int} (h2 : 2 ≤ b) (h256 : b ≤ 256) {f : Fmt} (hf : NF b f) (F : D) (t w a10 a11 a12 a13 : Option D) :
    ∃ d' f' w' b10 b11 b12 b13, TNear (nst d F f t w a10 a11 a12 a13) = .ok .nx (nst d' F f' t w' b10 b11 b12 b13) ∧ NF b f' ∧ Bag (n + 2000) d' := by
  obtain ⟨way, d1, e1, w0, w1, b1⟩ := grab_eq hB (by omega) 8 (by decide) (by decide)
  obtain ⟨ok, hb, m5, h4⟩ := hf
  have nh := neD_nil (f.head.map mkD) (lay_mk f.head)
  have nt := neD_nil (f.tags.map tgD) (lay_tg f.tags)
  rw [List.isEmpty_map] at nh nt
  have tl := ok.tl
  have m0 := ok.m0
  -- the last branch
  by_cases c0 : way = 0 ∧ f.head ≠ []
  · obtain ⟨c0, hne⟩ := c0
    subst c0
    have hpos : 0 < f.head.length := List.length_pos_iff.mpr hne
    have hemp : f.head.isEmpty = false := by cases h : f.head <;> simp_all
    obtain ⟨k, d2, e2, k0, k1, b2⟩ := grab_eq b1 (by omega) (f.head.length : Int) (by omega) (by omega)
    obtain ⟨x, d3, e3, x0, x1, b3⟩ := grab_eq b2 (by omega) f.base (by omega) (by omega)
    obtain ⟨v, d4, e4, v0, v1, b4⟩ := grab_eq b3 (by omega) 2 (by decide) (by decide)
    obtain ⟨m, em, hm⟩ := mark2 v x v0 v1
    obtain ⟨kn, rfl⟩ : ∃ kn : Nat, k = (kn : Int) := ⟨k.toNat, by omega⟩
    have s1 := cutT_to (f.head.map mkD) kn
    have s2 := cutT_from (f.head.map mkD) (kn + 1)
    have s2 : slcD (.tuple (f.head.map mkD)) (some ((kn : Int) + 1)) none = _ := s2
    have a1 := addT ((f.head.map mkD).take kn) [mkD m] (by simp; omega)
    have a2 := addT ((f.head.map mkD).take kn ++ [mkD m]) ((f.head.map mkD).drop (kn + 1)) (by simp; omega)
    have e5 : (f.head.map mkD).take kn ++ [mkD m] ++ (f.head.map mkD).drop (kn + 1) = (f.head.take kn ++ [m] ++ f.head.drop (kn + 1)).map mkD := by simp [List.map_take, List.map_drop]
    rw [e5] at a2
    have hlen : (f.head.take kn ++ [m] ++ f.head.drop (kn + 1)).length ≤ f.head.length := by simp; omega
    refine ⟨d4, { f with head := f.head.take kn ++ [m] ++ f.head.drop (kn + 1) }, some (.int 0), some (.int kn), some (mkD m), a12, a13, ?_, ⟨⟨ok.b2, ok.b256, ?_, by simp only; have := ok.hl; omega, ok.m0, ok.tg, ok.so, ok.tl⟩, hb, m5, by simp only; omega⟩, b4.mono (by omega)⟩
    · have hl3 : lenD [PyData.tuple (f.head.map mkD)] = some (.int f.head.length) := by simp
      obtain ⟨H, hH⟩ : ∃ H, H = PyData.tuple (f.head.map mkD) := ⟨_, rfl⟩
      rw [← hH] at nh hl3 s1 s2
      obtain ⟨H', hH'⟩ : ∃ H', H' = PyData.tuple ((f.head.take kn ++ [m] ++ f.head.drop (kn + 1)).map mkD) := ⟨_, rfl⟩
      rw [← hH'] at a2
      simp only [nst, ← hH, ← hH']
      simp [TNear, e1, nh, hemp, hl3, e2, e3, e4, em, s1, s2, a1, a2]
    · intro i hi
      rcases List.mem_append.mp hi with hi | hi
      · rcases List.mem_append.mp hi with hi | hi
        · exact ok.hd i (List.mem_of_mem_take hi)
        · rw [List.mem_singleton] at hi
          rcases hm with rfl | rfl
          · cases hi
          · cases hi; exact ⟨x0, x1⟩
      · exact ok.hd i (List.mem_of_mem_drop hi)
  · have hf : NF b f := ⟨ok, hb, m5, h4⟩
    have lst : way = 0 ∨ way = 5 ∨ way = 6 ∨ way = 7 → ∃ d' f' w' b10 b11 b12 b13, TNear (nst d F f t w a10 a11 a12 a13) = .ok .nx (nst d' F f' t w' b10 b11 b12 b13) ∧ NF b f' ∧ Bag (n + 2000) d' := fun hway => by
      obtain ⟨d', f', b10, b11, b12, b13, e, nf, bb⟩ := last_turn b1 (by omega) hf F t way a10 a11 a12 a13
      refine ⟨d', f', some (.int way), b10, b11, b12, b13, ?_, nf, bb.mono (by omega)⟩
      rw [← e]
      obtain ⟨L, hL⟩ : ∃ L, L = TLast := ⟨_, rfl⟩
      unfold TNear
      rw [← hL]
      obtain ⟨H, hH⟩ : ∃ H, H = PyData.tuple (f.head.map mkD) := ⟨_, rfl⟩
      rw [← hH] at nh
      simp only [nst, ← hH]
      rcases hway with rfl | rfl | rfl | rfl
      · have hemp : f.head.isEmpty = true := by
          cases h : f.head with
          | nil => rfl
          | cons x l => exact absurd ⟨rfl, by rw [h]; simp⟩ c0
        simp [e1, nh, hemp]
      · simp [e1]
      · simp [e1]
      · simp [e1]
    have hway : way = 0 ∨ way = 1 ∨ way = 2 ∨ way = 3 ∨ way = 4 ∨ way = 5 ∨ way = 6 ∨ way = 7 := by omega
    obtain ⟨L, hL⟩ : ∃ L, L = TLast := ⟨_, rfl⟩
    rcases hway with h | rfl | rfl | rfl | rfl | h | h | h
    · exact lst (.inl h)
    · obtain ⟨v, d2, e2, v0, v1, b2⟩ := grab_eq b1 (by omega) 3 (by decide) (by decide)
      obtain ⟨wd, ew⟩ := wd3 v v0 v1
      refine ⟨d2, { f with width := wd }, some (.int 1), a10, a11, a12, a13, ?_, ⟨⟨ok.b2, ok.b256, ok.hd, ok.hl, ok.m0, ok.tg, ok.so, ok.tl⟩, hb, m5, h4⟩, b2.mono (by omega)⟩
      unfold TNear
      rw [← hL]
      simp [nst, e1, e2, ew]
    · obtain ⟨v, d2, e2, v0, v1, b2⟩ := grab_eq b1 (by omega) 3 (by decide) (by decide)
      have mx0 : 0 ≤ max 0 (min 5 (f.most + v - 1)) := by omega
      have mx5 : max 0 (min 5 (f.most + v - 1)) ≤ 5 := by omega
      refine ⟨d2, { f with most := max 0 (min 5 (f.most + v - 1)) }, some (.int 2), a10, a11, a12, a13, ?_, ⟨⟨ok.b2, ok.b256, ok.hd, ok.hl, mx0, ok.tg, ok.so, ok.tl⟩, hb, mx5, h4⟩, b2.mono (by omega)⟩
      unfold TNear
      rw [← hL]
      have ex : (if (if f.most + v - 1 < 5 then f.most + v - 1 else 5) > 0 then (if f.most + v - 1 < 5 then f.most + v - 1 else 5) else 0) = max 0 (min 5 (f.most + v - 1)) := by
        split <;> split <;> omega
      simp [nst, e1, e2, ← ex]
    · obtain ⟨v, d2, e2, v0, v1, b2⟩ := grab_eq b1 (by omega) 2 (by decide) (by decide)
      obtain ⟨r, er⟩ := rest_at v v0 v1
      refine ⟨d2, { f with rest := r }, some (.int 3), a10, a11, a12, a13, ?_, ⟨⟨ok.b2, ok.b256, ok.hd, ok.hl, ok.m0, ok.tg, ok.so, ok.tl⟩, hb, m5, h4⟩, b2.mono (by omega)⟩
      unfold TNear
      rw [← hL]
      simp [nst, e1, e2, er]
    · have hl3 : lenD [PyData.tuple (f.tags.map tgD)] = some (.int f.tags.length) := by simp
      obtain ⟨v, d2, e2, v0, v1, b2⟩ := grab_eq b1 (by omega) ((f.tags.length : Int) + 2) (by omega) (by omega)
      obtain ⟨ts, d3, e3, ht, b3⟩ := drawn_tags_eq b2 (by omega) f.base v (by omega) (by omega)
      refine ⟨d3, { f with tags := ts }, some (.int 4), a10, a11, a12, a13, ?_, ⟨⟨ok.b2, ok.b256, ok.hd, ok.hl, ok.m0, ht.1, ht.2.1, ht.2.2⟩, hb, m5, h4⟩, b3.mono (by omega)⟩
      unfold TNear
      rw [← hL]
      obtain ⟨H, hH⟩ : ∃ H, H = PyData.tuple (f.tags.map tgD) := ⟨_, rfl⟩
      rw [← hH] at hl3
      simp only [nst, ← hH]
      simp [e1, hl3, e2, e3]
    · exact lst (.inr (.inl h))
    · exact lst (.inr (.inr (.inl h)))
    · exact lst (.inr (.inr (.inr h)))
theorem near_form_eq {n : Nat} {d : D} (hB : Bag n d) (hn : n + 10000 ≤ 1000000000000) {b : Int} (h2 : 2 ≤ b) (h256 : b ≤ 256) {f : Fmt} (hf : NF b f) :
    ∃ f' d', S__law_near_form [d, f.d] = .ok (Fmt.d f') [d'] ∧ NF b f' ∧ Bag (n + 6000) d' := by
  simp only [S__law_near_form, runF_eq, rho0]
  obtain ⟨v, d1, e1, v0, v1, b1⟩ := grab_eq hB (by omega) 2 (by decide) (by decide)
  have rg := rng_nat (1 + v) (by omega) (by omega)
  have lp := forT_inv (g := setG 8) (tb := TNear) (fun i : Nat => PyData.int (i : Int))
    (fun (rest : List Nat) (ρ : Rho) => ∃ bag f' t w a10 a11 a12 a13, ρ = nst bag f.d f' t w a10 a11 a12 a13 ∧ NF b f' ∧ (∃ m, Bag m bag ∧ m + 2000 * rest.length ≤ n + 5000))
    (fun _ => False) (fun _ _ => False) (by
      rintro i rest ρ ⟨bag, f', t, w, a10, a11, a12, a13, rfl, nf, m, hb, hm⟩
      rw [List.length_cons] at hm
      obtain ⟨d', f2, w', b10, b11, b12, b13, e, nf', bb⟩ := near_turn hb (by omega) h2 h256 nf f.d (some (.int (i : Int))) w a10 a11 a12 a13
      exact ⟨nst bag f.d f' (some (.int (i : Int))) w a10 a11 a12 a13, rfl, .inl ⟨_, .inl e, d', f2, _, _, _, _, _, _, rfl, nf', m + 2000, bb, by omega⟩⟩)
    (List.range (1 + v).toNat) (nst d1 f.d f none none none none none none) ⟨d1, f, none, none, none, none, none, none, rfl, hf, n + 1, b1, by simp; omega⟩
  rcases lp with ⟨ρ', e3, hI | hF⟩ | ⟨_, _, _, hF⟩
  · obtain ⟨bag, f', t, w, a10, a11, a12, a13, rfl, nf, m, hb, hm⟩ := hI
    refine ⟨f', bag, ?_, nf, hb.mono (by simp at hm; omega)⟩
    obtain ⟨L, hL⟩ : ∃ L, L = TNear := ⟨_, rfl⟩
    have hT : T__law_near_form = sqT (tgtT (tupG 6 (consG (setG 2) (consG (setG 3) (consG (setG 4) (consG (setG 5) (consG (setG 6) (consG (setG 7) (nilG)))))))) (varT 1)) (sqT (forS (rngT rng1D (consT (Z.binT addD (cT (.int 1)) (callT [some 0, none] S__law_grab (ownT 0 (consT (cT (.int 2)) (nilT))))) (nilT))) (setG 8) TNear) (retT (tupT (consT (varT 2) (consT (varT 3) (consT (varT 4) (consT (varT 5) (consT (varT 6) (consT (varT 7) (nilT)))))))))) := rfl
    rw [hT, ← hL]
    rw [← hL] at e3
    have t1 : tgtT (tupG 6 (consG (setG 2) (consG (setG 3) (consG (setG 4) (consG (setG 5) (consG (setG 6) (consG (setG 7) (nilG)))))))) (varT 1) (List.map some [d, f.d] ++ List.replicate (14 - [d, f.d].length) none) = .ok .nx (nst d f.d f none none none none none none) := by
      simp [nst, Fmt.d]
    have t2 : (rngT rng1D (consT (Z.binT addD (cT (.int 1)) (callT [some 0, none] S__law_grab (ownT 0 (consT (cT (.int 2)) (nilT))))) (nilT))) (nst d f.d f none none none none none none) = .ok ((List.range (1 + v).toNat).map fun i : Nat => PyData.int (i : Int)) (nst d1 f.d f none none none none none none) := by
      simp [nst, e1, rg]
    have t3 : retT (tupT (consT (varT 2) (consT (varT 3) (consT (varT 4) (consT (varT 5) (consT (varT 6) (consT (varT 7) (nilT)))))))) (nst bag f.d f' t w a10 a11 a12 a13) = .ok (.rt f'.d) (nst bag f.d f' t w a10 a11 a12 a13) := by
      simp [nst, Fmt.d]
    rw [sqT_eq, t1, sqK_nx, sqT_eq, forS_eq, t2, bind_ok, e3, sqK_nx, t3]
    rfl
  · exact hF.elim
  · exact hF.elim
theorem some_forms_eq {n : Nat} {d : D} (hB : Bag n d) (hn : n + 20000 ≤ 1000000000000) {b : Int} (h2 : 2 ≤ b) (h4 : b ≤ 4) :
    ∃ f g d', S__law_some_forms [d, .int b, .int 2, .list [.int 4, .int 5, .int 4]] = .ok (.list [Fmt.d f, Fmt.d g]) [d'] ∧ NF b f ∧ NF b g ∧ Bag (n + 15000) d' := by
  simp only [S__law_some_forms, T__law_some_forms, runF_eq, rho0]
  obtain ⟨f, d1, e1, f1, f2, f3, f4, b1⟩ := drawn_form2 hB (by omega) b 4 5 4 h2 (by omega) (by decide) (by decide) (by decide) (by decide) (by decide) (by decide)
  have nf : NF b f := ⟨f1, f2, f3, by simpa using f4⟩
  obtain ⟨v, d2, e2, v0, v1, b2⟩ := grab_eq b1 (by omega) 4 (by decide) (by decide)
  have rg := rng_nat 1 (by decide) (by decide)
  have rg' : rng1D [.int 1] = some [.int 0] := rg
  have sz1 : 1 < sizeLine := by rw [sizeLine_eq]; omega
  by_cases c : v > 0
  · obtain ⟨z, d3, e3, z0, z1, b3⟩ := grab_eq b2 (by omega) 1 (by decide) (by decide)
    have hz : z = 0 := by omega
    subst hz
    obtain ⟨g, d4, e4, ng, b4⟩ := near_form_eq b3 (by omega) h2 (by omega) nf
    refine ⟨f, g, d4, ?_, nf, ng, b4.mono (by omega)⟩
    have c' : 0 < v := c
    simp [e1, e2, e3, e4, c', rg', forT_cons, sz1]
  · obtain ⟨g, d3, e3, g1, g2, g3, g4, b3⟩ := drawn_form2 b2 (by omega) b 4 5 4 h2 (by omega) (by decide) (by decide) (by decide) (by decide) (by decide) (by decide)
    refine ⟨f, g, d3, ?_, nf, ⟨g1, g2, g3, by simpa using g4⟩, b3.mono (by omega)⟩
    have c' : ¬ 0 < v := c
    simp [e1, e2, e3, c', rg', forT_cons, sz1]
end K66

/-! file K66D2 -/
set_option Elab.async false
set_option linter.all false
set_option autoImplicit false
set_option maxRecDepth 100000
set_option maxHeartbeats 4000000
namespace K66
open PySem PySem.Spec L2 Z
/-! ### a drawn content -/
theorem draws {n : Nat} {d : D} (hB : Bag n d) (size b : Int) (hs0 : 0 ≤ size) (hs1 : size ≤ 1000) (h0 : 0 < b) (h1 : b ≤ 1000) (hn : n + 2000 ≤ 1000000000000) (a1 a2 a3 a4 a5 a6 a7 a8 a10 a11 : Option D) :
    ∃ (l : List Int) (d' : D) (x : Option D), lcLoop [12] (setG 12) yesT (callT [some 0, none] S__law_grab (ownT 0 (consT (varT 9) (nilT)))) ((List.range size.toNat).map fun i : Nat => PyData.int (i : Int)) []
      [some d, a1, a2, a3, a4, a5, a6, a7, a8, some (.int b), a10, a11, none] = .ok (l.map .int) [some d', a1, a2, a3, a4, a5, a6, a7, a8, some (.int b), a10, a11, x] ∧ Bag (n + size.toNat) d' ∧ (∀ s ∈ l, 0 ≤ s ∧ s < b) ∧ l.length = size.toNat := by
  obtain ⟨l, ρ', er, bag, x, xs, rfl, rfl, ⟨m, hb, hm⟩, ho, hl⟩ := lcLoop_inv (vs := [12]) (g := setG 12) (tt := yesT) (te := callT [some 0, none] S__law_grab (ownT 0 (consT (varT 9) (nilT))))
    (fun i : Nat => PyData.int (i : Int))
    (fun rest acc ρ => ∃ bag x xs, ρ = [some bag, a1, a2, a3, a4, a5, a6, a7, a8, some (.int b), a10, a11, x] ∧ acc = xs.map .int ∧ (∃ m, Bag m bag ∧ m + rest.length ≤ n + size.toNat) ∧ (∀ s ∈ xs, 0 ≤ s ∧ s < b) ∧ xs.length + rest.length = size.toNat)
    (by
      rintro s rest acc ρ ⟨bag, x, xs, rfl, rfl, ⟨m, hb, hm⟩, ho, hl⟩
      rw [List.length_cons] at hm hl
      obtain ⟨v, bag1, e1, hv0, hv1, hb1⟩ := grab_eq hb (by omega) b (by omega) (by omega)
      refine ⟨[some bag, a1, a2, a3, a4, a5, a6, a7, a8, some (.int b), a10, a11, some (.int (s : Int))], by simp [wipeR], true, [some bag, a1, a2, a3, a4, a5, a6, a7, a8, some (.int b), a10, a11, some (.int (s : Int))], by simp [yesT], fun _ => ?_, fun h => by cases h⟩
      refine ⟨.int v, [some bag1, a1, a2, a3, a4, a5, a6, a7, a8, some (.int b), a10, a11, some (.int (s : Int))], by simp [e1], by simp only [List.length_map]; rw [sizeLine_eq]; omega, bag1, _, xs ++ [v], rfl, by simp, ⟨m + 1, hb1, by omega⟩, fun q hq => ?_, by simp; omega⟩
      rcases List.mem_append.mp hq with hq | hq
      · exact ho q hq
      · rw [List.mem_singleton.mp hq]; exact ⟨hv0, hv1⟩)
    (List.range size.toNat) [] [some d, a1, a2, a3, a4, a5, a6, a7, a8, some (.int b), a10, a11, none]
    ⟨d, none, [], rfl, rfl, ⟨n, hB, by simp⟩, (fun q hq => by cases hq), by simp⟩
  exact ⟨xs, bag, x, er, hb.mono (by simp at hm; omega), ho, by simpa using hl⟩
def TCon : Rho → Out Rho Flw := (ifT (isB (Z.binT neD (varT 2) (lstT (nilT)))) (sqT (par2T 8 9 (consT (callT [some 0, none] S__law_grab (ownT 0 (consT (Z.binT addD (callB minD (consT (varT 6) (consT (Z.binT idxD (lstT (consT (cT (.int 1)) (consT (cT (.int 5)) (nilT)))) (callT [some 0, none] S__law_grab (ownT 0 (consT (cT (.int 2)) (nilT))))) (nilT)))) (cT (.int 1))) (nilT)))) (consT (Z.binT idxD (lstT (consT (cT (.int 1)) (consT (varT 4) (nilT)))) (callT [some 0, none] S__law_grab (ownT 0 (consT (cT (.int 2)) (nilT))))) (nilT)))) (sqT (asgT 10 (callB tupC (consT (lcT [12] (rngT rng1D (consT (varT 8) (nilT))) (setG 12) (yesT) (callT [some 0, none] S__law_grab (ownT 0 (consT (varT 9) (nilT))))) (nilT)))) (appT 3 (tupT (consT (Z.binT idxD (varT 2) (callT [some 0, none] S__law_grab (ownT 0 (consT (callB lenD (consT (varT 2) (nilT))) (nilT))))) (consT (varT 10) (nilT))))))) (nxT))
def tds (f : Fmt) : List Int := (f.tags.filter isTold).map (·.1)
def CIn (f : Fmt) (c : Cont) : Prop := ∀ p ∈ c, p.1 ∈ tds f ∧ (p.2.length : Int) ≤ longest f ∧ p.2.length ≤ 5 ∧ ∀ s ∈ p.2, 0 ≤ s ∧ s < f.base
def cst (bag : D) (f : Fmt) (c : Cont) (a7 a8 a9 a10 : Option D) : Rho := [some bag, some f.d, some (.list ((tds f).map .int)), some (.list (c.map chD)), some (.int f.base), some (.int f.most), some (.int (longest f)), a7, a8, a9, a10, none, none]
theorem lay_li (l : List Int) : PyData.canLayAll0 (l.map PyData.int) = true := lay_ints l
theorem con_turn {n : Nat} {d : D} (hB : Bag n d) (hn : n + 3000 ≤ 1000000000000) {f : Fmt} (h : f.Ok) (hb : f.base ≤ 4) {c : Cont} (hc : CIn f c) (hl : c.length ≤ 10) (a7 a8 a9 a10 : Option D) :
    ∃ d' c' b8 b9 b10, TCon (cst d f c a7 a8 a9 a10) = .ok .nx (cst d' f c' a7 b8 b9 b10) ∧ CIn f c' ∧ c'.length ≤ c.length + 1 ∧ Bag (n + 1000) d' := by
  have b2 := h.b2
  have ne := lists_ne ((tds f).map .int) (lay_li _)
  have hlen : lenD [PyData.list ((tds f).map .int)] = some (.int (tds f).length) := by simp
  have tl : (tds f).length ≤ 1000 := by
    have := List.length_filter_le isTold f.tags
    have := h.tl
    simp [tds]; omega
  have lg := longest_nonneg h
  by_cases hz : tds f = []
  · refine ⟨d, c, a8, a9, a10, ?_, hc, by omega, hB.mono (by omega)⟩
    rw [hz] at ne
    simp [TCon, cst, hz]
    simp at ne
    simp [ne]
  · have hpos : 0 < (tds f).length := List.length_pos_iff.mpr hz
    have hemp : ((tds f).map PyData.int).isEmpty = false := by
      cases hq : tds f with
      | nil => exact absurd hq hz
      | cons a b => rfl
    rw [hemp] at ne
    obtain ⟨v, d1, e1, v0, v1, k1⟩ := grab_eq hB (by omega) 2 (by decide) (by decide)
    obtain ⟨one5, h15, e15⟩ : ∃ q : Int, (1 ≤ q ∧ q ≤ 5) ∧ atI [PyData.int 1, .int 5] v = some (.int q) := by
      have : v = 0 ∨ v = 1 := by omega
      rcases this with rfl | rfl
      · exact ⟨1, by omega, rfl⟩
      · exact ⟨5, by omega, rfl⟩
    obtain ⟨mn, hmn⟩ : ∃ mn : Int, mn = (if one5 < longest f then one5 else longest f) := ⟨_, rfl⟩
    have hmn2 : 0 ≤ mn ∧ mn ≤ longest f ∧ mn ≤ 5 := by rw [hmn]; split <;> omega
    obtain ⟨size, d2, e2, s0, s1, k2⟩ := grab_eq k1 (by omega) (mn + 1) (by omega) (by omega)
    obtain ⟨u, d3, e3, u0, u1, k3⟩ := grab_eq k2 (by omega) 2 (by decide) (by decide)
    obtain ⟨mb, hmb, emb⟩ : ∃ q : Int, (1 ≤ q ∧ q ≤ f.base) ∧ atI [PyData.int 1, .int f.base] u = some (.int q) := by
      have : u = 0 ∨ u = 1 := by omega
      rcases this with rfl | rfl
      · exact ⟨1, by omega, rfl⟩
      · exact ⟨f.base, by omega, rfl⟩
    obtain ⟨l, d4, x, e4, k4, hl4, hll⟩ := draws k3 size mb (by omega) (by omega) (by omega) (by omega) (by omega) (some f.d) (some (.list ((tds f).map .int))) (some (.list (c.map chD))) (some (.int f.base)) (some (.int f.most)) (some (.int (longest f))) a7 (some (.int size)) a10 none
    obtain ⟨w, d5, e5, w0, w1, k5⟩ := grab_eq k4 (by omega) ((tds f).length : Int) (by omega) (by omega)
    have hw : w.toNat < (tds f).length := by omega
    have ew : atI ((tds f).map PyData.int) w = some (.int (tds f)[w.toNat]) := by
      have := Z.atI_nat ((tds f).map PyData.int) w.toNat
      rw [show ((w.toNat : Nat) : Int) = w by omega] at this
      rw [this, List.getElem?_map, List.getElem?_eq_getElem hw]; rfl
    have rg := rng_nat size (by omega) (by omega)
    have lc := lcT_run (vs := [12]) (Ti := rngT rng1D (consT (varT 8) (nilT))) (ρ := [some d3, some f.d, some (.list ((tds f).map .int)), some (.list (c.map chD)), some (.int f.base), some (.int f.most), some (.int (longest f)), a7, some (.int size), some (.int mb), a10, none, none]) (by simp [rg]) e4
    refine ⟨d5, c ++ [((tds f)[w.toNat], l)], some (.int size), some (.int mb), some (sgD l), ?_, ?_, by simp, k5.mono (by omega)⟩
    · have cl : (c.map chD).length < sizeLine := by simp [sizeLine]; omega
      have ch : chD ((tds f)[w.toNat], l) = .tuple [.int (tds f)[w.toNat], .tuple (l.map .int)] := rfl
      have e15' : idxD (.list [.int 1, .int 5]) (.int v) = some (.int one5) := e15
      have emb' : idxD (.list [.int 1, .int f.base]) (.int u) = some (.int mb) := emb
      have ew' : idxD (.list ((tds f).map PyData.int)) (.int w) = some (.int (tds f)[w.toNat]) := ew
      have hmn' : minD [.int (longest f), .int one5] = some (.int mn) := by rw [minD_int, hmn]
      have tup : tupC [.list (l.map PyData.int)] = some (.tuple (l.map .int)) := rfl
      obtain ⟨Q, hQ⟩ : ∃ Q, Q = PyData.list ((tds f).map PyData.int) := ⟨_, rfl⟩
      rw [← hQ] at ne hlen ew' lc
      simp only [cst, ← hQ]
      have st1 : (par2T 8 9 (consT (callT [some 0, none] S__law_grab (ownT 0 (consT (Z.binT addD (callB minD (consT (varT 6) (consT (Z.binT idxD (lstT (consT (cT (.int 1)) (consT (cT (.int 5)) (nilT)))) (callT [some 0, none] S__law_grab (ownT 0 (consT (cT (.int 2)) (nilT))))) (nilT)))) (cT (.int 1))) (nilT)))) (consT (Z.binT idxD (lstT (consT (cT (.int 1)) (consT (varT 4) (nilT)))) (callT [some 0, none] S__law_grab (ownT 0 (consT (cT (.int 2)) (nilT))))) (nilT))) : Rho → Out Rho Flw) [some d, some f.d, some Q, some (.list (c.map chD)), some (.int f.base), some (.int f.most), some (.int (longest f)), a7, a8, a9, a10, none, none] = .ok .nx [some d3, some f.d, some Q, some (.list (c.map chD)), some (.int f.base), some (.int f.most), some (.int (longest f)), a7, some (.int size), some (.int mb), a10, none, none] := by
        simp [e1, e15', hmn', e2, e3, emb', -minD_int]
      have st2 : (asgT 10 (callB tupC (consT (lcT [12] (rngT rng1D (consT (varT 8) (nilT))) (setG 12) (yesT) (callT [some 0, none] S__law_grab (ownT 0 (consT (varT 9) (nilT))))) (nilT))) : Rho → Out Rho Flw) [some d3, some f.d, some Q, some (.list (c.map chD)), some (.int f.base), some (.int f.most), some (.int (longest f)), a7, some (.int size), some (.int mb), a10, none, none] = .ok .nx [some d4, some f.d, some Q, some (.list (c.map chD)), some (.int f.base), some (.int f.most), some (.int (longest f)), a7, some (.int size), some (.int mb), some (sgD l), none, none] := by
        simp [lc, putBack, tup, sgD]
      have st3 : (appT 3 (tupT (consT (Z.binT idxD (varT 2) (callT [some 0, none] S__law_grab (ownT 0 (consT (callB lenD (consT (varT 2) (nilT))) (nilT))))) (consT (varT 10) (nilT)))) : Rho → Out Rho Flw) [some d4, some f.d, some Q, some (.list (c.map chD)), some (.int f.base), some (.int f.most), some (.int (longest f)), a7, some (.int size), some (.int mb), some (sgD l), none, none] = .ok .nx [some d5, some f.d, some Q, some (.list ((c ++ [((tds f)[w.toNat], l)]).map chD)), some (.int f.base), some (.int f.most), some (.int (longest f)), a7, some (.int size), some (.int mb), some (sgD l), none, none] := by
        have cl' : c.length < sizeLine := by simpa using cl
        simp [e5, hlen, ew', cl', ch, sgD]
      have st0 : isB (Z.binT neD (varT 2) (lstT (nilT))) [some d, some f.d, some Q, some (.list (c.map chD)), some (.int f.base), some (.int f.most), some (.int (longest f)), a7, a8, a9, a10, none, none] = .ok true [some d, some f.d, some Q, some (.list (c.map chD)), some (.int f.base), some (.int f.most), some (.int (longest f)), a7, a8, a9, a10, none, none] := by
        simp [ne]
      rw [TCon, ifT_eq, st0, bind_ok, if_pos rfl, sqT_eq, st1, sqK_nx, sqT_eq, st2, sqK_nx, st3]
    · intro p hp
      rcases List.mem_append.mp hp with hp | hp
      · exact hc p hp
      · rw [List.mem_singleton.mp hp]
        exact ⟨List.getElem_mem hw, by simp only; omega, by simp only; omega, fun s hs => by have := hl4 s hs; omega⟩
end K66

/-! file K66F9 -/
set_option Elab.async false
set_option linter.all false
set_option autoImplicit false
set_option maxRecDepth 100000
set_option maxHeartbeats 4000000
namespace K66
open PySem PySem.Spec L2 Z Bf
theorem tds_use {f : Fmt} (h : f.Ok) {t : Int} (ht : t ∈ tds f) : (0 ≤ t ∧ t < f.base) ∧ useTold (use f t) = true := by
  obtain ⟨⟨a, u⟩, hm, rfl⟩ := List.mem_map.mp ht
  rw [List.mem_filter] at hm
  refine ⟨h.tg _ hm.1, ?_⟩
  rw [use_mem h hm.1]
  have := of_decide_eq_true hm.2
  rcases this with z | z <;> (simp only at z; subst z; rfl)
theorem law_content_eq {n : Nat} {d : D} (hB : Bag n d) (hn : n + 10000 ≤ 1000000000000) {f : Fmt} (h : f.Ok) (hb : f.base ≤ 4) :
    ∃ c d', S__law_content [d, f.d] = .ok (coD c) [d'] ∧ ConOk f c ∧ Small c ∧ c.length ≤ 10 ∧ (∀ p ∈ c, p.2.length ≤ 5) ∧ Bag (n + 6000) d' := by
  simp only [S__law_content, runF_eq, rho0]
  have b2 := h.b2
  have tl := h.tl
  obtain ⟨v, d1, e1, v0, v1, b1⟩ := grab_eq hB (by omega) 4 (by decide) (by decide)
  have rg := rng_nat v (by omega) (by omega)
  have lp := forT_inv (g := setG 7) (tb := TCon) (fun i : Nat => PyData.int (i : Int))
    (fun (rest : List Nat) (ρ : Rho) => ∃ bag c a7 a8 a9 a10, ρ = cst bag f c a7 a8 a9 a10 ∧ CIn f c ∧ c.length + rest.length ≤ 3 ∧ (∃ m, Bag m bag ∧ m + 1000 * rest.length ≤ n + 3001))
    (fun _ => False) (fun _ _ => False) (by
      rintro i rest ρ ⟨bag, c, a7, a8, a9, a10, rfl, hc, hl, m, hbb, hm⟩
      rw [List.length_cons] at hm hl
      obtain ⟨d', c', b8, b9, b10, e, hc', hl', bb⟩ := con_turn hbb (by omega) h hb hc (by omega) (some (.int (i : Int))) a8 a9 a10
      exact ⟨cst bag f c (some (.int (i : Int))) a8 a9 a10, rfl, .inl ⟨_, .inl e, d', c', _, _, _, _, rfl, hc', by omega, m + 1000, bb, by omega⟩⟩)
    (List.range v.toNat) (cst d1 f [] none none none none) ⟨d1, [], none, none, none, none, rfl, (fun p hp => by cases hp), by simp; omega, n + 1, b1, by simp; omega⟩
  have lc := lcT_pure (vs := [11]) (Ti := seqT (Z.binT idxD (varT 1) (cT (.int 4)))) (g := setG 11) (tt := isB (Z.binT inD (Z.binT idxD (varT 11) (cT (.int 1))) (tupT (consT (cT (.str ("keep" : Str))) (consT (cT (.str ("check" : Str))) (nilT)))))) (te := Z.binT idxD (varT 11) (cT (.int 0)))
    (ρ := [some d, some f.d, none, none, none, none, none, none, none, none, none, none, none]) (ρ1 := [some d, some f.d, none, none, none, none, none, none, none, none, none, none, none]) f.tags tgD isTold (fun t => .int t.1) (fun t => [some d, some f.d, none, none, none, none, none, none, none, none, none, some (tgD t), none])
    (by simp) (fun t _ => by
      have q0 : idxD (tgD t) (.int 0) = some (.int t.1) := rfl
      have q1 : idxD (tgD t) (.int 1) = some (.str t.2.s) := by simp [tgD]
      simp [wipeR, q0, q1, inTold, isTold]) (by simp; omega)
  have hT : T__law_content = sqT (par2T 2 3 (consT (lcT [11] (seqT (Z.binT idxD (varT 1) (cT (.int 4)))) (setG 11) (isB (Z.binT inD (Z.binT idxD (varT 11) (cT (.int 1))) (tupT (consT (cT (.str ("keep" : Str))) (consT (cT (.str ("check" : Str))) (nilT)))))) (Z.binT idxD (varT 11) (cT (.int 0)))) (consT (lstT (nilT)) (nilT)))) (sqT (par2T 4 5 (consT (Z.binT idxD (varT 1) (cT (.int 0))) (consT (Z.binT idxD (varT 1) (cT (.int 3))) (nilT)))) (sqT (asgT 6 (ifT (isB (Z.binT eqD (Z.binT idxD (varT 1) (cT (.int 2))) (cT (.str ("one" : Str))))) (callB minD (consT (varT 5) (consT (Z.binT subD (varT 4) (cT (.int 1))) (nilT)))) (callB minD (consT (varT 5) (consT (Z.binT subD (Z.binT powD (varT 4) (cT (.int 2))) (cT (.int 1))) (nilT)))))) (sqT (forS (rngT rng1D (consT (callT [some 0, none] S__law_grab (ownT 0 (consT (cT (.int 4)) (nilT)))) (nilT))) (setG 7) TCon) (retT (callO 3 tupC))))) := rfl
  rw [hT]
  have e0 : (List.map some [d, f.d] ++ List.replicate (13 - [d, f.d].length) none) = [some d, some f.d, none, none, none, none, none, none, none, none, none, none, none] := rfl
  rw [e0]
  have et : (f.tags.filter isTold).map (fun t => PyData.int t.1) = (tds f).map PyData.int := by simp [tds]
  rw [et] at lc
  have s1 : (par2T 2 3 (consT (lcT [11] (seqT (Z.binT idxD (varT 1) (cT (.int 4)))) (setG 11) (isB (Z.binT inD (Z.binT idxD (varT 11) (cT (.int 1))) (tupT (consT (cT (.str ("keep" : Str))) (consT (cT (.str ("check" : Str))) (nilT)))))) (Z.binT idxD (varT 11) (cT (.int 0)))) (consT (lstT (nilT)) (nilT))) : Rho → Out Rho Flw) [some d, some f.d, none, none, none, none, none, none, none, none, none, none, none] = .ok .nx [some d, some f.d, some (.list ((tds f).map .int)), some (.list []), none, none, none, none, none, none, none, none, none] := by
    rw [par2T_eq, consT_eq, lc]
    simp
  have s2 : (par2T 4 5 (consT (Z.binT idxD (varT 1) (cT (.int 0))) (consT (Z.binT idxD (varT 1) (cT (.int 3))) (nilT))) : Rho → Out Rho Flw) [some d, some f.d, some (.list ((tds f).map .int)), some (.list []), none, none, none, none, none, none, none, none, none] = .ok .nx [some d, some f.d, some (.list ((tds f).map .int)), some (.list []), some (.int f.base), some (.int f.most), none, none, none, none, none, none, none] := by
    simp
  have s3 : (asgT 6 (ifT (isB (Z.binT eqD (Z.binT idxD (varT 1) (cT (.int 2))) (cT (.str ("one" : Str))))) (callB minD (consT (varT 5) (consT (Z.binT subD (varT 4) (cT (.int 1))) (nilT)))) (callB minD (consT (varT 5) (consT (Z.binT subD (Z.binT powD (varT 4) (cT (.int 2))) (cT (.int 1))) (nilT))))) : Rho → Out Rho Flw) [some d, some f.d, some (.list ((tds f).map .int)), some (.list []), some (.int f.base), some (.int f.most), none, none, none, none, none, none, none] = .ok .nx (cst d f [] none none none none) := by
    have pw : powD (.int f.base) (.int 2) = some (.int (f.base ^ 2)) := powD_int _ _ (pow_small _ _ (by
      have : f.base.natAbs ≤ 4 := by omega
      exact Nat.lt_of_le_of_lt this (by decide)) (by decide) (by decide))
    have sq : f.base ^ 2 = f.base * f.base := by rw [Int.pow_succ, Int.pow_succ, Int.pow_zero, Int.one_mul]
    unfold cst longest
    simp only [asgT_eq, ifT_eq, isB_eq]
    cases hw : f.width with
    | one =>
      have q : eqD (.str f.width.s) (.str "one") = some (.bool true) := by rw [wd_one, hw]; rfl
      simp only [reduceCtorEq, if_true]
      simp [q]
      split <;> omega
    | high =>
      have q : eqD (.str f.width.s) (.str "one") = some (.bool false) := by rw [wd_one, hw]; rfl
      simp only [reduceCtorEq, if_false]
      simp [q, pw, sq]
      split <;> omega
    | low =>
      have q : eqD (.str f.width.s) (.str "one") = some (.bool false) := by rw [wd_one, hw]; rfl
      simp only [reduceCtorEq, if_false]
      simp [q, pw, sq]
      split <;> omega
  have s4 : (rngT rng1D (consT (callT [some 0, none] S__law_grab (ownT 0 (consT (cT (.int 4)) (nilT)))) (nilT))) (cst d f [] none none none none) = .ok ((List.range v.toNat).map fun i : Nat => PyData.int (i : Int)) (cst d1 f [] none none none none) := by
    simp [cst, e1, rg]
  rcases lp with ⟨ρ', e3, hI | hF⟩ | ⟨_, _, _, hF⟩
  · obtain ⟨bag, c, a7, a8, a9, a10, rfl, hc, hl, m, hbb, hm⟩ := hI
    simp at hl hm
    have s5 : retT (callO 3 tupC) (cst bag f c a7 a8 a9 a10) = .ok (.rt (coD c)) (cst bag f c a7 a8 a9 a10) := by
      have tup : tupC [.list (c.map chD)] = some (coD c) := rfl
      simp [cst, tup]
    refine ⟨c, bag, ?_, ⟨by omega, fun p hp => ?_⟩, ⟨by omega, fun p hp => ?_⟩, by omega, fun p hp => (hc p hp).2.2.1, hbb.mono (by omega)⟩
    · rw [sqT_eq, s1, sqK_nx, sqT_eq, s2, sqK_nx, sqT_eq, s3, sqK_nx, sqT_eq, forS_eq, s4, bind_ok, e3, sqK_nx, s5]
      rfl
    · obtain ⟨h1, h2, h3, h4⟩ := hc p hp
      obtain ⟨q1, q2⟩ := tds_use h h1
      exact ⟨q1, q2, h2, by omega, h4⟩
    · have := (hc p hp).2.2.1
      omega
  · exact hF.elim
  · exact hF.elim
/-! ### contents compared -/
theorem lay_ch (c : Cont) : PyData.canLayAll0 (c.map chD) = true := by
  induction c with
  | nil => rfl
  | cons p c ih => simp [PyData.canLayAll0, PyData.canLay0, chD, lay_sg, ih]
theorem depth_ch : ∀ (c : Cont), PyData.depthAll (c.map chD) ≤ 2
  | [] => by simp [PyData.depthAll]
  | p :: c => by
    have := depth_ch c
    simp [PyData.depthAll, chD, PyData.depth, depth_sg]
    omega
theorem eqv_ch : ∀ (a b : Cont), PyData.eqvAll (a.map chD) (b.map chD) = decide (a = b)
  | [], [] => by simp [PyData.eqvAll]
  | [], _ :: _ => by simp [PyData.eqvAll]
  | _ :: _, [] => by simp [PyData.eqvAll]
  | (x, p) :: a, (y, q) :: b => by
    simp only [List.map_cons, PyData.eqvAll, chD, PyData.eqv, eqv_sg, eqv_ch a b, Bool.and_true]
    by_cases h1 : x = y <;> by_cases h2 : p = q <;> by_cases h3 : a = b <;> simp [h1, h2, h3]
theorem eqv_coD (a b : Cont) : PyData.eqv (coD a) (coD b) = decide (a = b) := by
  simp only [coD, PyData.eqv, eqv_ch]
theorem ok_co (a b : Cont) : okCmp (coD a) (coD b) = true := by
  have h1 := depth_ch a
  simp [okCmp, coD, PyData.canLay0, lay_ch, PyData.depth]
  omega
theorem ok_nco (b : Cont) : okCmp .none (coD b) = true := by
  have h1 := depth_ch b
  simp [okCmp, coD, PyData.canLay0, lay_ch, PyData.depth]
theorem ne_co (a b : Cont) : neD (coD a) (coD b) = some (.bool (!decide (a = b))) := by
  unfold neD
  rw [if_pos (ok_co a b), eqv_coD]
theorem eq_cod (a b : Cont) : eqD (coD a) (coD b) = some (.bool (decide (a = b))) := by
  unfold eqD
  rw [if_pos (ok_co a b), eqv_coD]
theorem ne_nco (b : Cont) : neD .none (coD b) = some (.bool true) := by
  unfold neD
  rw [if_pos (ok_nco b)]
  simp [PyData.eqv, coD]
theorem eq_nco (b : Cont) : eqD .none (coD b) = some (.bool false) := by
  unfold eqD
  rw [if_pos (ok_nco b)]
  simp [PyData.eqv, coD]
/-! ### the order of words -/
def zc (B : Nat) : Nat → Nat
  | 0 => 0
  | n + 1 => B ^ n + zc B n
theorem code_off (B : Nat) : ∀ (r : List Int) (c : Nat), code B c r = c * B ^ r.length + code B 0 r
  | [], c => by simp [Bf.code]
  | s :: r, c => by
    rw [Bf.code, Bf.code, code_off B r (c * B + s.toNat + 1), code_off B r (0 * B + s.toNat + 1), List.length_cons, Nat.pow_succ]
    have e : (c * B + s.toNat + 1) * B ^ r.length = c * (B ^ r.length * B) + (s.toNat + 1) * B ^ r.length := by
      rw [Nat.add_assoc, Nat.add_mul, Nat.mul_assoc, Nat.mul_comm B]
    rw [e, Nat.zero_mul, Nat.zero_add]
    omega
theorem code_cons (B : Nat) (s : Int) (r : List Int) : code B 0 (s :: r) = (s.toNat + 1) * B ^ r.length + code B 0 r := by
  rw [Bf.code, code_off, Nat.zero_mul, Nat.zero_add]
theorem code_bd {B : Nat} (hB : 0 < B) : ∀ (r : List Int), (∀ s ∈ r, 0 ≤ s ∧ s < B) → zc B r.length ≤ code B 0 r ∧ code B 0 r + 1 ≤ zc B (r.length + 1)
  | [], _ => by simp [Bf.code, zc]
  | s :: r, h => by
    obtain ⟨h1, h2⟩ := code_bd hB r fun q hq => h q (List.mem_cons_of_mem _ hq)
    have hs := h s (List.mem_cons_self ..)
    have a1 : 1 * B ^ r.length ≤ (s.toNat + 1) * B ^ r.length := Nat.mul_le_mul_right _ (by omega)
    have a2 : (s.toNat + 1) * B ^ r.length ≤ B * B ^ r.length := Nat.mul_le_mul_right _ (by omega)
    rw [code_cons, List.length_cons]
    have z1 : zc B (r.length + 1) = B ^ r.length + zc B r.length := rfl
    have z2 : zc B (r.length + 1 + 1) = B ^ (r.length + 1) + zc B (r.length + 1) := rfl
    rw [z2, Nat.pow_succ, Nat.mul_comm (B ^ r.length) B]
    omega
theorem zc_mono (B : Nat) {n m : Nat} (h : n ≤ m) : zc B n ≤ zc B m := by
  induction h with
  | refl => exact Nat.le_refl _
  | step _ ih => exact Nat.le_trans ih (Nat.le_add_left ..)
theorem code_len {B : Nat} (hB : 0 < B) {a b : List Int} (ha : ∀ s ∈ a, 0 ≤ s ∧ s < B) (hb : ∀ s ∈ b, 0 ≤ s ∧ s < B) (h : a.length < b.length) : code B 0 a < code B 0 b := by
  have h1 := (code_bd hB a ha).2
  have h2 := (code_bd hB b hb).1
  have h3 := zc_mono B (show a.length + 1 ≤ b.length from h)
  omega
theorem code_lex {B : Nat} (hB : 0 < B) : ∀ (a b : List Int), (∀ s ∈ a, 0 ≤ s ∧ s < B) → (∀ s ∈ b, 0 ≤ s ∧ s < B) → a.length = b.length → ltAll (a.map .int) (b.map .int) = true → code B 0 a < code B 0 b
  | [], [], _, _, _, h => by rw [List.map_nil, ltAll_nil] at h; cases h
  | [], _ :: _, _, _, h, _ => by simp at h
  | _ :: _, [], _, _, h, _ => by simp at h
  | x :: a, y :: b, ha, hb, hl, h => by
    rw [List.map_cons, List.map_cons, ltAll_int] at h
    have hl2 : a.length = b.length := by simpa using hl
    clear hl
    have ha' : ∀ s ∈ a, 0 ≤ s ∧ s < B := fun q hq => ha q (List.mem_cons_of_mem _ hq)
    have hb' : ∀ s ∈ b, 0 ≤ s ∧ s < B := fun q hq => hb q (List.mem_cons_of_mem _ hq)
    have hx := ha x (List.mem_cons_self ..)
    have hy := hb y (List.mem_cons_self ..)
    rw [code_cons, code_cons, hl2]
    split at h
    · rename_i e
      subst e
      have := code_lex hB a b ha' hb' hl2 h
      omega
    · have h := of_decide_eq_true h
      have h1 := (code_bd hB a ha').2
      have h2 := (code_bd hB b hb').1
      have z1 : zc B (a.length + 1) = B ^ a.length + zc B a.length := rfl
      have a1 : (x.toNat + 1 + 1) * B ^ b.length ≤ (y.toNat + 1) * B ^ b.length := Nat.mul_le_mul_right _ (by omega)
      rw [Nat.add_mul (x.toNat + 1)] at a1
      rw [hl2] at h1 z1
      omega
theorem no_more {B : Nat} (hB : 0 < B) {a b : List Int} (ha : ∀ s ∈ a, 0 ≤ s ∧ s < B) (hb : ∀ s ∈ b, 0 ≤ s ∧ s < B) (h : code B 0 a ≤ code B 0 b) : gtD (.tuple [.int a.length, sgD a]) (.tuple [.int b.length, sgD b]) = some (.bool false) := by
  rw [len_tup_gt]
  congr 2
  rw [ltAll_int]
  by_cases e : (b.length : Int) = (a.length : Int)
  · rw [if_pos e]
    by_cases hab : b = a
    · subst hab
      unfold ltAll
      rw [PySem.W.dataLt_all_yes (x := sgD b) (y := sgD b) (by simp [PySem.W.alike, sgD, alike_ints]) (by rw [eqv_sg]; simp)]
      exact ltAll_nil
    · unfold ltAll
      rw [PySem.W.dataLt_all_no (x := sgD b) (y := sgD a) (by simp [PySem.W.alike, sgD, alike_ints]) (by rw [eqv_sg]; simp [hab]), sgD, sgD, dataLt_tup]
      cases hq : ltAll (b.map .int) (a.map .int) with
      | false => rfl
      | true =>
        have := code_lex hB b a hb ha (by omega) hq
        omega
  · rw [if_neg e]
    refine decide_eq_false fun hlt => ?_
    have := code_len hB hb ha (by omega)
    omega
end K66

/-! file K66G1 -/
set_option Elab.async false
set_option linter.all false
set_option autoImplicit false
set_option maxRecDepth 100000
set_option maxHeartbeats 4000000
namespace K66
open PySem PySem.Spec L2 Z Bf
variable {f g : Fmt}
theorem sm_of {b : Int} (h : b ≤ 4) (nf : NF b f) : Sm f := ⟨by have := nf.b; omega, nf.m5, nf.h4⟩
theorem check_two_eq (hf : f.Ok) (hg : g.Ok) (hb : g.base = f.base) : S_check_two [f.d, g.d] = .ok .none [] := by
  have c : S_check_base [f.d, g.d] = .ok .none [] := by
    simp only [S_check_base, T_check_base, runF_eq, rho0]
    simp [hb]
  simp only [S_check_two, T_check_two, runF_eq, rho0]
  simp [check_format_eq hf, check_format_eq hg, c]
theorem relayed_eq {b : Int} (h2 : b ≤ 4) (nf : NF b f) (ng : NF b g) :
    (S_relayed [f.d, g.d] = .ok .none [] ∧ ∀ v, ¬ (sys f g nf.ok).Goal (sys f g nf.ok).p0 (sys f g nf.ok).l0 v) ∨
    ∃ c, S_relayed [f.d, g.d] = .ok (coD c) [] ∧ ConOk f c ∧ Found f g nf.ok (writ f c) ∧ (writ f c).length ≤ 7812 ∧ InB f.base (writ f c) ∧ ¬ ∃ st2, Run g (first g) [] (writ f c) st2 c ∧ ending g st2 = true := by
  have hb : g.base = f.base := by rw [nf.b, ng.b]
  have ct := check_two_eq nf.ok ng.ok hb
  simp only [S_relayed, T_relayed, runF_eq, rho0]
  rcases worse_in_eq nf.ok ng.ok hb (sm_of h2 nf) (sm_of h2 ng) with ⟨e, hn⟩ | ⟨w, e, F⟩
  · refine .inl ⟨?_, hn⟩
    have r : S_relayed_in [f.d, g.d] = .ok .none [] := by
      simp only [S_relayed_in, T_relayed_in, runF_eq, rho0]
      simp [e, isNoneD]
    simp [ct, r]
  · obtain ⟨ha, st, c, r, he, hne⟩ := (goal_iff nf.ok w).mp F.2.1
    have hl := F.1
    have m5 := nf.m5
    obtain ⟨rfl, hc⟩ := writ_of nf.ok ha r he (by omega) (by omega)
    refine .inr ⟨c, ?_, hc, F, hl, alw_in nf.ok _ _ ha, hne⟩
    have t := told_in_eq nf.ok r (by omega)
    have sn := sgN (writ f c)
    have r : S_relayed_in [f.d, g.d] = .ok (coD c) [] := by
      simp only [S_relayed_in, T_relayed_in, runF_eq, rho0]
      simp [e, sn, t]
    simp [ct, r]
theorem read_lost (hg : g.Ok) {row : List Int} (hr : InB g.base row) (hl : row.length ≤ 10000) (c : Cont) :
    ∃ d d0 lost, S__law_reading [g.d, sgD row] = .ok d [] ∧ idxD d (.int 0) = some d0 ∧ neD d0 (coD c) = some (.bool lost) ∧ eqD d0 (coD c) = some (.bool (!lost)) ∧ (lost = false ↔ ∃ st2, Run g (first g) [] row st2 c ∧ ending g st2 = true) := by
  obtain ⟨d, e, ⟨⟨a, w, rfl⟩, hn⟩ | ⟨st, c2, r, he, rfl⟩⟩ := reading_iff hg hr hl
  · refine ⟨_, .none, true, e, rfl, ne_nco c, eq_nco c, ?_⟩
    constructor
    · intro h; cases h
    · rintro ⟨st2, r, k⟩; exact absurd ⟨st2, c, r, k⟩ hn
  · refine ⟨_, coD c2, !decide (c2 = c), e, rfl, ne_co c2 c, by rw [eq_cod, Bool.not_not], ?_⟩
    rw [Bool.not_eq_false', decide_eq_true_eq]
    constructor
    · rintro rfl; exact ⟨st, r, he⟩
    · rintro ⟨st2, r2, _⟩; exact (Run.det r r2).2
def TTurn : Rho → Out Rho Flw := (sqT (asgT 6 (callT [some 0, none] S__law_content (ownT 0 (consT (varT 1) (nilT))))) (sqT (asgT 7 (callT [none, none] S_write (consT (varT 1) (consT (varT 6) (nilT))))) (sqT (ifT (isB (Z.binT neD (Z.binT idxD (callT [none, none] S__law_reading (consT (varT 1) (consT (varT 7) (nilT)))) (cT (.int 0))) (varT 6))) (retT (cT (.bool false))) (nxT)) (sqT (asgT 8 (Z.binT neD (Z.binT idxD (callT [none, none] S__law_reading (consT (varT 2) (consT (varT 7) (nilT)))) (cT (.int 0))) (varT 6))) (ifT (andT (isB (varT 8)) (orT (isB (Z.binT isD (varT 4) (cT .none))) (isB (Z.binT gtD (tupT (consT (callB lenD (consT (varT 4) (nilT))) (consT (varT 4) (nilT)))) (tupT (consT (callB lenD (consT (varT 7) (nilT))) (consT (varT 7) (nilT)))))))) (retT (cT (.bool false))) (nxT))))))
theorem writ_len (h : f.Ok) (h4 : f.head.length ≤ 4) {c : Cont} (hs : Small c) (hl : c.length ≤ 10) : (writ f c).length ≤ 10000 := by
  have h1 := flat_small f c hs.b
  have h2 := (endS_ok h).2.1
  simp only [writ, List.length_append, List.length_map]
  omega
theorem turn_right {b : Int} (h2 : b ≤ 4) (nf : NF b f) (ng : NF b g) {n : Nat} {d : D} (hB : Bag n d) (hn : n + 10000 ≤ 1000000000000) (R L : D) (a5 a6 a7 a8 : Option D)
    (hL : ∀ c, ConOk f c → (writ f c).length ≤ 10000 → InB f.base (writ f c) → (¬ ∃ st2, Run g (first g) [] (writ f c) st2 c ∧ ending g st2 = true) → isNoneD L = false ∧ ∃ ll, lenD [L] = some ll ∧ gtD (.tuple [ll, L]) (.tuple [.int (writ f c).length, sgD (writ f c)]) = some (.bool false)) :
    ∃ d' b6 b7 b8, TTurn [some d, some f.d, some g.d, some R, some L, a5, a6, a7, a8] = .ok .nx [some d', some f.d, some g.d, some R, some L, a5, b6, b7, b8] ∧ Bag (n + 6000) d' := by
  have hb : g.base = f.base := by rw [nf.b, ng.b]
  obtain ⟨c, d1, e1, hc, hs, hl, h5, b1⟩ := law_content_eq hB hn nf.ok (by rw [nf.b]; exact h2)
  have wl := writ_len nf.ok nf.h4 hs hl
  have wi : InB f.base (writ f c) := (writ_sg nf.ok hc hs).2
  have wr := write_eq nf.ok hc
  obtain ⟨st, r, he⟩ := file_run nf.ok (writF_ok nf.ok hc)
  have r : Run f (first f) [] (writ f c) st (content f c) := r
  rw [content_con hc] at r
  obtain ⟨df, df0, lf, f1, f2, f3, _, f5⟩ := read_lost nf.ok wi wl c
  have hlf : lf = false := f5.mpr ⟨st, r, he⟩
  subst hlf
  obtain ⟨dg, dg0, lg, g1, g2, g3, _, g5⟩ := read_lost ng.ok (by rw [hb]; exact wi) wl c
  refine ⟨d1, some (coD c), some (sgD (writ f c)), some (.bool lg), ?_, b1⟩
  have s1 : asgT 6 (callT [some 0, none] S__law_content (ownT 0 (consT (varT 1) (nilT)))) [some d, some f.d, some g.d, some R, some L, a5, a6, a7, a8] = .ok .nx [some d1, some f.d, some g.d, some R, some L, a5, some (coD c), a7, a8] := by
    simp [e1]
  have s2 : asgT 7 (callT [none, none] S_write (consT (varT 1) (consT (varT 6) (nilT)))) [some d1, some f.d, some g.d, some R, some L, a5, some (coD c), a7, a8] = .ok .nx [some d1, some f.d, some g.d, some R, some L, a5, some (coD c), some (sgD (writ f c)), a8] := by
    simp [wr]
  have s3 : (ifT (isB (Z.binT neD (Z.binT idxD (callT [none, none] S__law_reading (consT (varT 1) (consT (varT 7) (nilT)))) (cT (.int 0))) (varT 6))) (retT (cT (.bool false))) (nxT)) [some d1, some f.d, some g.d, some R, some L, a5, some (coD c), some (sgD (writ f c)), a8] = .ok .nx [some d1, some f.d, some g.d, some R, some L, a5, some (coD c), some (sgD (writ f c)), a8] := by
    simp [f1, f2, f3]
  have s4 : asgT 8 (Z.binT neD (Z.binT idxD (callT [none, none] S__law_reading (consT (varT 2) (consT (varT 7) (nilT)))) (cT (.int 0))) (varT 6)) [some d1, some f.d, some g.d, some R, some L, a5, some (coD c), some (sgD (writ f c)), a8] = .ok .nx [some d1, some f.d, some g.d, some R, some L, a5, some (coD c), some (sgD (writ f c)), some (.bool lg)] := by
    simp [g1, g2, g3]
  have s5 : (andT (isB (varT 8)) (orT (isB (Z.binT isD (varT 4) (cT .none))) (isB (Z.binT gtD (tupT (consT (callB lenD (consT (varT 4) (nilT))) (consT (varT 4) (nilT)))) (tupT (consT (callB lenD (consT (varT 7) (nilT))) (consT (varT 7) (nilT)))))))) [some d1, some f.d, some g.d, some R, some L, a5, some (coD c), some (sgD (writ f c)), some (.bool lg)] = .ok false [some d1, some f.d, some g.d, some R, some L, a5, some (coD c), some (sgD (writ f c)), some (.bool lg)] := by
    cases lg with
    | false => simp
    | true =>
      obtain ⟨k1, ll, k2, k3⟩ := hL c hc wl wi (fun h => by have := g5.mpr h; cases this)
      have k4 := len_sg (writ f c)
      obtain ⟨W, hW⟩ : ∃ W, W = sgD (writ f c) := ⟨_, rfl⟩
      obtain ⟨wn, hwn⟩ : ∃ wn : Int, wn = ((writ f c).length : Int) := ⟨_, rfl⟩
      rw [← hW, ← hwn] at k3 k4
      rw [← hW]
      simp [k1, k2, k3, k4]
  rw [TTurn, sqT_eq, s1, sqK_nx, sqT_eq, s2, sqK_nx, sqT_eq, s3, sqK_nx, sqT_eq, s4, sqK_nx, ifT_eq, s5, bind_ok, if_neg (by decide), nxT_eq]
theorem right_eq {b : Int} (h0 : 2 ≤ b) (h2 : b ≤ 4) (nf : NF b f) (ng : NF b g) {n : Nat} {d : D} (hB : Bag n d) (hn : n + 60000 ≤ 1000000000000) :
    ∃ d', S__law_right [d, f.d, g.d] = .ok (.bool true) [d'] ∧ Bag (n + 50000) d' := by
  have hb : g.base = f.base := by rw [nf.b, ng.b]
  have hT : T__law_right = sqT (asgT 3 (callT [none, none] S_relayed (consT (varT 1) (consT (varT 2) (nilT))))) (sqT (asgT 4 (ifT (isB (Z.binT isD (varT 3) (cT .none))) (cT .none) (callT [none, none] S_write (consT (varT 1) (consT (varT 3) (nilT)))))) (sqT (ifT (andT (isB (Z.binT isNotD (varT 3) (cT .none))) (isB (Z.binT eqD (Z.binT idxD (callT [none, none] S__law_reading (consT (varT 2) (consT (varT 4) (nilT)))) (cT (.int 0))) (varT 3)))) (retT (cT (.bool false))) (nxT)) (sqT (forS (rngT rng1D (consT (cT (.int 8)) (nilT))) (setG 5) TTurn) (retT (cT (.bool true)))))) := rfl
  simp only [S__law_right, runF_eq, rho0]
  rw [hT]
  have e0 : (List.map some [d, f.d, g.d] ++ List.replicate (9 - [d, f.d, g.d].length) none) = [some d, some f.d, some g.d, none, none, none, none, none, none] := rfl
  rw [e0]
  have rg := rng_nat 8 (by decide) (by decide)
  have loop : ∀ (R L : D), (∀ c, ConOk f c → (writ f c).length ≤ 10000 → InB f.base (writ f c) → (¬ ∃ st2, Run g (first g) [] (writ f c) st2 c ∧ ending g st2 = true) → isNoneD L = false ∧ ∃ ll, lenD [L] = some ll ∧ gtD (.tuple [ll, L]) (.tuple [.int (writ f c).length, sgD (writ f c)]) = some (.bool false)) →
      ∃ d' ρ', (sqK (forS (rngT rng1D (consT (cT (.int 8)) (nilT))) (setG 5) TTurn [some d, some f.d, some g.d, some R, some L, none, none, none, none]) (retT (cT (.bool true)))) = .ok (.rt (.bool true)) ρ' ∧ (getS 0 ρ').getD .none = d' ∧ Bag (n + 50000) d' := by
    intro R L hL
    have lp := forT_inv (g := setG 5) (tb := TTurn) (fun i : Nat => PyData.int (i : Int))
      (fun (rest : List Nat) (ρ : Rho) => ∃ bag a5 a6 a7 a8, ρ = [some bag, some f.d, some g.d, some R, some L, a5, a6, a7, a8] ∧ (∃ m, Bag m bag ∧ m + 6000 * rest.length ≤ n + 48000))
      (fun _ => False) (fun _ _ => False) (by
        rintro i rest ρ ⟨bag, a5, a6, a7, a8, rfl, m, hbb, hm⟩
        rw [List.length_cons] at hm
        obtain ⟨d', b6, b7, b8, e, bb⟩ := turn_right h2 nf ng hbb (by omega) R L (some (.int (i : Int))) a6 a7 a8 hL
        exact ⟨[some bag, some f.d, some g.d, some R, some L, some (.int (i : Int)), a6, a7, a8], rfl, .inl ⟨_, .inl e, d', _, _, _, _, rfl, m + 6000, bb, by omega⟩⟩)
      (List.range (8 : Int).toNat) [some d, some f.d, some g.d, some R, some L, none, none, none, none] ⟨d, none, none, none, none, rfl, n, hB, by simp⟩
    rcases lp with ⟨ρ', e3, hI | hF⟩ | ⟨_, _, _, hF⟩
    · obtain ⟨bag, a5, a6, a7, a8, rfl, m, hbb, hm⟩ := hI
      refine ⟨bag, [some bag, some f.d, some g.d, some R, some L, a5, a6, a7, a8], ?_, rfl, hbb.mono (by simp at hm; omega)⟩
      have t2 : (rngT rng1D (consT (cT (.int 8)) (nilT))) [some d, some f.d, some g.d, some R, some L, none, none, none, none] = .ok ((List.range (8 : Int).toNat).map fun i : Nat => PyData.int (i : Int)) [some d, some f.d, some g.d, some R, some L, none, none, none, none] := by
        rw [rngT_eq, consT_eq, cT_eq, bind_ok, nilT_eq, bind_ok, bind_ok, rg]
        rfl
      rw [forS_eq, t2, bind_ok, e3, sqK_nx]
      simp
    · exact hF.elim
    · exact hF.elim
  rcases relayed_eq h2 nf ng with ⟨e, hno⟩ | ⟨c0, e, hc0, F, wl, wi, hlost⟩
  · obtain ⟨d', ρ', l1, l2, l3⟩ := loop .none .none (fun c hc hl hi hne => absurd ((goal_iff nf.ok (writ f c)).mpr (by
      obtain ⟨st, r, he⟩ := file_run nf.ok (writF_ok nf.ok hc)
      have r : Run f (first f) [] (writ f c) st (content f c) := r
      rw [content_con hc] at r
      exact ⟨alw_writ nf.ok hc, st, c, r, he, hne⟩)) (hno _))
    refine ⟨d', ?_, l3⟩
    have s1 : asgT 3 (callT [none, none] S_relayed (consT (varT 1) (consT (varT 2) (nilT)))) [some d, some f.d, some g.d, none, none, none, none, none, none] = .ok .nx [some d, some f.d, some g.d, some .none, none, none, none, none, none] := by
      simp [e]
    have s2 : asgT 4 (ifT (isB (Z.binT isD (varT 3) (cT .none))) (cT .none) (callT [none, none] S_write (consT (varT 1) (consT (varT 3) (nilT))))) [some d, some f.d, some g.d, some .none, none, none, none, none, none] = .ok .nx [some d, some f.d, some g.d, some .none, some .none, none, none, none, none] := by
      simp [isNoneD]
    have s3 : (ifT (andT (isB (Z.binT isNotD (varT 3) (cT .none))) (isB (Z.binT eqD (Z.binT idxD (callT [none, none] S__law_reading (consT (varT 2) (consT (varT 4) (nilT)))) (cT (.int 0))) (varT 3)))) (retT (cT (.bool false))) (nxT)) [some d, some f.d, some g.d, some .none, some .none, none, none, none, none] = .ok .nx [some d, some f.d, some g.d, some .none, some .none, none, none, none, none] := by
      simp [isNoneD]
    rw [sqT_eq, s1, sqK_nx, sqT_eq, s2, sqK_nx, sqT_eq, s3, sqK_nx, sqT_eq, l1, endK_rt]
    simp [l2]
  · have wr := write_eq nf.ok hc0
    obtain ⟨dg, dg0, lg, g1, g2, g3, g4, g5⟩ := read_lost ng.ok (by rw [hb]; exact wi) (by omega) c0
    have hlg : lg = true := by
      cases lg with
      | true => rfl
      | false => exact absurd (g5.mp rfl) hlost
    subst hlg
    obtain ⟨d', ρ', l1, l2, l3⟩ := loop (coD c0) (sgD (writ f c0)) (fun c hc hl hi hne => by
      refine ⟨rfl, _, len_sg (writ f c0), ?_⟩
      have gl := (goal_iff (g := g) nf.ok (writ f c)).mpr (by
        obtain ⟨st, r, he⟩ := file_run nf.ok (writF_ok nf.ok hc)
        have r : Run f (first f) [] (writ f c) st (content f c) := r
        rw [content_con hc] at r
        exact ⟨alw_writ nf.ok hc, st, c, r, he, hne⟩)
      have hB2 : ((f.base.toNat : Nat) : Int) = f.base := by have := nf.ok.b2; omega
      have q1 : ∀ s ∈ writ f c0, 0 ≤ s ∧ s < ((f.base.toNat : Nat) : Int) := fun s hs => by rw [hB2]; exact wi s hs
      have q2 : ∀ s ∈ writ f c, 0 ≤ s ∧ s < ((f.base.toNat : Nat) : Int) := fun s hs => by rw [hB2]; exact hi s hs
      exact no_more (B := f.base.toNat) (by have := nf.ok.b2; omega) q1 q2 (F.2.2 _ gl))
    refine ⟨d', ?_, l3⟩
    have s1 : asgT 3 (callT [none, none] S_relayed (consT (varT 1) (consT (varT 2) (nilT)))) [some d, some f.d, some g.d, none, none, none, none, none, none] = .ok .nx [some d, some f.d, some g.d, some (coD c0), none, none, none, none, none] := by
      simp [e]
    have cn : isNoneD (coD c0) = false := rfl
    have s2 : asgT 4 (ifT (isB (Z.binT isD (varT 3) (cT .none))) (cT .none) (callT [none, none] S_write (consT (varT 1) (consT (varT 3) (nilT))))) [some d, some f.d, some g.d, some (coD c0), none, none, none, none, none] = .ok .nx [some d, some f.d, some g.d, some (coD c0), some (sgD (writ f c0)), none, none, none, none] := by
      simp [cn, wr]
    have s3 : (ifT (andT (isB (Z.binT isNotD (varT 3) (cT .none))) (isB (Z.binT eqD (Z.binT idxD (callT [none, none] S__law_reading (consT (varT 2) (consT (varT 4) (nilT)))) (cT (.int 0))) (varT 3)))) (retT (cT (.bool false))) (nxT)) [some d, some f.d, some g.d, some (coD c0), some (sgD (writ f c0)), none, none, none, none] = .ok .nx [some d, some f.d, some g.d, some (coD c0), some (sgD (writ f c0)), none, none, none, none] := by
      simp [cn, g1, g2, g4]
    rw [sqT_eq, s1, sqK_nx, sqT_eq, s2, sqK_nx, sqT_eq, s3, sqK_nx, sqT_eq, l1, endK_rt]
    simp [l2]
end K66

/-! file K66G2 -/
set_option Elab.async false
set_option linter.all false
set_option autoImplicit false
set_option maxRecDepth 100000
set_option maxHeartbeats 4000000
namespace K66
open PySem PySem.Spec L2 Z Bf
def lastF : Fmt := ⟨4, [], .one, 3, [(0, .stop), (1, .keep), (2, .keep)], false⟩
def lastG : Fmt := ⟨4, [], .one, 2, [(0, .stop), (1, .keep), (2, .keep)], false⟩
theorem last_eq : S_relayed [lastF.d, lastG.d] = .ok (coD [(1, [0, 0, 0])]) [] := by kernel_rfl
def TOne : Rho → Out Rho Flw := (sqT (asgT 2 (callT [none, none] S__law_bag (consT (varT 0) (consT (varT 1) (nilT))))) (sqT (tgtT (tupG 2 (consG (setG 3) (consG (setG 4) (nilG)))) (callT [some 2, none, none, none] S__law_some_forms (ownT 2 (consT (Z.binT addD (cT (.int 2)) (callT [some 2, none] S__law_grab (ownT 2 (consT (cT (.int 3)) (nilT))))) (consT (cT (.int 2)) (consT (lstT (consT (cT (.int 4)) (consT (cT (.int 5)) (consT (cT (.int 4)) (nilT))))) (nilT))))))) (sqT (ifT (isB (Z.binT eqD (callT [some 2, none] S__law_grab (ownT 2 (consT (cT (.int 3)) (nilT)))) (cT (.int 0)))) (asgT 4 (Z.binT addD (Z.binT addD (slcT (varT 3) (noP) (someP (cT (.int 3)))) (tupT (consT (callB maxD (consT (cT (.int 0)) (consT (Z.binT subD (Z.binT idxD (varT 3) (cT (.int 3))) (cT (.int 1))) (nilT)))) (nilT)))) (slcT (varT 3) (someP (cT (.int 4))) (noP)))) (nxT)) (sqT (ifT (orT (notT (isB (callT [some 2, none, none] S__law_right (ownT 2 (consT (varT 3) (consT (varT 4) (nilT))))))) (notT (isB (callT [some 2, none, none] S__law_right (ownT 2 (consT (varT 4) (consT (varT 3) (nilT)))))))) (retT (cT (.bool false))) (nxT)) (nxT)))))
def lessF (f : Fmt) : Fmt := { f with most := max 0 (f.most - 1) }
theorem less_nf {b : Int} {f : Fmt} (h : NF b f) : NF b (lessF f) := by
  obtain ⟨ok, hb, m5, h4⟩ := h
  exact ⟨⟨ok.b2, ok.b256, ok.hd, ok.hl, by show 0 ≤ max 0 (f.most - 1); omega, ok.tg, ok.so, ok.tl⟩, hb, by show max 0 (f.most - 1) ≤ 5; omega, h4⟩
theorem one_turn (ns : List Int) (i : Int) (h0 : 0 ≤ i) (h1 : i ≤ 100) (a2 a3 a4 a5 : Option D) : ∃ b2 b3 b4, TOne [some (.list (ns.map .int)), some (.int i), a2, a3, a4, a5] = .ok .nx [some (.list (ns.map .int)), some (.int i), b2, b3, b4, a5] := by
  obtain ⟨d0, e0, k0⟩ := bag_eq ns i h0 h1
  obtain ⟨v, d1, e1, v0, v1, k1⟩ := grab_eq k0 (by omega) 3 (by decide) (by decide)
  obtain ⟨f, g, d2, e2, nf, ng, k2⟩ := some_forms_eq k1 (by omega) (show 2 ≤ 2 + v by omega) (by omega)
  obtain ⟨u, d3, e3, u0, u1, k3⟩ := grab_eq k2 (by omega) 3 (by decide) (by decide)
  obtain ⟨X, hX⟩ : ∃ X, X = PyData.list (ns.map .int) := ⟨_, rfl⟩
  rw [← hX] at e0 ⊢
  have s1 : asgT 2 (callT [none, none] S__law_bag (consT (varT 0) (consT (varT 1) (nilT)))) [some X, some (.int i), a2, a3, a4, a5] = .ok .nx [some X, some (.int i), some d0, a3, a4, a5] := by
    simp [e0]
  have s2 : (tgtT (tupG 2 (consG (setG 3) (consG (setG 4) (nilG)))) (callT [some 2, none, none, none] S__law_some_forms (ownT 2 (consT (Z.binT addD (cT (.int 2)) (callT [some 2, none] S__law_grab (ownT 2 (consT (cT (.int 3)) (nilT))))) (consT (cT (.int 2)) (consT (lstT (consT (cT (.int 4)) (consT (cT (.int 5)) (consT (cT (.int 4)) (nilT))))) (nilT)))))) : Rho → Out Rho Flw) [some X, some (.int i), some d0, a3, a4, a5] = .ok .nx [some X, some (.int i), some d2, some f.d, some g.d, a5] := by
    simp [e1, e2]
  have s3 : ∃ g', NF (2 + v) g' ∧ (ifT (isB (Z.binT eqD (callT [some 2, none] S__law_grab (ownT 2 (consT (cT (.int 3)) (nilT)))) (cT (.int 0)))) (asgT 4 (Z.binT addD (Z.binT addD (slcT (varT 3) (noP) (someP (cT (.int 3)))) (tupT (consT (callB maxD (consT (cT (.int 0)) (consT (Z.binT subD (Z.binT idxD (varT 3) (cT (.int 3))) (cT (.int 1))) (nilT)))) (nilT)))) (slcT (varT 3) (someP (cT (.int 4))) (noP)))) (nxT)) [some X, some (.int i), some d2, some f.d, some g.d, a5] = .ok .nx [some X, some (.int i), some d3, some f.d, some g'.d, a5] := by
    by_cases c : u = 0
    · refine ⟨lessF f, less_nf nf, ?_⟩
      have c1 : slcD f.d none (some 3) = some (.tuple [.int f.base, .tuple (f.head.map mkD), .str f.width.s]) := cutT_to _ 3
      have c2 : slcD f.d (some 4) none = some (.tuple [.tuple (f.tags.map tgD), .str (if f.rest then "skip" else "refuse")]) := cutT_from _ 4
      obtain ⟨mx, hmx⟩ : ∃ mx : Int, mx = max 0 (f.most - 1) := ⟨_, rfl⟩
      have c3 : maxD [.int 0, .int (f.most - 1)] = some (.int mx) := by
        rw [maxD_int, hmx]
        congr 2
        split <;> omega
      have c4 : (lessF f).d = .tuple [.int f.base, .tuple (f.head.map mkD), .str f.width.s, .int mx, .tuple (f.tags.map tgD), .str (if f.rest then "skip" else "refuse")] := by
        rw [hmx]; rfl
      have c5 : addD (.tuple [.int f.base, .tuple (f.head.map mkD), .str f.width.s]) (.tuple [.int mx]) = some (.tuple [.int f.base, .tuple (f.head.map mkD), .str f.width.s, .int mx]) := addT _ _ (by simp)
      have c6 : addD (.tuple [.int f.base, .tuple (f.head.map mkD), .str f.width.s, .int mx]) (.tuple [.tuple (f.tags.map tgD), .str (if f.rest then "skip" else "refuse")]) = some (lessF f).d := by
        rw [c4]; exact addT _ _ (by simp)
      have c7 := fd3 f
      obtain ⟨FD, hFD⟩ : ∃ FD, FD = f.d := ⟨_, rfl⟩
      rw [← hFD] at c1 c2 c7 ⊢
      simp [e3, c, c1, c2, c3, c5, c6, c7, -maxD_int]
    · exact ⟨g, ng, by simp [e3, c]⟩
  obtain ⟨g', ng', s3⟩ := s3
  obtain ⟨d4, e4, k4⟩ := right_eq (by omega) (by omega) nf ng' k3 (by omega)
  obtain ⟨d5, e5, k5⟩ := right_eq (by omega) (by omega) ng' nf k4 (by omega)
  have s4 : (orT (notT (isB (callT [some 2, none, none] S__law_right (ownT 2 (consT (varT 3) (consT (varT 4) (nilT))))))) (notT (isB (callT [some 2, none, none] S__law_right (ownT 2 (consT (varT 4) (consT (varT 3) (nilT)))))))) [some X, some (.int i), some d3, some f.d, some g'.d, a5] = .ok false [some X, some (.int i), some d5, some f.d, some g'.d, a5] := by
    simp [e4, e5]
  exact ⟨_, _, _, by rw [TOne, sqT_eq, s1, sqK_nx, sqT_eq, s2, sqK_nx, sqT_eq, s3, sqK_nx, sqT_eq, ifT_eq, s4, bind_ok, if_neg (by decide), nxT_eq, sqK_nx, nxT_eq]⟩
theorem plain (ns : List Int) (h : ns.length ≤ 63) : ∃ os, S_law [.list (ns.map .int)] = .ok (.bool true) os := by
  have hT : T_law = sqT (forS (rngT rng1D (consT (callB maxD (consT (cT (.int 1)) (consT (callB minD (consT (callB lenD (consT (varT 0) (nilT))) (consT (cT (.int 8)) (nilT)))) (nilT)))) (nilT))) (setG 1) TOne) (sqT (asgT 5 (tupT (consT (tupT (consT (cT (.int 0)) (consT (cT (.str ("stop" : Str))) (nilT)))) (consT (tupT (consT (cT (.int 1)) (consT (cT (.str ("keep" : Str))) (nilT)))) (consT (tupT (consT (cT (.int 2)) (consT (cT (.str ("keep" : Str))) (nilT)))) (nilT)))))) (retT (Z.binT eqD (callT [none, none] S_relayed (consT (tupT (consT (cT (.int 4)) (consT (tupT (nilT)) (consT (cT (.str ("one" : Str))) (consT (cT (.int 3)) (consT (varT 5) (consT (cT (.str ("refuse" : Str))) (nilT)))))))) (consT (tupT (consT (cT (.int 4)) (consT (tupT (nilT)) (consT (cT (.str ("one" : Str))) (consT (cT (.int 2)) (consT (varT 5) (consT (cT (.str ("refuse" : Str))) (nilT)))))))) (nilT)))) (tupT (consT (tupT (consT (cT (.int 1)) (consT (tupT (consT (cT (.int 0)) (consT (cT (.int 0)) (consT (cT (.int 0)) (nilT))))) (nilT)))) (nilT)))))) := rfl
  simp only [S_law, runF_eq, rho0]
  rw [hT]
  obtain ⟨m, hm, hm0, hm1⟩ : ∃ m : Int, maxD [.int 1, .int (if (8 : Int) < (ns.length : Int) then 8 else (ns.length : Int))] = some (.int m) ∧ 0 ≤ m ∧ m ≤ 8 := by
    refine ⟨_, maxD_int _ _, ?_, ?_⟩
    · split <;> split <;> omega
    · split <;> split <;> omega
  have rg := rng_nat m hm0 (by omega)
  have lp := forT_inv (g := setG 1) (tb := TOne) (fun i : Nat => PyData.int (i : Int))
    (fun (rest : List Nat) (ρ : Rho) => ∃ a1 a2 a3 a4, ρ = [some (.list (ns.map .int)), a1, a2, a3, a4, none] ∧ ∀ i ∈ rest, i < 8)
    (fun _ => False) (fun _ _ => False) (by
      rintro i rest ρ ⟨a1, a2, a3, a4, rfl, hr⟩
      have hi := hr i (List.mem_cons_self ..)
      obtain ⟨b2, b3, b4, e⟩ := one_turn ns (i : Int) (by omega) (by omega) a2 a3 a4 none
      exact ⟨[some (.list (ns.map .int)), some (.int (i : Int)), a2, a3, a4, none], rfl, .inl ⟨_, .inl e, _, _, _, _, rfl, fun j hj => hr j (List.mem_cons_of_mem _ hj)⟩⟩)
    (List.range m.toNat) [some (.list (ns.map .int)), none, none, none, none, none] ⟨none, none, none, none, rfl, fun i hi => by have := List.mem_range.mp hi; omega⟩
  have e0 : (List.map some [PyData.list (ns.map .int)] ++ List.replicate (6 - [PyData.list (ns.map .int)].length) none) = [some (.list (ns.map .int)), none, none, none, none, none] := rfl
  rw [e0]
  rcases lp with ⟨ρ', e3, hI | hF⟩ | ⟨_, _, _, hF⟩
  · obtain ⟨a1, a2, a3, a4, rfl, _⟩ := hI
    have hl : lenD [PyData.list (ns.map .int)] = some (.int ns.length) := by simp
    obtain ⟨X, hX⟩ : ∃ X, X = PyData.list (ns.map .int) := ⟨_, rfl⟩
    rw [← hX] at e3 hl ⊢
    obtain ⟨nn, hnn⟩ : ∃ nn : Int, nn = (ns.length : Int) := ⟨_, rfl⟩
    rw [← hnn] at hl hm
    have hm' : maxD [.int 1, .int (if (8 : Int) < nn then 8 else nn)] = some (.int m) := hm
    have t2 : (rngT rng1D (consT (callB maxD (consT (cT (.int 1)) (consT (callB minD (consT (callB lenD (consT (varT 0) (nilT))) (consT (cT (.int 8)) (nilT)))) (nilT)))) (nilT))) [some X, none, none, none, none, none] = .ok ((List.range m.toNat).map fun i : Nat => PyData.int (i : Int)) [some X, none, none, none, none, none] := by
      simp [hl, hm', rg, -maxD_int]
    have t3 : asgT 5 (tupT (consT (tupT (consT (cT (.int 0)) (consT (cT (.str ("stop" : Str))) (nilT)))) (consT (tupT (consT (cT (.int 1)) (consT (cT (.str ("keep" : Str))) (nilT)))) (consT (tupT (consT (cT (.int 2)) (consT (cT (.str ("keep" : Str))) (nilT)))) (nilT))))) [some X, a1, a2, a3, a4, none] = .ok .nx [some X, a1, a2, a3, a4, some (.tuple (lastF.tags.map tgD))] := by
      simp [lastF, tgD, Use.s]
    have l1 := last_eq
    have l2 : lastF.d = .tuple [.int 4, .tuple [], .str "one", .int 3, .tuple (lastF.tags.map tgD), .str "refuse"] := rfl
    have l3 : lastG.d = .tuple [.int 4, .tuple [], .str "one", .int 2, .tuple (lastF.tags.map tgD), .str "refuse"] := rfl
    have l4 : eqD (coD [(1, [0, 0, 0])]) (.tuple [.tuple [.int 1, .tuple [.int 0, .int 0, .int 0]]]) = some (.bool true) := eq_cod [(1, [0, 0, 0])] [(1, [0, 0, 0])]
    have t4 : (retT (Z.binT eqD (callT [none, none] S_relayed (consT (tupT (consT (cT (.int 4)) (consT (tupT (nilT)) (consT (cT (.str ("one" : Str))) (consT (cT (.int 3)) (consT (varT 5) (consT (cT (.str ("refuse" : Str))) (nilT)))))))) (consT (tupT (consT (cT (.int 4)) (consT (tupT (nilT)) (consT (cT (.str ("one" : Str))) (consT (cT (.int 2)) (consT (varT 5) (consT (cT (.str ("refuse" : Str))) (nilT)))))))) (nilT)))) (tupT (consT (tupT (consT (cT (.int 1)) (consT (tupT (consT (cT (.int 0)) (consT (cT (.int 0)) (consT (cT (.int 0)) (nilT))))) (nilT)))) (nilT))))) [some X, a1, a2, a3, a4, some (.tuple (lastF.tags.map tgD))] = .ok (.rt (.bool true)) [some X, a1, a2, a3, a4, some (.tuple (lastF.tags.map tgD))] := by
      rw [l2, l3] at l1
      obtain ⟨TG, hTG⟩ : ∃ TG, TG = PyData.tuple (lastF.tags.map tgD) := ⟨_, rfl⟩
      rw [← hTG] at l1 ⊢
      obtain ⟨C, hC⟩ : ∃ C, C = coD [(1, [0, 0, 0])] := ⟨_, rfl⟩
      rw [← hC] at l1 l4
      simp [l1, l4]
    refine ⟨[], ?_⟩
    rw [sqT_eq, forS_eq, t2, bind_ok, e3, sqK_nx, sqT_eq, t3, sqK_nx, t4]
    rfl
  · exact hF.elim
  · exact hF.elim
end K66

/-! file K66End -/
set_option Elab.async false
set_option linter.all false
set_option autoImplicit false
set_option maxRecDepth 100000
set_option maxHeartbeats 0
namespace K66
open PySem PySem.Spec PyProof.Rows L2 Z
abbrev R : PySem.W.OpenRow := PySem.W.OpenLaw.row PySem.Challenge.rw_bothreaders_k66_least_contents_relayed
abbrev hk : PySem.W.Hook := hookZ 5 fnL exB
def ob (s : PySem.W.SharedT) : He.AlD := obsZG 5 fnL exB (HandSHeadRun.getT s)
theorem ob_eq (s : PySem.W.SharedT) : ob s = hk.obs s.abs := obsZG_eq (HandSHeadRun.getT_eq s)
theorem run (w : World) : HandSHeadRun.RunEq R (PySem.W.view R.prog [82]) hk ob 8000 loose w := fun os => by kernel_rfl
end K66
open PySem PySem.W PySem.Calls PyProof.Rows
theorem PySem.Challenge.cw_bothreaders_k66_least_contents_relayed_holds : PySem.Challenge.rw_bothreaders_k66_least_contents_relayed.Holds := by
  w_on; o_law
  refine HandSHeadRun.head_any (r := K66.R) (q := view K66.R.prog [82]) (H := K66.hk) (ob := K66.ob) (M := 8000) (loose := K66.loose) (d := HandSHeadRun.topDef K66.R.prog 82) (kwd := []) K66.ob_eq
    (by kernel_rfl) (fun s => by kernel_rfl) K66.run (by kernel_rfl) (by kernel_rfl) (by kernel_rfl) (by rfl) (by first | assumption | decide +kernel) (by decide +kernel) ⟨rfl, rfl, rfl, rfl, rfl, by decide +kernel⟩ ?hw ?hc
  case hw => w_witness2
  case hc =>
    refine Z.walkZ (l := PySem.Challenge.rw_bothreaders_k66_least_contents_relayed) (n := 63) (k := 9) (x := "script") (S := K66.S_law) rfl (by decide) (by kernel_rfl) ⟨rfl, by decide, by decide⟩ (fun w mg fa h Y G hmg0 => ?_) (fun ns h _ => K66.plain ns h)
    obtain ⟨K, KX, c⟩ := Y
    have hmg : mg ("law" : PySem.Str) = some (.ref fa) := by
      have e : (HandSHeadRun.topDef K66.R.prog 82).name = ("law" : PySem.Str) := by kernel_rfl
      rw [← e]
      exact hmg0
    have e := hmg.symm.trans (@K66.law_at ⟨K66.R.prog, w⟩ _ _ _ KX G c)
    cases e
    exact ⟨K, KX, @K66.all_ok ⟨_, w⟩ K _ _ KX G c⟩

