import PyProof.Rows.All
import Wide.All
import OpenK.AllK
import Wide.FinOn
import KE.KStateDown
import KE.SortData
import Lean
import HandS.ForMost
import HandS.Defaults
import HandS.Exc
import HandS.TryOnly
import HandS.Lambda
import HandS.IsInst
import HandS.DictComp
import HandS.DictTup
import HandS.DictEq
import HandS.ListEq
import HandS.Star
import HandS.Property
import HandS.Strs
import HandS.TupSets
import HandS.SetKeys
import HandS.Deep
import HandS.Flow
import HandS.Conv
import HandS.Walk
import PySem.Challenge.RW_barelybetter_k91_whole_read_back
import HandS.TupAny
import HandS.Text
import HandS.Comp
import HandS.Iter
import HandS.Words
import HandS.SetFor
import HandS.SetBool
import HandS.More
import KE.KDictSum
import PyProof.TupleOfSeq
import HandS.Set
import KE.KDictWalk
import KE.IntTextLaws
import HandS.OwnEq
import PyProof.ReprRoads
import KE.KEqNest
import HandS.Style
import HandS.EndBits
import HandS.HeadEnd
import HandS.HeadHook1
import HandS.HeadHook2
import HandS.HeadHook3
import HandS.HeadHook4
import HandS.Head0
import HandS.Head1
import HandS.Head2
import HandS.EndTab
set_option Elab.async false
set_option linter.all false
set_option maxRecDepth 100000
set_option maxHeartbeats 1000000
namespace DL
open PySem PySem.Spec PyProof.Rows L2

/-! ### data -/
inductive D where
  | non | bl (b : Bool) | int (i : Int) | str (x : Str) | lst (xs : List D) | tup (xs : List D)
  | dk (kvs : List (Key × D)) | dt (kvs : List (List Key × D)) | ob (C : Addr) (fs : List (Str × D)) | raw (v : V)

/-- a tuple stands there: it is tracked, or it is the empty one of the written part -/
def TupAt (K : PySem.W.Frag) (G : Hp) (a : Addr) (vs : List V) : Prop := G a = some (.tup vs) ∨ (vs = [] ∧ SqT K G a [])
theorem TupAt.sq {K : PySem.W.Frag} {G : Hp} {a : Addr} {vs : List V} (h : TupAt K G a vs) : SqT K G a vs := by
  rcases h with h | ⟨rfl, h⟩
  · exact SqT.of h
  · exact h
mutual
/-- the value stands for the data, by what is known of the heap -/
inductive Dt (K : PySem.W.Frag) (G : Hp) : V → D → Prop
  | non : Dt K G .non .non
  | bl (b : Bool) : Dt K G (.bl b) (.bl b)
  | int (i : Int) : Dt K G (.int i) (.int i)
  | str (x : Str) : Dt K G (.str x) (.str x)
  | lst {a : Addr} {vs : List V} {ds : List D} : G a = some (.lst vs) → Dts K G vs ds → Dt K G (.ref a) (.lst ds)
  | tup {a : Addr} {vs : List V} {ds : List D} : TupAt K G a vs → Dts K G vs ds → Dt K G (.ref a) (.tup ds)
  | dk {a : Addr} {kvs : List (Key × V)} {ds : List (Key × D)} : Rd G a (.dK kvs) → kvs.map (·.1) = ds.map (·.1) → Dts K G (kvs.map (·.2)) (ds.map (·.2)) → Dt K G (.ref a) (.dk ds)
  | dt {a : Addr} {kvs : List (List Key × V)} {ds : List (List Key × D)} : Rd G a (.dT kvs) → kvs.map (·.1) = ds.map (·.1) → Dts K G (kvs.map (·.2)) (ds.map (·.2)) → Dt K G (.ref a) (.dt ds)
  | ob {a C dx : Addr} {fs : List (Str × V)} {ds : List (Str × D)} : G a = some (.ins C dx fs) → fs.map (·.1) = ds.map (·.1) → Dts K G (fs.map (·.2)) (ds.map (·.2)) → Dt K G (.ref a) (.ob C ds)
  | raw (v : V) : Dt K G v (.raw v)
inductive Dts (K : PySem.W.Frag) (G : Hp) : List V → List D → Prop
  | nil : Dts K G [] []
  | cons {v : V} {d : D} {vs : List V} {ds : List D} : Dt K G v d → Dts K G vs ds → Dts K G (v :: vs) (d :: ds)
end

theorem same_t {K : PySem.W.Frag} {G G' : Hp} {a : Addr} {xs : List V} (e : Same G G') (h : SqT K G a xs) : SqT K G' a xs := by
  rcases h with (h | ⟨o, h⟩) | h
  · exact .inl (.inl (e _ _ h))
  · exact .inl (.inr ⟨o, e _ _ h⟩)
  · exact .inr h

theorem same_rd {G G' : Hp} {a : Addr} {u : HO} (e : Same G G') (h : Rd G a u) : Rd G' a u := by
  rcases h with h | ⟨o, h⟩
  · exact .inl (e _ _ h)
  · exact .inr ⟨o, e _ _ h⟩
theorem TupAt.mono {K : PySem.W.Frag} {G G' : Hp} {a : Addr} {xs : List V} (e : Same G G') (h : TupAt K G a xs) : TupAt K G' a xs := by
  rcases h with h | ⟨r, h⟩
  · exact .inl (e _ _ h)
  · exact .inr ⟨r, same_t e h⟩
mutual
theorem Dt.mono {K : PySem.W.Frag} {G G' : Hp} (e : Same G G') : ∀ {v : V} {d : D}, Dt K G v d → Dt K G' v d
  | _, _, .non => .non
  | _, _, .bl b => .bl b
  | _, _, .int i => .int i
  | _, _, .str x => .str x
  | _, _, .lst h t => .lst (e _ _ h) (Dts.mono e t)
  | _, _, .tup h t => .tup (h.mono e) (Dts.mono e t)
  | _, _, .dk h k t => .dk (same_rd e h) k (Dts.mono e t)
  | _, _, .dt h k t => .dt (same_rd e h) k (Dts.mono e t)
  | _, _, .ob h k t => .ob (e _ _ h) k (Dts.mono e t)
  | _, _, .raw v => .raw v
theorem Dts.mono {K : PySem.W.Frag} {G G' : Hp} (e : Same G G') : ∀ {vs : List V} {ds : List D}, Dts K G vs ds → Dts K G' vs ds
  | _, _, .nil => .nil
  | _, _, .cons h t => .cons (Dt.mono e h) (Dts.mono e t)
end

section
variable {K : PySem.W.Frag} {G : Hp}
theorem Dts.length : ∀ {vs : List V} {ds : List D}, Dts K G vs ds → vs.length = ds.length
  | _, _, .nil => rfl
  | _, _, .cons _ t => congrArg (· + 1) t.length
theorem Dts.get : ∀ {vs : List V} {ds : List D} {i : Nat} {d : D}, Dts K G vs ds → ds[i]? = some d → ∃ v, vs[i]? = some v ∧ Dt K G v d
  | _, _, _, _, .nil, e => by simp at e
  | _, _, 0, _, .cons h _, e => by simp at e; subst e; exact ⟨_, rfl, h⟩
  | _, _, i + 1, _, .cons _ t, e => by simpa using Dts.get t (by simpa using e)
theorem Dts.get' : ∀ {vs : List V} {ds : List D} {i : Nat} {v : V}, Dts K G vs ds → vs[i]? = some v → ∃ d, ds[i]? = some d ∧ Dt K G v d
  | _, _, _, _, .nil, e => by simp at e
  | _, _, 0, _, .cons h _, e => by simp at e; subst e; exact ⟨_, rfl, h⟩
  | _, _, i + 1, _, .cons _ t, e => by simpa using Dts.get' t (by simpa using e)
theorem Dts.append : ∀ {vs ws : List V} {ds es : List D}, Dts K G vs ds → Dts K G ws es → Dts K G (vs ++ ws) (ds ++ es)
  | _, _, _, _, .nil, s => s
  | _, _, _, _, .cons h t, s => .cons h (t.append s)
theorem Dts.take : ∀ {vs : List V} {ds : List D} (n : Nat), Dts K G vs ds → Dts K G (vs.take n) (ds.take n)
  | _, _, 0, _ => .nil
  | _, _, _ + 1, .nil => .nil
  | _, _, n + 1, .cons h t => .cons h (t.take n)
theorem Dts.drop : ∀ {vs : List V} {ds : List D} (n : Nat), Dts K G vs ds → Dts K G (vs.drop n) (ds.drop n)
  | _, _, 0, t => t
  | _, _, _ + 1, .nil => .nil
  | _, _, n + 1, .cons _ t => Dts.drop n t
theorem Dts.of_get : ∀ {vs : List V} {ds : List D}, vs.length = ds.length → (∀ (i : Nat) (v : V) (d : D), vs[i]? = some v → ds[i]? = some d → Dt K G v d) → Dts K G vs ds
  | [], [], _, _ => .nil
  | [], _ :: _, h, _ => by simp at h
  | _ :: _, [], h, _ => by simp at h
  | v :: vs, d :: ds, h, f => .cons (f 0 v d rfl rfl) (Dts.of_get (by simpa using h) fun i w e h1 h2 => f (i + 1) w e (by simpa using h1) (by simpa using h2))
/-- texts -/
theorem Dts.strs : ∀ {vs : List V} {xs : List Str}, Dts K G vs (xs.map D.str) → vs = xs.map V.str
  | _, [], h => by cases h; rfl
  | _, x :: xs, h => by
    cases h with
    | cons h t => cases h; rw [Dts.strs t]; rfl
theorem dts_strs : ∀ (xs : List Str), Dts K G (xs.map V.str) (xs.map D.str)
  | [] => .nil
  | x :: xs => .cons (.str x) (dts_strs xs)
theorem Dts.bls : ∀ {vs : List V} {xs : List Bool}, Dts K G vs (xs.map D.bl) → vs = xs.map V.bl
  | _, [], h => by cases h; rfl
  | _, x :: xs, h => by
    cases h with
    | cons h t => cases h; rw [Dts.bls t]; rfl
theorem Dts.ints : ∀ {vs : List V} {xs : List Int}, Dts K G vs (xs.map D.int) → vs = xs.map V.int
  | _, [], h => by cases h; rfl
  | _, x :: xs, h => by
    cases h with
    | cons h t => cases h; rw [Dts.ints t]; rfl
theorem dts_ints : ∀ (xs : List Int), Dts K G (xs.map V.int) (xs.map D.int)
  | [] => .nil
  | x :: xs => .cons (.int x) (dts_ints xs)
end

/-! ### the slots -/
def Sl (K : PySem.W.Frag) (G : Hp) (σ : L2.St) (ds : List (Option D)) : Prop := σ.length = ds.length ∧ ∀ (i : Nat) (d : D), ds[i]? = some (some d) → ∃ v, σ[i]? = some (some v) ∧ Dt K G v d
section
variable {K : PySem.W.Frag} {G G' : Hp} {σ : L2.St} {ds : List (Option D)}
theorem Sl.mono (e : Same G G') (h : Sl K G σ ds) : Sl K G' σ ds := ⟨h.1, fun i d hd => let ⟨v, a, b⟩ := h.2 i d hd; ⟨v, a, b.mono e⟩⟩
theorem Sl.set (h : Sl K G σ ds) (i : Nat) {v : V} {d : D} (hd : Dt K G v d) : Sl K G (σ.set i (some v)) (ds.set i (some d)) := by
  refine ⟨by rw [List.length_set, List.length_set]; exact h.1, fun j e he => ?_⟩
  by_cases hj : i = j
  · subst hj
    have hl : i < ds.length := by
      have := (List.getElem?_eq_some_iff.mp he).1
      rwa [List.length_set] at this
    rw [List.getElem?_set_self hl] at he
    cases he
    exact ⟨v, by rw [List.getElem?_set_self (by rw [h.1]; exact hl)], hd⟩
  · rw [List.getElem?_set_ne hj] at he
    rw [List.getElem?_set_ne hj]
    exact h.2 j e he
theorem Sl.forget (h : Sl K G σ ds) {ds' : List (Option D)} (hl : ds'.length = ds.length) (hs : ∀ (i : Nat) (d : D), ds'[i]? = some (some d) → ds[i]? = some (some d)) : Sl K G σ ds' :=
  ⟨h.1.trans hl.symm, fun i d hd => h.2 i d (hs i d hd)⟩
theorem Sl.start {N : List Str} {vs : List V} {es : List D} (h : Dts K G vs es) : Sl K G (L2.start N vs) (es.map some ++ List.replicate (N.length - es.length) none) := by
  refine ⟨by simp [L2.start, h.length], fun i d hd => ?_⟩
  unfold L2.start
  by_cases hi : i < es.length
  · rw [List.getElem?_append_left (by simpa using hi), List.getElem?_map] at hd
    cases e : es[i]? with
    | none => rw [e] at hd; simp at hd
    | some x =>
      rw [e] at hd
      simp only [Option.map_some, Option.some.injEq] at hd
      subst hd
      obtain ⟨v, hv, hd⟩ := h.get e
      exact ⟨v, by rw [List.getElem?_append_left (by simpa [h.length] using hi), List.getElem?_map, hv]; rfl, hd⟩
  · rw [List.getElem?_append_right (by simpa using hi)] at hd
    rw [List.getElem?_replicate] at hd
    split at hd <;> simp at hd
end
/-- the slots of a comprehension's own names forgotten -/
def wipeD (ds : List (Option D)) : List Nat → List (Option D)
  | [] => ds
  | i :: is => (wipeD ds is).set i none
theorem wipe_at : ∀ (vs : List Nat) (σ : L2.St) (i : Nat), (wipe σ vs)[i]? = if i ∈ vs ∧ i < σ.length then some none else σ[i]?
  | [], σ, i => by simp [wipe]
  | j :: vs, σ, i => by
    show ((wipe σ vs).set j none)[i]? = _
    by_cases e : j = i
    · subst e
      by_cases hl : j < σ.length
      · rw [List.getElem?_set_self (by rw [wipe_length]; exact hl), if_pos ⟨List.mem_cons_self, hl⟩]
      · rw [if_neg (fun z => hl z.2), List.getElem?_eq_none_iff.mpr (by rw [List.length_set, wipe_length]; omega), List.getElem?_eq_none_iff.mpr (by omega)]
    · rw [List.getElem?_set_ne e, wipe_at vs σ i]
      have h : (i ∈ j :: vs ∧ i < σ.length) ↔ (i ∈ vs ∧ i < σ.length) := by
        rw [List.mem_cons]
        constructor
        · rintro ⟨z | z, h⟩
          · exact absurd z.symm e
          · exact ⟨z, h⟩
        · rintro ⟨z, h⟩
          exact ⟨.inr z, h⟩
      simp only [h]
theorem wipeD_length (ds : List (Option D)) : ∀ vs : List Nat, (wipeD ds vs).length = ds.length
  | [] => rfl
  | i :: is => by show ((wipeD ds is).set i none).length = _; rw [List.length_set, wipeD_length ds is]
theorem wipeD_some {ds : List (Option D)} {i : Nat} {d : D} : ∀ {vs : List Nat}, (wipeD ds vs)[i]? = some (some d) → ds[i]? = some (some d) ∧ i ∉ vs
  | [], h => ⟨h, by simp⟩
  | j :: vs, h => by
    have h : ((wipeD ds vs).set j none)[i]? = some (some d) := h
    by_cases e : j = i
    · subst e
      by_cases hl : j < (wipeD ds vs).length
      · rw [List.getElem?_set_self hl] at h; simp at h
      · rw [List.getElem?_eq_none_iff.mpr (by rw [List.length_set]; omega)] at h; simp at h
    · rw [List.getElem?_set_ne e] at h
      obtain ⟨h1, h2⟩ := wipeD_some h
      exact ⟨h1, by rw [List.mem_cons]; rintro (z | z); exact e z.symm; exact h2 z⟩
theorem Sl.wipe {K : PySem.W.Frag} {G : Hp} {σ : L2.St} {ds : List (Option D)} (h : Sl K G σ ds) (vs : List Nat) : Sl K G (wipe σ vs) (wipeD ds vs) := by
  refine ⟨by rw [wipe_length, wipeD_length]; exact h.1, fun i d hd => ?_⟩
  obtain ⟨h1, h2⟩ := wipeD_some hd
  obtain ⟨v, hv, hdt⟩ := h.2 i d h1
  exact ⟨v, by rw [wipe_at, if_neg (fun z => h2 z.1)]; exact hv, hdt⟩

/-! ### what may change besides: the law's bag, the tables of code objects -/
structure Mu where
  bag : Option Addr := none
  scr : Addr := 0
  tab : List (Addr × Str) := []
abbrev mu0 : Mu := ⟨none, 0, []⟩
def Bag (b c : Addr) (H : Hp) : Prop := ∃ (n m k : Int) (ns : List Int), H b = some (.lst [.int n, .int m, .int k, .ref c]) ∧ H c = some (.lst (ns.map V.int)) ∧ c ≠ b ∧ 0 ≤ n ∧ 0 ≤ m ∧ m < 2147483647 ∧ 0 ≤ k ∧ (∀ z ∈ ns, (0 : Int) ≤ z) ∧ ns.length ≤ 63
/-- what never changes, or only grows -/
def Imm (o : HO) : Prop := (∃ ps, o = .tbl ps) ∨ ∃ xs, o = .tup xs
theorem imm_lst {xs : List V} : ¬ Imm (.lst xs) := by rintro (⟨_, z⟩ | ⟨_, z⟩) <;> cases z
structure Ok (M : Mu) (G H : Hp) : Prop where
  sub : Same G H
  bag : ∀ b, M.bag = some b → G b = none ∧ Bag b M.scr H
  tab : LamX.Tabs M.tab H
  ntb : ∀ a ps, G a ≠ some (.tbl ps)
structure Gr (M : Mu) (G H G' H' : Hp) : Prop where
  ex : Same G G'
  ok : Ok M G' H'
  fr : ∀ a o, H a = some o → M.bag ≠ some a → (M.tab ≠ [] → ∀ ps, o ≠ .tbl ps) → H' a = some o
  nw : ∀ a, G' a ≠ none → G a ≠ none ∨ ∀ o, H a = some o → Imm o
structure Le (M M' : Mu) : Prop where
  bag : M.bag = none ∨ (M.bag = M'.bag ∧ M.scr = M'.scr)
  tab : M.tab = [] ∨ M.tab = M'.tab
theorem Le.rfl' {M : Mu} : Le M M := ⟨.inr ⟨rfl, rfl⟩, .inr rfl⟩
theorem Le.zero {M : Mu} : Le mu0 M := ⟨.inl rfl, .inl rfl⟩
theorem Le.bag0 {b c : Addr} {T : List (Addr × Str)} : Le ⟨some b, c, []⟩ ⟨some b, c, T⟩ := ⟨.inr ⟨rfl, rfl⟩, .inl rfl⟩
theorem Le.tab0 {o : Option Addr} {c : Addr} {T : List (Addr × Str)} : Le ⟨none, 0, T⟩ ⟨o, c, T⟩ := ⟨.inl rfl, .inr rfl⟩
section
variable {M M' : Mu} {G H G' H' G1 H1 G2 H2 : Hp}
theorem Gr.refl (ok : Ok M G H) : Gr M G H G H := ⟨Same.refl G, ok, fun _ _ h _ _ => h, fun _ h => .inl h⟩
theorem Gr.trans (ok : Ok M G H) (a : Gr M G H G1 H1) (b : Gr M G1 H1 G2 H2) : Gr M G H G2 H2 := by
  refine ⟨a.ex.trans b.ex, b.ok, fun x o h h1 h2 => b.fr x o (a.fr x o h h1 h2) h1 h2, fun x hx => ?_⟩
  rcases b.nw x hx with h | h
  · exact a.nw x h
  · refine .inr fun o ho => ?_
    by_cases hb : M.bag = some x
    · obtain ⟨_, n, m, k, ns, e, _⟩ := a.ok.bag x hb
      exact absurd (h _ e) imm_lst
    · by_cases ht : ∃ ps, o = .tbl ps
      · exact .inl ht
      · exact h o (a.fr x o ho hb fun _ ps z => ht ⟨ps, z⟩)
theorem Ok.weaken (ok : Ok M' G H) (le : Le M M') : Ok M G H := by
  refine ⟨ok.sub, fun b hb => ?_, ?_, ok.ntb⟩
  · rcases le.bag with e | ⟨e, e2⟩
    · rw [e] at hb; cases hb
    · rw [e2]; exact ok.bag b (e ▸ hb)
  · rcases le.tab with e | e
    · rw [e]; intro p hp; cases hp
    · rw [e]; exact ok.tab
theorem Bag.lst {b c : Addr} (h : Bag b c H) : ∃ xs, H b = some (.lst xs) := let ⟨_, _, _, _, e, _⟩ := h; ⟨_, e⟩
theorem Gr.lift (g : Gr M G H G' H') (ok : Ok M' G H) (le : Le M M') : Gr M' G H G' H' := by
  have nbag : ∀ b, M'.bag = some b → M.bag = none ∨ M.bag = some b := fun b hb => by
    rcases le.bag with e | ⟨e, _⟩
    · exact .inl e
    · exact .inr (e.trans hb)
  have fr : ∀ a o, H a = some o → M'.bag ≠ some a → (M'.tab ≠ [] → ∀ ps, o ≠ .tbl ps) → H' a = some o := fun a o h h1 h2 => by
    refine g.fr a o h (fun z => ?_) fun ht => ?_
    · rcases le.bag with e | ⟨e, _⟩
      · rw [e] at z; cases z
      · exact h1 (e ▸ z)
    · rcases le.tab with e | e
      · exact absurd e ht
      · exact h2 (e ▸ ht)
  refine ⟨g.ex, ⟨g.ok.sub, fun b hb => ?_, ?_, g.ok.ntb⟩, fr, g.nw⟩
  · obtain ⟨gb, B⟩ := ok.bag b hb
    rcases nbag b hb with e | e
    · refine ⟨?_, ?_⟩
      · cases q : G' b with
        | none => rfl
        | some o =>
          rcases g.nw b (by rw [q]; simp) with z | z
          · exact absurd gb z
          · obtain ⟨xs, hx⟩ := B.lst
            exact absurd (z _ hx) imm_lst
      · obtain ⟨n, m, k, ns, e1, e2, r⟩ := B
        exact ⟨n, m, k, ns, g.fr b _ e1 (by rw [e]; simp) (fun _ ps z => by cases z), g.fr _ _ e2 (by rw [e]; simp) (fun _ ps z => by cases z), r⟩
    · have hs : M.scr = M'.scr := by
        rcases le.bag with z | ⟨_, z⟩
        · rw [z] at e; cases e
        · exact z
      rw [← hs]
      exact g.ok.bag b e
  · rcases le.tab with e | e
    · intro p hp
      obtain ⟨ps, h1, h2, h3⟩ := ok.tab p hp
      have nb : ∀ (a : Addr) (o : HO), H a = some o → (∀ xs, o ≠ .lst xs) → M.bag ≠ some a := fun a o ha ho hb => by
        rcases le.bag with z | ⟨z, _⟩
        · rw [z] at hb; cases hb
        · obtain ⟨_, B⟩ := ok.bag a (z ▸ hb)
          obtain ⟨xs, hx⟩ := B.lst
          rw [hx] at ha
          exact ho xs (Option.some.inj ha).symm
      refine ⟨ps, g.fr _ _ h1 (nb _ _ h1 fun xs z => by cases z) (fun z => absurd e z), h2, fun pos cv hc => ?_⟩
      obtain ⟨c, e1, e2⟩ := h3 pos cv hc
      exact ⟨c, e1, g.fr _ _ e2 (nb _ _ e2 fun xs z => by unfold LamX.CodeO at z; cases z) (fun z => absurd e z)⟩
    · rw [← e]; exact g.ok.tab
/-- the bag outlives a new object -/
theorem Bag.ext {b c : Addr} (B : Bag b c H) (h : ∀ a xs, H a = some (.lst xs) → H' a = some (.lst xs)) : Bag b c H' := by
  obtain ⟨n, m, k, ns, e1, e2, r⟩ := B
  exact ⟨n, m, k, ns, h _ _ e1, h _ _ e2, r⟩
/-- a new object laid, and known -/
theorem Gr.new {p : Addr} {o : HO} (ok : Ok M G H) (h : H p = none) (ho : ∀ ps, o ≠ .tbl ps) : Gr M G H (upd G p o) (upd H p o) := by
  have hG : G p = none := ok.sub.free h
  have frH : ∀ a u, H a = some u → upd H p o a = some u := fun a u e => by rw [upd_ne (ne_of_none e h)]; exact e
  refine ⟨fun a u e => by rw [upd_ne (ne_of_none e hG)]; exact e, ⟨fun a u e => ?_, fun b hb => ?_, ok.tab.ext frH, fun a ps e => ?_⟩, fun a u e _ _ => frH a u e, fun a ha => ?_⟩
  · by_cases q : a = p
    · subst q; rw [upd_same] at e ⊢; exact e
    · rw [upd_ne q] at e ⊢; exact ok.sub a u e
  · obtain ⟨gb, B⟩ := ok.bag b hb
    obtain ⟨xs, e1⟩ := B.lst
    exact ⟨by rw [upd_ne (ne_of_none e1 h)]; exact gb, B.ext fun a xs e => frH _ _ e⟩
  · by_cases q : a = p
    · subst q; rw [upd_same] at e; exact ho ps (Option.some.inj e)
    · rw [upd_ne q] at e; exact ok.ntb a ps e
  · by_cases q : a = p
    · subst q; exact .inr fun u e => by rw [h] at e; cases e
    · rw [upd_ne q] at ha; exact .inl ha
/-- a new object laid, of which nothing is kept in mind -/
theorem Gr.drop {p : Addr} {o : HO} (ok : Ok M G H) (h : H p = none) (ho : ∀ ps, o ≠ .tbl ps) : Gr M G H G (upd H p o) := by
  have frH : ∀ a u, H a = some u → upd H p o a = some u := fun a u e => by rw [upd_ne (ne_of_none e h)]; exact e
  refine ⟨Same.refl G, ⟨fun a u e => frH a u (ok.sub a u e), fun b hb => ?_, ok.tab.ext frH, ok.ntb⟩, fun a u e _ _ => frH a u e, fun a ha => .inl ha⟩
  obtain ⟨gb, B⟩ := ok.bag b hb
  exact ⟨gb, B.ext fun a xs e => frH _ _ e⟩
/-- an object laid in between, not known: it stays, unknown -/
theorem Gr.keepD {p : Addr} {o : HO} (g : Gr M G H G' H') (hG : G p = none) (hH : H p = some o) (ho : ¬ Imm o) (hb : M.bag ≠ some p) : G' p = none ∧ H' p = some o := by
  refine ⟨?_, g.fr p o hH hb fun _ ps z => ho (.inl ⟨ps, z⟩)⟩
  cases q : G' p with
  | none => rfl
  | some u =>
    rcases g.nw p (by rw [q]; simp) with z | z
    · exact absurd hG z
    · exact absurd (z o hH) ho
theorem Ok.nbag {p : Addr} (ok : Ok M G H) (h : H p = none) : M.bag ≠ some p := fun e => by
  obtain ⟨_, B⟩ := ok.bag p e
  obtain ⟨xs, hx⟩ := B.lst
  rw [h] at hx; cases hx
theorem Ok.nscr {p : Addr} (ok : Ok M G H) (h : H p = none) : M.bag ≠ none → M.scr ≠ p := fun hb e => by
  cases q : M.bag with
  | none => exact hb q
  | some b =>
    obtain ⟨_, n, m, k, ns, _, e2, _⟩ := ok.bag b q
    rw [e, h] at e2; cases e2
/-- .. it is changed -/
theorem Gr.poke {p : Addr} {o u : HO} (ok0 : Ok M G H) (g : Gr M G H G' H') (hp : H p = none) (hG : G' p = none) (hH : H' p = some o) (ho : ∀ ps, o ≠ .tbl ps) (hc : ∀ pos cv, o ≠ LamX.CodeO pos cv) : Gr M G H G' (upd H' p u) := by
  have ne : ∀ a x, H' a = some x → a ≠ p → upd H' p u a = some x := fun a x e h => by rw [upd_ne h]; exact e
  refine ⟨g.ex, ⟨fun a x e => ne a x (g.ok.sub a x e) (fun z => by rw [z, hG] at e; cases e), fun b hb => ?_, fun q hq => ?_, g.ok.ntb⟩, fun a x e h1 h2 => ne a x (g.fr a x e h1 h2) (ne_of_none e hp), g.nw⟩
  · obtain ⟨gb, n, m, k, ns, e1, e2, r⟩ := g.ok.bag b hb
    refine ⟨gb, n, m, k, ns, ne _ _ e1 (fun z => ok0.nbag hp (z ▸ hb)), ne _ _ e2 (ok0.nscr hp (by rw [hb]; simp)), r⟩
  · obtain ⟨ps, h1, h2, h3⟩ := g.ok.tab q hq
    refine ⟨ps, ne _ _ h1 (fun z => by rw [z, hH] at h1; exact ho ps (Option.some.inj h1)), h2, fun pos cv hcv => ?_⟩
    obtain ⟨c, e1, e2⟩ := h3 pos cv hcv
    exact ⟨c, e1, ne _ _ e2 (fun z => by rw [z, hH] at e2; exact hc _ _ (Option.some.inj e2))⟩
/-- all tuples known -/
def knowT (G H : Hp) : Hp := fun a => match G a with
  | some o => some o
  | none => match H a with
    | some (.tup xs) => some (.tup xs)
    | _ => none
theorem knowT_old {a : Addr} {o : HO} (h : G a = some o) : knowT G H a = some o := by unfold knowT; rw [h]
theorem knowT_tup (ss : Same G H) {a : Addr} {xs : List V} (h : H a = some (.tup xs)) : knowT G H a = some (.tup xs) := by
  unfold knowT
  cases q : G a with
  | some o =>
    have e := ss a o q
    rw [h] at e
    exact e.symm ▸ rfl
  | none => simp only [h]
theorem knowT_inv {a : Addr} {o : HO} (h : knowT G H a = some o) : G a = some o ∨ (G a = none ∧ H a = some o ∧ ∃ xs, o = .tup xs) := by
  unfold knowT at h
  cases q : G a with
  | some u => rw [q] at h; exact .inl h
  | none =>
    rw [q] at h
    dsimp only at h
    split at h
    · rename_i xs e
      cases h
      exact .inr ⟨rfl, e, xs, rfl⟩
    · cases h
theorem Gr.tups (ok : Ok M G H) : Gr M G H (knowT G H) H := by
  refine ⟨fun a o h => knowT_old h, ⟨fun a o h => ?_, fun b hb => ?_, ok.tab, fun a ps h => ?_⟩, fun a o h _ _ => h, fun a h => ?_⟩
  · rcases knowT_inv h with h | ⟨_, h, _⟩
    · exact ok.sub a o h
    · exact h
  · obtain ⟨gb, B⟩ := ok.bag b hb
    refine ⟨?_, B⟩
    obtain ⟨xs, hx⟩ := B.lst
    cases q : knowT G H b with
    | none => rfl
    | some o =>
      rcases knowT_inv q with h | ⟨_, h, ys, e⟩
      · rw [gb] at h; cases h
      · rw [hx] at h
        rw [e] at h
        cases h
  · rcases knowT_inv h with h | ⟨_, _, ys, e⟩
    · exact ok.ntb a ps h
    · cases e
  · cases q : knowT G H a with
    | none => exact absurd q h
    | some o =>
      rcases knowT_inv q with h | ⟨_, h, ys, e⟩
      · exact .inl (by rw [h]; simp)
      · exact .inr fun u hu => by rw [h] at hu; cases hu; exact .inr ⟨ys, e⟩
/-- .. it is made known -/
theorem Gr.know {p : Addr} {o : HO} (ok0 : Ok M G H) (g : Gr M G H G' H') (hp : H p = none) (hG : G' p = none) (hH : H' p = some o) (ho : ∀ ps, o ≠ .tbl ps) : Gr M G H (upd G' p o) H' := by
  have ex : Same G' (upd G' p o) := fun a x e => by rw [upd_ne (ne_of_none e hG)]; exact e
  refine ⟨g.ex.trans ex, ⟨fun a x e => ?_, fun b hb => ?_, g.ok.tab, fun a ps e => ?_⟩, g.fr, fun a ha => ?_⟩
  · by_cases q : a = p
    · subst q; rw [upd_same] at e; rw [hH]; exact e
    · rw [upd_ne q] at e; exact g.ok.sub a x e
  · obtain ⟨gb, B⟩ := g.ok.bag b hb
    exact ⟨by rw [upd_ne (fun z : b = p => ok0.nbag hp (z ▸ hb))]; exact gb, B⟩
  · by_cases q : a = p
    · subst q; rw [upd_same] at e; exact ho ps (Option.some.inj e)
    · rw [upd_ne q] at e; exact g.ok.ntb a ps e
  · by_cases q : a = p
    · subst q; exact .inr fun x e => by rw [hp] at e; cases e
    · rw [upd_ne q] at ha; exact g.nw a ha
end
end DL
set_option maxHeartbeats 1000000
namespace DL
open PySem PySem.Spec PyProof.Rows L2

/-! ### judgements at the level of data -/
abbrev DS := List (Option D)
def tD (M : Mu) (K : PySem.W.Frag) (ds : DS) (R : D → Prop) : TE := fun σ H Q => ∃ G, Sl K G σ ds ∧ Ok M G H ∧ ∀ d v G' H', R d → Gr M G H G' H' → Dt K G' v d → Q v H'
def tDT (M : Mu) (K : PySem.W.Frag) (ds : DS) (R : Bool → Prop) : TT := fun σ H Q => ∃ G, Sl K G σ ds ∧ Ok M G H ∧ ∀ b G' H', R b → Gr M G H G' H' → Q b H'
def tDA (M : Mu) (K : PySem.W.Frag) (ds : DS) (R : List D → Prop) : TA := fun σ H Q => ∃ G, Sl K G σ ds ∧ Ok M G H ∧ ∀ es vs G' H', R es → Gr M G H G' H' → Dts K G' vs es → Q vs H'
def tDO (M : Mu) (K : PySem.W.Frag) (ds : DS) (R : Option Int → Prop) : TO := fun σ H Q => ∃ G, Sl K G σ ds ∧ Ok M G H ∧ ∀ o G' H', R o → Gr M G H G' H' → Q o H'
abbrev DX (X : Cx) (M : Mu) (e : Expr) (ds : DS) (R : D → Prop) : Prop := PE X e (tD M X.K ds R)
abbrev DT (X : Cx) (M : Mu) (e : Expr) (ds : DS) (R : Bool → Prop) : Prop := PT X e (tDT M X.K ds R)
abbrev DA (X : Cx) (M : Mu) (es : List Expr) (ds : DS) (R : List D → Prop) : Prop := PA X es (tDA M X.K ds R)
abbrev DO (X : Cx) (M : Mu) (o : Option Expr) (ds : DS) (R : Option Int → Prop) : Prop := PO X o (tDO M X.K ds R)
/-- just this -/
def Is {α : Type} (d : α) : α → Prop := fun x => x = d
theorem is_rfl {α : Type} {d : α} : Is d d := rfl
abbrev DV (X : Cx) (M : Mu) (e : Expr) (ds : DS) (d : D) : Prop := DX X M e ds (Is d)
abbrev DVs (X : Cx) (M : Mu) (es : List Expr) (ds : DS) (l : List D) : Prop := DA X M es ds (Is l)

theorem PE.imp {X : Cx} {e : Expr} {t u : TE} (p : PE X e t) (f : ∀ σ H Q, u σ H Q → t σ H Q) : PE X e u := ⟨fun pins s σ H Q I h => p.run pins s σ H Q I (f σ H Q h)⟩
theorem PT.imp {X : Cx} {e : Expr} {t u : TT} (p : PT X e t) (f : ∀ σ H Q, u σ H Q → t σ H Q) : PT X e u := ⟨fun pins s σ H Q I h => p.run pins s σ H Q I (f σ H Q h)⟩
theorem PA.imp {X : Cx} {e : List Expr} {t u : TA} (p : PA X e t) (f : ∀ σ H Q, u σ H Q → t σ H Q) : PA X e u := ⟨fun pos pins s σ H Q I h => p.run pos pins s σ H Q I (f σ H Q h)⟩

/-- an operation on two values, at the level of data -/
def OpD (K : PySem.W.Frag) (M : Mu) (r : R2) (a b : D) (R : D → Prop) : Prop :=
  ∀ G H x y (Q : VK), Ok M G H → Dt K G x a → Dt K G y b → (∀ d v G' H', R d → Gr M G H G' H' → Dt K G' v d → Q v H') → r x y H Q
/-- a call on values -/
def CallD (K : PySem.W.Frag) (M : Mu) (r : List V → Hp → VK → Prop) (l : List D) (R : D → Prop) : Prop :=
  ∀ G H xs (Q : VK), Ok M G H → Dts K G xs l → (∀ d v G' H', R d → Gr M G H G' H' → Dt K G' v d → Q v H') → r xs H Q

section
variable {X : Cx} {M : Mu} {ds : DS} {e a b c : Expr} {es : List Expr} {R Ra Rb : D → Prop} {pos : Pos} {d x y : D}
theorem DX.weak (h : DX X M e ds R) {R' : D → Prop} (f : ∀ d, R d → R' d) : DX X M e ds R' :=
  PE.imp h fun σ H Q ⟨G, s, ok, k⟩ => ⟨G, s, ok, fun d v G' H' r => k d v G' H' (f d r)⟩
theorem DT.weak {R R' : Bool → Prop} (h : DT X M e ds R) (f : ∀ b, R b → R' b) : DT X M e ds R' :=
  PT.imp h fun σ H Q ⟨G, s, ok, k⟩ => ⟨G, s, ok, fun d G' H' r => k d G' H' (f d r)⟩
theorem DV.to (h : DV X M e ds x) (q : x = y) : DV X M e ds y := q ▸ h
theorem DT.to {p q : Bool} (h : DT X M e ds (Is p)) (z : p = q) : DT X M e ds (Is q) := z ▸ h
/-- a value is made at once -/
theorem tD.at {K : PySem.W.Frag} {σ : L2.St} {H : Hp} {Q : VK} (h : tD M K ds R σ H Q) (f : ∀ G, Sl K G σ ds → Ok M G H → ∃ d v, R d ∧ Dt K G v d) : ∃ v, Q v H := by
  obtain ⟨G, s, ok, k⟩ := h
  obtain ⟨d, v, r, h⟩ := f G s ok
  exact ⟨v, k d v G H r (Gr.refl ok) h⟩
theorem dx_var {i : Nat} {n : Str} (hN : X.N[i]? = some n) (hv : Vis X.env.scope n) (hd : ds[i]? = some (some d)) (h1 : (n == ("__debug__" : Str)) = false) (h2 : (n == ("__classdict__" : Str)) = false) : DV X M (.Name n pos) ds d :=
  PE.imp (pe_var (i := i) hN hv h1 h2) fun σ H Q ⟨G, s, ok, k⟩ => let ⟨v, h, t⟩ := s.2 i d hd; ⟨v, h, k d v G H rfl (Gr.refl ok) t⟩
/-- the name in slot i -/
theorem dv (i : Nat) {n : Str} (hN : X.N[i]? = some n := by rfl) (hv : Vis X.env.scope n := by first | exact Or.inl rfl | exact Or.inr (Or.inl rfl) | exact Or.inr (Or.inr rfl)) (hd : ds[i]? = some (some d) := by rfl)
    (h1 : (n == ("__debug__" : Str)) = false := by decide) (h2 : (n == ("__classdict__" : Str)) = false := by decide) : DV X M (.Name n pos) ds d := dx_var hN hv hd h1 h2
theorem dx_c {v : V} (p : PE X e (tC v)) (h : ∀ G, Dt X.K G v d) : DV X M e ds d := PE.imp p fun σ H Q ⟨G, s, ok, k⟩ => k d v G H rfl (Gr.refl ok) (h G)
theorem d_int {i j} : DV X M (.Constant (.int i) j pos) ds (.int i) := dx_c pe_int fun _ => .int i
theorem d_bl {b j} : DV X M (.Constant (.bool b) j pos) ds (.bl b) := dx_c pe_bl fun _ => .bl b
theorem d_non {j} : DV X M (.Constant .none j pos) ds .non := dx_c pe_non fun _ => .non
theorem d_str {z j} : DV X M (.Constant (.str z) j pos) ds (.str z) := dx_c pe_str fun _ => .str z
theorem d_gstr {n z : Str} {t : Tok} (hm : X.mg n = some (.str z t)) (hg : Gl X n := by rfl) (hd : (n == ("__debug__" : Str)) = false := by decide) : DV X M (.Name n pos) ds (.str z) := dx_c (pe_glob hg hm (v := .str z) ⟨t, rfl⟩ hd) fun _ => .str z
theorem d_gint {n : Str} {i : Int} {t : Tok} (hm : X.mg n = some (.int i t)) (hg : Gl X n := by rfl) (hd : (n == ("__debug__" : Str)) = false := by decide) : DV X M (.Name n pos) ds (.int i) := dx_c (pe_glob hg hm (v := .int i) ⟨t, rfl⟩ hd) fun _ => .int i
theorem dx_op {op : Operator} {r : R2} (ho : OpR X (binaryOp op) r) (ha : DX X M a ds Ra) (hb : DX X M b ds Rb) (h : ∀ x y, Ra x → Rb y → OpD X.K M r x y R) : DX X M (.BinOp a op b pos) ds R :=
  PE.imp (pe_op ho ha hb) fun σ H Q ⟨G, s, ok, k⟩ => ⟨G, s, ok, fun x u G1 H1 r1 g1 t1 => ⟨G1, s.mono g1.ex, g1.ok, fun y w G2 H2 r2 g2 t2 =>
    h x y r1 r2 G2 H2 u w Q g2.ok (t1.mono g2.ex) t2 fun d v G3 H3 r3 g3 t3 => k d v G3 H3 r3 ((g1.trans ok g2).trans ok g3) t3⟩⟩
theorem dx_cmp {op : CmpOp} {r : R2} (ho : OpR X (compareOp op) r) (ha : DX X M a ds Ra) (hb : DX X M b ds Rb) (hm : behindInMarks op b = false) (h : ∀ x y, Ra x → Rb y → OpD X.K M r x y R) : DX X M (.Compare a [op] [b] pos) ds R :=
  PE.imp (pe_cmpR ho ha hb hm) fun σ H Q ⟨G, s, ok, k⟩ => ⟨G, s, ok, fun x u G1 H1 r1 g1 t1 => ⟨G1, s.mono g1.ex, g1.ok, fun y w G2 H2 r2 g2 t2 =>
    h x y r1 r2 G2 H2 u w Q g2.ok (t1.mono g2.ex) t2 fun d v G3 H3 r3 g3 t3 => k d v G3 H3 r3 ((g1.trans ok g2).trans ok g3) t3⟩⟩
/-- a value that is a truth, as a test -/
theorem dt_val {Rt : Bool → Prop} (h : DX X M e ds fun d => ∃ b, d = .bl b ∧ Rt b) (he : ∀ whole, isTrue e X.env whole = (do let v ← whole; standAt e.pos; holding [v] (truthy v)) := by intro _; rfl) : DT X M e ds Rt :=
  PT.imp (pt_val h he) fun σ H Q ⟨G, s, ok, k⟩ => ⟨G, s, ok, fun d v G' H' ⟨b, e1, r⟩ g t => by
    subst e1
    cases t
    exact ⟨b, rfl, k b G' H' r g⟩⟩
theorem dt_v {p : Bool} (h : DV X M e ds (.bl p)) (he : ∀ whole, isTrue e X.env whole = (do let v ← whole; standAt e.pos; holding [v] (truthy v)) := by intro _; rfl) : DT X M e ds (Is p) :=
  dt_val (DX.weak h fun d r => ⟨p, r, rfl⟩) he
/-- a comparison as a test -/
theorem dt_cmp {op : CmpOp} {r : R2} {Rt : Bool → Prop} (ho : OpR X (compareOp op) r) (ha : DX X M a ds Ra) (hb : DX X M b ds Rb) (hm : behindInMarks op b = false) (h : ∀ x y, Ra x → Rb y → OpD X.K M r x y fun d => ∃ p, d = .bl p ∧ Rt p) : DT X M (.Compare a [op] [b] pos) ds Rt :=
  PT.imp (pt_cmpR ho ha hb hm) fun σ H Q ⟨G, s, ok, k⟩ => ⟨G, s, ok, fun x u G1 H1 r1 g1 t1 => ⟨G1, s.mono g1.ex, g1.ok, fun y w G2 H2 r2 g2 t2 =>
    h x y r1 r2 G2 H2 u w _ g2.ok (t1.mono g2.ex) t2 fun d v G3 H3 ⟨p, e3, r3⟩ g3 t3 => by
      subst e3
      cases t3
      exact ⟨p, rfl, k p G3 H3 r3 ((g1.trans ok g2).trans ok g3)⟩⟩⟩
theorem dt_not {p : Bool} (h : DT X M e ds (Is p)) : DT X M (.UnaryOp .Not e pos) ds (Is (!p)) :=
  PT.imp (pt_not h) fun σ H Q ⟨G, s, ok, k⟩ => ⟨G, s, ok, fun b G' H' r g => k (!b) G' H' (by rw [show b = p from r]; rfl) g⟩
theorem d_not {p : Bool} (h : DV X M e ds (.bl p)) : DV X M (.UnaryOp .Not e pos) ds (.bl (!p)) :=
  PE.imp (pe_not h) fun σ H Q ⟨G, s, ok, k⟩ => ⟨G, s, ok, fun d v G' H' r g t => by
    subst r
    cases t
    exact ⟨p, rfl, k _ _ G' H' rfl g (.bl _)⟩⟩
/-- and, or of truths: the right one is asked only where the left leaves it open -/
theorem d_and {rest : List Expr} {p q : Bool} (ha : DV X M a ds (.bl p)) (hb : PE X (.BoolOp .And (b :: rest) pos) (fun σ H Q => ∃ _ : p = true, tD M X.K ds (Is (.bl q)) σ H Q)) : DV X M (.BoolOp .And (a :: b :: rest) pos) ds (.bl (p && q)) :=
  PE.imp (pe_and ha hb) fun σ H Q ⟨G, s, ok, k⟩ => ⟨G, s, ok, fun d v G1 H1 r g t => by
    subst r
    cases t
    refine ⟨p, rfl, ?_⟩
    cases p with
    | true =>
      refine iteT ?_
      exact ⟨rfl, G1, s.mono g.ex, g.ok, fun d' v' G2 H2 r2 g2 t2 => k d' v' G2 H2 (by rw [show d' = .bl q from r2]; rfl) (g.trans ok g2) t2⟩
    | false => refine iteF ?_; exact k _ _ G1 H1 rfl g (.bl _)⟩
theorem d_or {rest : List Expr} {p q : Bool} (ha : DV X M a ds (.bl p)) (hb : PE X (.BoolOp .Or (b :: rest) pos) (fun σ H Q => ∃ _ : p = false, tD M X.K ds (Is (.bl q)) σ H Q)) : DV X M (.BoolOp .Or (a :: b :: rest) pos) ds (.bl (p || q)) :=
  PE.imp (pe_or ha hb) fun σ H Q ⟨G, s, ok, k⟩ => ⟨G, s, ok, fun d v G1 H1 r g t => by
    subst r
    cases t
    refine ⟨p, rfl, ?_⟩
    cases p with
    | false => refine iteF ?_; exact ⟨rfl, G1, s.mono g.ex, g.ok, fun d' v' G2 H2 r2 g2 t2 => k d' v' G2 H2 (by rw [show d' = .bl q from r2]; rfl) (g.trans ok g2) t2⟩
    | true => refine iteT ?_; exact k _ _ G1 H1 rfl g (.bl _)⟩
theorem dh_one {op} {C : Prop} (h : C → DX X M a ds R) : PE X (.BoolOp op [a] pos) (fun σ H Q => ∃ _ : C, tD M X.K ds R σ H Q) :=
  ⟨fun pins s σ H Q I hw => let ⟨c, t⟩ := hw; (pe_one (h c)).run pins s σ H Q I t⟩
theorem dh {e : Expr} {C : Prop} (h : C → DX X M e ds R) : PE X e (fun σ H Q => ∃ _ : C, tD M X.K ds R σ H Q) := ⟨fun pins s σ H Q I hw => let ⟨c, t⟩ := hw; (h c).run pins s σ H Q I t⟩
theorem dhT {e : Expr} {C : Prop} {R : Bool → Prop} (h : C → DT X M e ds R) : PT X e (fun σ H Q => ∃ _ : C, tDT M X.K ds R σ H Q) := ⟨fun pins s σ H Q I hw => let ⟨c, t⟩ := hw; (h c).run pins s σ H Q I t⟩
theorem d_if {p : Bool} (hc : DT X M c ds (Is p)) (ha : p = true → DX X M a ds R) (hb : p = false → DX X M b ds R) : DX X M (.IfExp c a b pos) ds R :=
  PE.imp (pe_ifExp hc (dh ha) (dh hb)) fun σ H Q ⟨G, s, ok, k⟩ => ⟨G, s, ok, fun q G1 H1 r g => by
    have r : q = p := r
    subst r
    cases q with
    | true => refine iteT ?_; exact ⟨rfl, G1, s.mono g.ex, g.ok, fun d v G2 H2 r2 g2 t2 => k d v G2 H2 r2 (g.trans ok g2) t2⟩
    | false => refine iteF ?_; exact ⟨rfl, G1, s.mono g.ex, g.ok, fun d v G2 H2 r2 g2 t2 => k d v G2 H2 r2 (g.trans ok g2) t2⟩⟩
/-- and, or as tests -/
structure PWd (X : Cx) (M : Mu) (e : Expr) (ds : DS) (R : Bool → Prop) : Prop where
  run : PW X e (tDT M X.K ds R)
theorem PWd.dt {R : Bool → Prop} (h : PWd X M e ds R) : DT X M e ds R := h.run.pt
theorem PW.imp {X : Cx} {e : Expr} {t u : TT} (p : PW X e t) (f : ∀ σ H Q, u σ H Q → t σ H Q) : PW X e u := ⟨fun wh pins s σ H Q I h => p.run wh pins s σ H Q I (f σ H Q h)⟩
theorem dw_and1 {C : Prop} {p : Bool} (h : C → DT X M a ds (Is p)) : PW X (.BoolOp .And [a] pos) (fun σ H Q => ∃ _ : C, tDT M X.K ds (Is p) σ H Q) := pw_and1 (dhT h)
theorem dw_or1 {C : Prop} {p : Bool} (h : C → DT X M a ds (Is p)) : PW X (.BoolOp .Or [a] pos) (fun σ H Q => ∃ _ : C, tDT M X.K ds (Is p) σ H Q) := pw_or1 (dhT h)
theorem dw_and {rest : List Expr} {p q : Bool} (ha : DT X M a ds (Is p)) (hb : PW X (.BoolOp .And (b :: rest) pos) (fun σ H Q => ∃ _ : p = true, tDT M X.K ds (Is q) σ H Q)) : PW X (.BoolOp .And (a :: b :: rest) pos) (tDT M X.K ds (Is (p && q))) :=
  PW.imp (pw_and ha hb) fun σ H Q ⟨G, s, ok, k⟩ => ⟨G, s, ok, fun c G1 H1 r g => by
    have r : c = p := r
    subst r
    cases c with
    | true => refine iteT ?_; exact ⟨rfl, G1, s.mono g.ex, g.ok, fun b G2 H2 r2 g2 => k b G2 H2 (by rw [show b = q from r2]; rfl) (g.trans ok g2)⟩
    | false => refine iteF ?_; exact k false G1 H1 rfl g⟩
theorem dw_or {rest : List Expr} {p q : Bool} (ha : DT X M a ds (Is p)) (hb : PW X (.BoolOp .Or (b :: rest) pos) (fun σ H Q => ∃ _ : p = false, tDT M X.K ds (Is q) σ H Q)) : PW X (.BoolOp .Or (a :: b :: rest) pos) (tDT M X.K ds (Is (p || q))) :=
  PW.imp (pw_or ha hb) fun σ H Q ⟨G, s, ok, k⟩ => ⟨G, s, ok, fun c G1 H1 r g => by
    have r : c = p := r
    subst r
    cases c with
    | false => refine iteF ?_; exact ⟨rfl, G1, s.mono g.ex, g.ok, fun b G2 H2 r2 g2 => k b G2 H2 (by rw [show b = q from r2]; rfl) (g.trans ok g2)⟩
    | true => refine iteT ?_; exact k true G1 H1 rfl g⟩
theorem dt_and {p q : Bool} (ha : DT X M a ds (Is p)) (hb : p = true → DT X M b ds (Is q)) : DT X M (.BoolOp .And [a, b] pos) ds (Is (p && q)) := (dw_and ha (dw_and1 hb)).pt
theorem dt_or {p q : Bool} (ha : DT X M a ds (Is p)) (hb : p = false → DT X M b ds (Is q)) : DT X M (.BoolOp .Or [a, b] pos) ds (Is (p || q)) := (dw_or ha (dw_or1 hb)).pt
theorem d_and2 {p q : Bool} (ha : DV X M a ds (.bl p)) (hb : p = true → DV X M b ds (.bl q)) : DV X M (.BoolOp .And [a, b] pos) ds (.bl (p && q)) := d_and ha (dh_one hb)
theorem d_or2 {p q : Bool} (ha : DV X M a ds (.bl p)) (hb : p = false → DV X M b ds (.bl q)) : DV X M (.BoolOp .Or [a, b] pos) ds (.bl (p || q)) := d_or ha (dh_one hb)
theorem d_and3 {p q r : Bool} (ha : DV X M a ds (.bl p)) (hb : p = true → DV X M b ds (.bl q)) (hc : p = true → q = true → DV X M c ds (.bl r)) : DV X M (.BoolOp .And [a, b, c] pos) ds (.bl (p && (q && r))) :=
  d_and ha (dh fun h => d_and (hb h) (dh_one fun h2 => hc h h2))
theorem d_and4 {d' : Expr} {p q r t : Bool} (ha : DV X M a ds (.bl p)) (hb : p = true → DV X M b ds (.bl q)) (hc : p = true → q = true → DV X M c ds (.bl r)) (hd : p = true → q = true → r = true → DV X M d' ds (.bl t)) :
    DV X M (.BoolOp .And [a, b, c, d'] pos) ds (.bl (p && (q && (r && t)))) :=
  d_and ha (dh fun h => d_and (hb h) (dh fun h2 => d_and (hc h h2) (dh_one fun h3 => hd h h2 h3)))

/-! ### arguments, displays -/
theorem da_nil : DVs X M [] ds [] := PA.imp pa_nil fun σ H Q ⟨G, s, ok, k⟩ => k [] [] G H rfl (Gr.refl ok) .nil
theorem da_consR {Rl Rm : List D → Prop} (he : DX X M e ds R) (hr : DA X M es ds Rl) (h : ∀ d l, R d → Rl l → Rm (d :: l)) (hs : starEach (e :: es) X.env = (false, eval e X.env) :: starEach es X.env := by rfl) : DA X M (e :: es) ds Rm :=
  PA.imp (pa_cons he hr hs) fun σ H Q ⟨G, s, ok, k⟩ => ⟨G, s, ok, fun x u G1 H1 r1 g1 t1 => ⟨G1, s.mono g1.ex, g1.ok, fun l vs G2 H2 r2 g2 t2 =>
    k (x :: l) (u :: vs) G2 H2 (h x l r1 r2) (g1.trans ok g2) (.cons (t1.mono g2.ex) t2)⟩⟩
theorem da_cons {l : List D} (he : DV X M e ds d) (hr : DVs X M es ds l) (hs : starEach (e :: es) X.env = (false, eval e X.env) :: starEach es X.env := by rfl) : DVs X M (e :: es) ds (d :: l) :=
  da_consR he hr (fun x y h1 h2 => by rw [show x = d from h1, show y = l from h2]; rfl) hs
theorem da_1 (he : DV X M e ds d) (hs : starEach [e] X.env = (false, eval e X.env) :: starEach [] X.env := by rfl) : DVs X M [e] ds [d] := da_cons he da_nil hs
theorem dx_tup {x1} {Rl : List D → Prop} (h : DA X M es ds Rl) (hr : ∀ l, Rl l → l.length ≤ sizeLine ∧ R (.tup l)) : DX X M (.Tuple es x1 pos) ds R :=
  PE.imp (pe_tup h) fun σ H Q ⟨G, s, ok, k⟩ => ⟨G, s, ok, fun l vs G1 H1 r1 g1 t1 => ⟨by rw [t1.length]; exact (hr l r1).1, fun p hp => by
    have g := Gr.new (o := .tup vs) g1.ok hp (fun ps z => by cases z)
    exact k (.tup l) (.ref p) _ _ (hr l r1).2 (g1.trans ok g) (.tup (.inl upd_same) (t1.mono g.ex))⟩⟩
theorem dx_lst {Rl : List D → Prop} (h : DA X M es ds Rl) (hr : ∀ l, Rl l → l.length ≤ sizeLine ∧ R (.lst l)) : DX X M (.List es pos) ds R :=
  PE.imp (pe_lst h) fun σ H Q ⟨G, s, ok, k⟩ => ⟨G, s, ok, fun l vs G1 H1 r1 g1 t1 => ⟨by rw [t1.length]; exact (hr l r1).1, fun p hp => by
    have g := Gr.new (o := .lst vs) g1.ok hp (fun ps z => by cases z)
    exact k (.lst l) (.ref p) _ _ (hr l r1).2 (g1.trans ok g) (.lst upd_same (t1.mono g.ex))⟩⟩
theorem d_tup {x1} {l : List D} (h : DVs X M es ds l) (hl : l.length ≤ 100 := by decide) : DV X M (.Tuple es x1 pos) ds (.tup l) :=
  dx_tup h fun m e => by rw [show m = l from e]; exact ⟨Nat.le_trans hl (by decide), rfl⟩
theorem d_lst {l : List D} (h : DVs X M es ds l) (hl : l.length ≤ 100 := by decide) : DV X M (.List es pos) ds (.lst l) :=
  dx_lst h fun m e => by rw [show m = l from e]; exact ⟨Nat.le_trans hl (by decide), rfl⟩
/-- a built-in called -/
theorem dx_callB {n : Str} {id : String} {p : Pos} {r : List V → Hp → VK → Prop} {Rl : List D → Prop} (hc : CallR X (.builtin id) r) (ha : DA X M (e :: es) ds Rl) (h : ∀ l, Rl l → CallD X.K M r l R) (hg : Gl X n) (hm : X.mg n = none) (hv : bootBuiltins n = some (.builtin id))
    (hn : n ≠ "__name__" := by decide) (hdb : (n == ("__debug__" : Str)) = false := by decide) (hs : starEach (e :: es) X.env = (false, eval e X.env) :: starEach es X.env := by rfl) (hplain : (backTo pos (starEach es X.env)).any (·.1) = false := by rfl) : DX X M (.Call (.Name n p) (e :: es) [] pos) ds R :=
  PE.imp (pe_callB hc hg hm hv ha hn hdb hs hplain) fun σ H Q ⟨G, s, ok, k⟩ => ⟨G, s, ok, fun l vs G1 H1 r1 g1 t1 => h l r1 G1 H1 vs Q g1.ok t1 fun d v G2 H2 r2 g2 t2 => k d v G2 H2 r2 (g1.trans ok g2) t2⟩
theorem dx_callTy {n : Str} {T : String} {p : Pos} {r : List V → Hp → VK → Prop} {Rl : List D → Prop} (hc : CallR X (.type T) r) (ha : DA X M (e :: es) ds Rl) (h : ∀ l, Rl l → CallD X.K M r l R) (hg : Gl X n) (hm : X.mg n = none) (hv : bootBuiltins n = some (.type T))
    (hn : n ≠ "__name__" := by decide) (hdb : (n == ("__debug__" : Str)) = false := by decide) (hs : starEach (e :: es) X.env = (false, eval e X.env) :: starEach es X.env := by rfl) (hplain : (backTo pos (starEach es X.env)).any (·.1) = false := by rfl) : DX X M (.Call (.Name n p) (e :: es) [] pos) ds R :=
  PE.imp (pe_callTy hc hg hm hv ha hn hdb hs hplain) fun σ H Q ⟨G, s, ok, k⟩ => ⟨G, s, ok, fun l vs G1 H1 r1 g1 t1 => h l r1 G1 H1 vs Q g1.ok t1 fun d v G2 H2 r2 g2 t2 => k d v G2 H2 r2 (g1.trans ok g2) t2⟩
end
end DL
set_option maxHeartbeats 1000000
namespace DL
open PySem PySem.Spec PyProof.Rows L2

/-! ### operators on numbers, texts, lists -/
theorem new_lst {K : PySem.W.Frag} {M : Mu} {G H : Hp} {p : Addr} {vs : List V} {l : List D} (ok : Ok M G H) (hp : H p = none) (t : Dts K G vs l) : ∃ G', Gr M G H G' (upd H p (.lst vs)) ∧ Dt K G' (.ref p) (.lst l) := by
  have g := Gr.new (o := .lst vs) ok hp (fun ps z => by cases z)
  exact ⟨_, g, .lst upd_same (t.mono g.ex)⟩
theorem new_tup {K : PySem.W.Frag} {M : Mu} {G H : Hp} {p : Addr} {vs : List V} {l : List D} (ok : Ok M G H) (hp : H p = none) (t : Dts K G vs l) : ∃ G', Gr M G H G' (upd H p (.tup vs)) ∧ Dt K G' (.ref p) (.tup l) := by
  have g := Gr.new (o := .tup vs) ok hp (fun ps z => by cases z)
  exact ⟨_, g, .tup (.inl upd_same) (t.mono g.ex)⟩
section
variable {X : Cx} {M : Mu} {ds : DS} {e a b c : Expr} {es : List Expr} {R Ra Rb : D → Prop} {pos : Pos} {i j : Int} {z u : Str}
theorem dx_opI {op : Operator} {C : Int → Int → Prop} {g : Int → Int → Int} (ho : OpR X (binaryOp op) (rI C fun i j => .int (g i j))) (ha : DX X M a ds Ra) (hb : DX X M b ds Rb) (h : ∀ x y, Ra x → Rb y → ∃ i j, x = .int i ∧ y = .int j ∧ C i j ∧ R (.int (g i j))) : DX X M (.BinOp a op b pos) ds R :=
  dx_op ho ha hb fun x y h1 h2 G H v w Q ok t1 t2 k => by
    obtain ⟨i, j, rfl, rfl, hc, hr⟩ := h x y h1 h2
    cases t1; cases t2
    exact ⟨i, j, rfl, rfl, hc, k _ _ G H hr (Gr.refl ok) (.int _)⟩
theorem dx_opI0 {op : Operator} {g : Int → Int → Int} (ho : OpR X (binaryOp op) (rI0 fun i j => .int (g i j))) (ha : DX X M a ds Ra) (hb : DX X M b ds Rb) (h : ∀ x y, Ra x → Rb y → ∃ i j, x = .int i ∧ y = .int j ∧ R (.int (g i j))) : DX X M (.BinOp a op b pos) ds R :=
  dx_op ho ha hb fun x y h1 h2 G H v w Q ok t1 t2 k => by
    obtain ⟨i, j, rfl, rfl, hr⟩ := h x y h1 h2
    cases t1; cases t2
    exact ⟨i, j, rfl, rfl, k _ _ G H hr (Gr.refl ok) (.int _)⟩
theorem d_add (ha : DV X M a ds (.int i)) (hb : DV X M b ds (.int j)) : DV X M (.BinOp a .Add b pos) ds (.int (i + j)) := dx_opI0 op_add ha hb fun x y h1 h2 => ⟨i, j, h1, h2, rfl⟩
theorem d_sub (ha : DV X M a ds (.int i)) (hb : DV X M b ds (.int j)) : DV X M (.BinOp a .Sub b pos) ds (.int (i - j)) := dx_opI0 op_sub ha hb fun x y h1 h2 => ⟨i, j, h1, h2, rfl⟩
theorem d_mul (ha : DV X M a ds (.int i)) (hb : DV X M b ds (.int j)) (hc : CMul i j) : DV X M (.BinOp a .Mult b pos) ds (.int (i * j)) := dx_opI op_mul ha hb fun x y h1 h2 => ⟨i, j, h1, h2, hc, rfl⟩
theorem d_mod (ha : DV X M a ds (.int i)) (hb : DV X M b ds (.int j)) (hc : 0 < j) : DV X M (.BinOp a .Mod b pos) ds (.int (i % j)) := dx_opI op_mod ha hb fun x y h1 h2 => ⟨i, j, h1, h2, hc, rfl⟩
theorem d_fdiv (ha : DV X M a ds (.int i)) (hb : DV X M b ds (.int j)) (hc : CDiv i j) : DV X M (.BinOp a .FloorDiv b pos) ds (.int (i / j)) := dx_opI op_fdiv ha hb fun x y h1 h2 => ⟨i, j, h1, h2, hc, rfl⟩
theorem d_pow (ha : DV X M a ds (.int i)) (hb : DV X M b ds (.int j)) (hc : CPow i j) : DV X M (.BinOp a .Pow b pos) ds (.int (i ^ j.toNat)) := dx_opI op_pow ha hb fun x y h1 h2 => ⟨i, j, h1, h2, hc, rfl⟩
theorem dx_cmpI {op : CmpOp} {p : Int → Int → Bool} (ho : OpR X (compareOp op) (rI0 fun i j => .bl (p i j))) (ha : DX X M a ds Ra) (hb : DX X M b ds Rb) (hm : behindInMarks op b = false) (h : ∀ x y, Ra x → Rb y → ∃ i j, x = .int i ∧ y = .int j ∧ R (.bl (p i j))) : DX X M (.Compare a [op] [b] pos) ds R :=
  dx_cmp ho ha hb hm fun x y h1 h2 G H v w Q ok t1 t2 k => by
    obtain ⟨i, j, rfl, rfl, hr⟩ := h x y h1 h2
    cases t1; cases t2
    exact ⟨i, j, rfl, rfl, k _ _ G H hr (Gr.refl ok) (.bl _)⟩
theorem d_lt (ha : DV X M a ds (.int i)) (hb : DV X M b ds (.int j)) : DV X M (.Compare a [.Lt] [b] pos) ds (.bl (decide (i < j))) := dx_cmpI op_lt ha hb (nomark _) fun x y h1 h2 => ⟨i, j, h1, h2, rfl⟩
theorem d_le (ha : DV X M a ds (.int i)) (hb : DV X M b ds (.int j)) : DV X M (.Compare a [.LtE] [b] pos) ds (.bl (decide (i ≤ j))) := dx_cmpI op_le ha hb (nomark _) fun x y h1 h2 => ⟨i, j, h1, h2, rfl⟩
theorem d_gt (ha : DV X M a ds (.int i)) (hb : DV X M b ds (.int j)) : DV X M (.Compare a [.Gt] [b] pos) ds (.bl (decide (j < i))) := dx_cmpI op_gt ha hb (nomark _) fun x y h1 h2 => ⟨i, j, h1, h2, rfl⟩
theorem d_ge (ha : DV X M a ds (.int i)) (hb : DV X M b ds (.int j)) : DV X M (.Compare a [.GtE] [b] pos) ds (.bl (decide (j ≤ i))) := dx_cmpI op_ge ha hb (nomark _) fun x y h1 h2 => ⟨i, j, h1, h2, rfl⟩
/-- a <= b <= c -/
theorem d_chain_le {k : Int} (ha : DV X M a ds (.int i)) (hb : DV X M b ds (.int j)) (hc : DV X M c ds (.int k)) (hm : lastMarks [CmpOp.LtE, CmpOp.LtE] [b, c] = false := by rfl) : DV X M (.Compare a [.LtE, .LtE] [b, c] pos) ds (.bl (decide (i ≤ j) && decide (j ≤ k))) :=
  PE.imp (pe_chain op_le op_le ha hb hc hm) fun σ H Q ⟨G, s, ok, q⟩ => ⟨G, s, ok, fun x v G1 H1 e1 g1 t1 => ⟨G1, s.mono g1.ex, g1.ok, fun y w G2 H2 e2 g2 t2 => by
    subst e1 e2
    cases t1; cases t2
    refine ⟨i, j, rfl, rfl, decide (i ≤ j), rfl, ?_⟩
    by_cases h : i ≤ j
    · rw [if_pos (decide_eq_true h)]
      refine ⟨G2, (s.mono g1.ex).mono g2.ex, g2.ok, fun y w G3 H3 e3 g3 t3 => ?_⟩
      subst e3
      cases t3
      exact ⟨j, k, rfl, rfl, q _ _ G3 H3 (by rw [decide_eq_true h]; rfl) ((g1.trans ok g2).trans ok g3) (.bl _)⟩
    · rw [if_neg (by rw [decide_eq_false h]; exact Bool.false_ne_true)]
      exact q _ _ G2 H2 (by rw [decide_eq_false h]; rfl) (g1.trans ok g2) (.bl _)⟩⟩
/-- .. as a test -/
theorem dt_chain_le {k : Int} (ha : DV X M a ds (.int i)) (hb : DV X M b ds (.int j)) (hc : DV X M c ds (.int k)) (hm : lastMarks [CmpOp.LtE, CmpOp.LtE] [b, c] = false := by rfl) : DT X M (.Compare a [.LtE, .LtE] [b, c] pos) ds (Is (decide (i ≤ j) && decide (j ≤ k))) :=
  PT.imp (pt_chain op_le op_le ha hb hc hm) fun σ H Q ⟨G, s, ok, q⟩ => ⟨G, s, ok, fun x v G1 H1 e1 g1 t1 => ⟨G1, s.mono g1.ex, g1.ok, fun y w G2 H2 e2 g2 t2 => by
    subst e1 e2
    cases t1; cases t2
    refine ⟨i, j, rfl, rfl, decide (i ≤ j), rfl, ?_⟩
    by_cases h : i ≤ j
    · rw [if_pos (decide_eq_true h)]
      refine ⟨G2, (s.mono g1.ex).mono g2.ex, g2.ok, fun y w G3 H3 e3 g3 t3 => ?_⟩
      subst e3
      cases t3
      exact ⟨j, k, rfl, rfl, _, rfl, q _ G3 H3 (by rw [decide_eq_true h]; rfl) ((g1.trans ok g2).trans ok g3)⟩
    · rw [if_neg (by rw [decide_eq_false h]; exact Bool.false_ne_true)]
      exact ⟨_, rfl, q _ G2 H2 (by rw [decide_eq_false h]; rfl) (g1.trans ok g2)⟩⟩⟩
/-- == of plain values -/
theorem opd_eq {K : PySem.W.Frag} {x y : D} {v w : V} {p : Bool} (hx : ∀ G u, Dt K G u x → u = v) (hy : ∀ G u, Dt K G u y → u = w) (hs : scal v w = true) (hp : decide (v = w) = p) : OpD K M rEq x y (Is (.bl p)) := fun G H u u' Q ok t1 t2 k => by
  rw [hx G u t1, hy G u' t2]
  exact ⟨hs, k _ _ G H (by rw [hp]; rfl) (Gr.refl ok) (.bl _)⟩
theorem opd_ne {K : PySem.W.Frag} {x y : D} {v w : V} {p : Bool} (hx : ∀ G u, Dt K G u x → u = v) (hy : ∀ G u, Dt K G u y → u = w) (hs : scal v w = true) (hp : decide (v = w) = p) : OpD K M rNe x y (Is (.bl (!p))) := fun G H u u' Q ok t1 t2 k => by
  rw [hx G u t1, hy G u' t2]
  exact ⟨hs, k _ _ G H (by rw [hp]; rfl) (Gr.refl ok) (.bl _)⟩
theorem dt_is_int {K : PySem.W.Frag} {i : Int} (G : Hp) (u : V) (h : Dt K G u (.int i)) : u = .int i := by cases h; rfl
theorem dt_is_str {K : PySem.W.Frag} {z : Str} (G : Hp) (u : V) (h : Dt K G u (.str z)) : u = .str z := by cases h; rfl
theorem dt_is_bl {K : PySem.W.Frag} {z : Bool} (G : Hp) (u : V) (h : Dt K G u (.bl z)) : u = .bl z := by cases h; rfl
theorem dec_vstr (z u : Str) : decide (V.str z = V.str u) = decide (z = u) := by
  by_cases h : z = u
  · subst h; simp
  · rw [decide_eq_false h, decide_eq_false fun q => h (V.str.inj q)]
theorem dec_vint (z u : Int) : decide (V.int z = V.int u) = decide (z = u) := by
  by_cases h : z = u
  · subst h; simp
  · rw [decide_eq_false h, decide_eq_false fun q => h (V.int.inj q)]
theorem dec_vbl (z u : Bool) : decide (V.bl z = V.bl u) = decide (z = u) := by
  by_cases h : z = u
  · subst h; simp
  · rw [decide_eq_false h, decide_eq_false fun q => h (V.bl.inj q)]
theorem is2 {α : Type} {β : Type} {P : α → β → Prop} {x : α} {y : β} (h : P x y) : ∀ a b, Is x a → Is y b → P a b := fun a b h1 h2 => by rw [show a = x from h1, show b = y from h2]; exact h
theorem d_eqS (ha : DV X M a ds (.str z)) (hb : DV X M b ds (.str u)) : DV X M (.Compare a [.Eq] [b] pos) ds (.bl (decide (z = u))) := dx_cmp op_eq ha hb (nomark _) (is2 (opd_eq dt_is_str dt_is_str rfl (dec_vstr _ _)))
theorem d_neS (ha : DV X M a ds (.str z)) (hb : DV X M b ds (.str u)) : DV X M (.Compare a [.NotEq] [b] pos) ds (.bl (!decide (z = u))) := dx_cmp op_ne ha hb (nomark _) (is2 (opd_ne dt_is_str dt_is_str rfl (dec_vstr _ _)))
theorem d_eqI (ha : DV X M a ds (.int i)) (hb : DV X M b ds (.int j)) : DV X M (.Compare a [.Eq] [b] pos) ds (.bl (decide (i = j))) := dx_cmp op_eq ha hb (nomark _) (is2 (opd_eq dt_is_int dt_is_int rfl (dec_vint _ _)))
theorem d_neI (ha : DV X M a ds (.int i)) (hb : DV X M b ds (.int j)) : DV X M (.Compare a [.NotEq] [b] pos) ds (.bl (!decide (i = j))) := dx_cmp op_ne ha hb (nomark _) (is2 (opd_ne dt_is_int dt_is_int rfl (dec_vint _ _)))
theorem d_eqB {p q : Bool} (ha : DV X M a ds (.bl p)) (hb : DV X M b ds (.bl q)) : DV X M (.Compare a [.Eq] [b] pos) ds (.bl (decide (p = q))) := dx_cmp op_eq ha hb (nomark _) (is2 (opd_eq dt_is_bl dt_is_bl rfl (dec_vbl _ _)))
theorem d_neB {p q : Bool} (ha : DV X M a ds (.bl p)) (hb : DV X M b ds (.bl q)) : DV X M (.Compare a [.NotEq] [b] pos) ds (.bl (!decide (p = q))) := dx_cmp op_ne ha hb (nomark _) (is2 (opd_ne dt_is_bl dt_is_bl rfl (dec_vbl _ _)))
/-- texts -/
theorem d_cat (ha : DV X M a ds (.str z)) (hb : DV X M b ds (.str u)) (hl : z.length + u.length ≤ sizeLine) : DV X M (.BinOp a .Add b pos) ds (.str (z ++ u)) :=
  dx_op op_add_str ha hb (is2 fun G H v w Q ok t1 t2 k => by
    cases t1; cases t2
    exact ⟨z, u, rfl, rfl, hl, k _ _ G H rfl (Gr.refl ok) (.str _)⟩)
/-- one sign in a text -/
theorem d_sign {n : Nat} (ha : DV X M a ds (.str ⟨#[n]⟩)) (hb : DV X M b ds (.str u)) (hm : behindInMarks .In b = false := by rfl) : DV X M (.Compare a [.In] [b] pos) ds (.bl (decide (n ∈ u.cps.toList))) :=
  dx_cmp op_in_sign ha hb hm (is2 fun G H v w Q ok t1 t2 k => by
    cases t1; cases t2
    exact ⟨n, u, rfl, rfl, k _ _ G H rfl (Gr.refl ok) (.bl _)⟩)
/-- lists -/
theorem dx_catL (ha : DX X M a ds Ra) (hb : DX X M b ds Rb) (h : ∀ x y, Ra x → Rb y → ∃ l m, x = .lst l ∧ y = .lst m ∧ l.length + m.length ≤ sizeLine ∧ R (.lst (l ++ m))) : DX X M (.BinOp a .Add b pos) ds R :=
  dx_op op_cat ha hb fun x y h1 h2 G H v w Q ok t1 t2 k => by
    obtain ⟨l, m, rfl, rfl, hz, hr⟩ := h x y h1 h2
    cases t1 with
    | lst e1 s1 =>
      cases t2 with
      | lst e2 s2 =>
        refine ⟨_, _, _, _, rfl, rfl, ok.sub _ _ e1, ok.sub _ _ e2, by rw [s1.length, s2.length]; exact hz, fun p hp => ?_⟩
        obtain ⟨G', g, t⟩ := new_lst ok hp (s1.append s2)
        exact k _ _ _ _ hr g t
theorem d_catL {l m : List D} (ha : DV X M a ds (.lst l)) (hb : DV X M b ds (.lst m)) (hz : l.length + m.length ≤ sizeLine) : DV X M (.BinOp a .Add b pos) ds (.lst (l ++ m)) := dx_catL ha hb fun x y h1 h2 => ⟨l, m, h1, h2, hz, rfl⟩
theorem Dts.flat {K : PySem.W.Frag} {G : Hp} {vs : List V} {l : List D} (h : Dts K G vs l) : ∀ n : Nat, Dts K G (List.replicate n vs).flatten (List.replicate n l).flatten
  | 0 => .nil
  | n + 1 => by
    rw [List.replicate_succ, List.replicate_succ, List.flatten_cons, List.flatten_cons]
    exact h.append (h.flat n)
theorem dx_rep (ha : DX X M a ds Ra) (hb : DX X M b ds Rb) (h : ∀ x y, Ra x → Rb y → ∃ l k, x = .lst l ∧ y = .int k ∧ -(2 ^ 63) ≤ k ∧ k < 2 ^ 63 ∧ l.length * k.toNat ≤ sizeLine ∧ R (.lst (List.replicate k.toNat l).flatten)) : DX X M (.BinOp a .Mult b pos) ds R :=
  dx_op op_rep ha hb fun x y h1 h2 G H v w Q ok t1 t2 k => by
    obtain ⟨l, n, rfl, rfl, hz1, hz2, hz, hr⟩ := h x y h1 h2
    cases t2
    cases t1 with
    | lst e1 s1 =>
      refine ⟨_, n, _, rfl, rfl, ok.sub _ _ e1, hz1, hz2, by rw [s1.length]; exact hz, fun p hp => ?_⟩
      obtain ⟨G', g, t⟩ := new_lst ok hp (s1.flat _)
      exact k _ _ _ _ hr g t
theorem d_catT {l m : List D} (ha : DV X M a ds (.tup l)) (hb : DV X M b ds (.tup m)) (h1 : l ≠ []) (h2 : m ≠ []) (hz : l.length + m.length ≤ sizeLine) : DV X M (.BinOp a .Add b pos) ds (.tup (l ++ m)) :=
  dx_op op_catT ha hb (is2 fun G H v w Q ok t1 t2 k => by
    cases t1 with
    | tup e1 s1 =>
      cases t2 with
      | tup e2 s2 =>
        rename_i a' vs b' ws
        refine ⟨_, _, vs, ws, rfl, rfl, same_t ok.sub e1.sq, same_t ok.sub e2.sq, ?_, by rw [s1.length, s2.length]; exact hz, ?_, fun _ p hp => ?_⟩
        · rintro rfl; cases s1; exact h1 rfl
        · rintro rfl; cases s2; exact absurd rfl h2
        · obtain ⟨G', g, t⟩ := new_tup ok hp (s1.append s2)
          exact k _ _ _ _ rfl g t)

/-! ### built-ins -/
theorem d_len {n : Str} {p : Pos} {x : D} {m : Nat} (ha : DV X M a ds x) (hx : (∃ l, x = .lst l ∧ l.length = m) ∨ (∃ l, x = .tup l ∧ l.length = m) ∨ ∃ z : Str, x = .str z ∧ z.length = m ∧ z.length ≤ sizeLine) (hm : X.mg n = none) (hg : Gl X n := by rfl) (hv : bootBuiltins n = some (.builtin "len") := by rfl)
    (hn : n ≠ "__name__" := by decide) (hdb : (n == ("__debug__" : Str)) = false := by decide) (hs : starEach [a] X.env = (false, eval a X.env) :: starEach [] X.env := by rfl) (hpl : (backTo pos (starEach [] X.env)).any (·.1) = false := by rfl) : DV X M (.Call (.Name n p) [a] [] pos) ds (.int (m : Int)) :=
  dx_callB (Rl := Is [x]) call_len (da_1 ha hs) (fun l e G H xs Q ok t k => by
    rw [show l = [x] from e] at t
    cases t with
    | cons t1 t2 =>
      cases t2
      rcases hx with ⟨l, rfl, e1⟩ | ⟨l, rfl, e1⟩ | ⟨z, rfl, e1, e2⟩
      · cases t1 with
        | lst h1 s1 => exact ⟨_, m, rfl, .inl ⟨_, SqL.of (ok.sub _ _ h1), by rw [s1.length]; exact e1.symm⟩, k _ _ G H rfl (Gr.refl ok) (.int _)⟩
      · cases t1 with
        | tup h1 s1 => exact ⟨_, m, rfl, .inr ⟨_, same_t ok.sub h1.sq, by rw [s1.length]; exact e1.symm⟩, k _ _ G H rfl (Gr.refl ok) (.int _)⟩
      · cases t1
        exact ⟨_, m, rfl, ⟨e2, e1.symm⟩, k _ _ G H rfl (Gr.refl ok) (.int _)⟩) hg hm hv hn hdb hs hpl
theorem d_all {n : Str} {p : Pos} {bs : List Bool} (hc : X.calm = true) (ha : DV X M a ds (.lst (bs.map .bl))) (hm : X.mg n = none) (hg : Gl X n := by rfl) (hv : bootBuiltins n = some (.builtin "all") := by rfl)
    (hn : n ≠ "__name__" := by decide) (hdb : (n == ("__debug__" : Str)) = false := by decide) (hs : starEach [a] X.env = (false, eval a X.env) :: starEach [] X.env := by rfl) (hpl : (backTo pos (starEach [] X.env)).any (·.1) = false := by rfl) : DV X M (.Call (.Name n p) [a] [] pos) ds (.bl (bs.all id)) :=
  dx_callB (Rl := Is [D.lst (bs.map .bl)]) (cr_all hc) (da_1 ha hs) (fun l e G H xs Q ok t k => by
    rw [show l = [D.lst (bs.map .bl)] from e] at t
    cases t with
    | cons t1 t2 =>
      cases t2
      cases t1 with
      | lst h1 s1 => exact ⟨_, bs, rfl, SqL.of (by rw [← s1.bls]; exact ok.sub _ _ h1), k _ _ G H rfl (Gr.refl ok) (.bl _)⟩) hg hm hv hn hdb hs hpl
theorem dx_int1 {n : Str} {p : Pos} (ha : DX X M a ds Ra) (h : ∀ x, Ra x → (∃ i, x = .int i ∧ R (.int i)) ∨ ∃ q, x = .bl q ∧ R (.int (if q then 1 else 0))) (hm : X.mg n = none) (hg : Gl X n := by rfl) (hv : bootBuiltins n = some (.type "int") := by rfl)
    (hn : n ≠ "__name__" := by decide) (hdb : (n == ("__debug__" : Str)) = false := by decide) (hs : starEach [a] X.env = (false, eval a X.env) :: starEach [] X.env := by rfl) (hpl : (backTo pos (starEach [] X.env)).any (·.1) = false := by rfl) : DX X M (.Call (.Name n p) [a] [] pos) ds R :=
  dx_callTy (Rl := fun l => ∃ x, l = [x] ∧ Ra x) call_int1 (da_consR ha da_nil (fun d l h1 h2 => ⟨d, by rw [show l = [] from h2], h1⟩) hs) (fun l e G H xs Q ok t k => by
    obtain ⟨x, rfl, hx⟩ := e
    cases t with
    | cons t1 t2 =>
      cases t2
      rcases h x hx with ⟨i, rfl, r⟩ | ⟨q, rfl, r⟩
      · cases t1; exact .inl ⟨i, rfl, k _ _ G H r (Gr.refl ok) (.int _)⟩
      · cases t1; exact .inr ⟨q, rfl, k _ _ G H r (Gr.refl ok) (.int _)⟩) hg hm hv hn hdb hs hpl
theorem d_int1 {n : Str} {p : Pos} (ha : DV X M a ds (.int i)) (hm : X.mg n = none) (hg : Gl X n := by rfl) (hv : bootBuiltins n = some (.type "int") := by rfl)
    (hn : n ≠ "__name__" := by decide) (hdb : (n == ("__debug__" : Str)) = false := by decide) (hs : starEach [a] X.env = (false, eval a X.env) :: starEach [] X.env := by rfl) (hpl : (backTo pos (starEach [] X.env)).any (·.1) = false := by rfl) : DV X M (.Call (.Name n p) [a] [] pos) ds (.int i) :=
  dx_int1 ha (fun x h => .inl ⟨i, h, rfl⟩) hm hg hv hn hdb hs hpl
theorem d_intB {n : Str} {p : Pos} {q : Bool} (ha : DV X M a ds (.bl q)) (hm : X.mg n = none) (hg : Gl X n := by rfl) (hv : bootBuiltins n = some (.type "int") := by rfl)
    (hn : n ≠ "__name__" := by decide) (hdb : (n == ("__debug__" : Str)) = false := by decide) (hs : starEach [a] X.env = (false, eval a X.env) :: starEach [] X.env := by rfl) (hpl : (backTo pos (starEach [] X.env)).any (·.1) = false := by rfl) : DV X M (.Call (.Name n p) [a] [] pos) ds (.int (if q then 1 else 0)) :=
  dx_int1 ha (fun x h => .inr ⟨q, h, rfl⟩) hm hg hv hn hdb hs hpl
theorem d_strI {n : Str} {p : Pos} (ha : DV X M a ds (.int i)) (hi : i.natAbs.log2 < 1920) (hm : X.mg n = none) (hg : Gl X n := by rfl) (hv : bootBuiltins n = some (.type "str") := by rfl)
    (hn : n ≠ "__name__" := by decide) (hdb : (n == ("__debug__" : Str)) = false := by decide) (hs : starEach [a] X.env = (false, eval a X.env) :: starEach [] X.env := by rfl) (hpl : (backTo pos (starEach [] X.env)).any (·.1) = false := by rfl) : DV X M (.Call (.Name n p) [a] [] pos) ds (.str (toString i)) :=
  dx_callTy (Rl := Is [D.int i]) call_str_int (da_1 ha hs) (fun l e G H xs Q ok t k => by
    rw [show l = [D.int i] from e] at t
    cases t with
    | cons t1 t2 =>
      cases t2
      cases t1
      exact ⟨i, rfl, hi, k _ _ G H rfl (Gr.refl ok) (.str _)⟩) hg hm hv hn hdb hs hpl
theorem d_intS {n : Str} {p : Pos} (ha : DV X M a ds (.str z)) (hi : PySem.intText? z = some i) (hz : z.length ≤ 640) (hm : X.mg n = none) (hg : Gl X n := by rfl) (hv : bootBuiltins n = some (.type "int") := by rfl)
    (hn : n ≠ "__name__" := by decide) (hdb : (n == ("__debug__" : Str)) = false := by decide) (hs : starEach [a] X.env = (false, eval a X.env) :: starEach [] X.env := by rfl) (hpl : (backTo pos (starEach [] X.env)).any (·.1) = false := by rfl) : DV X M (.Call (.Name n p) [a] [] pos) ds (.int i) :=
  dx_callTy (Rl := Is [D.str z]) call_int_str (da_1 ha hs) (fun l e G H xs Q ok t k => by
    rw [show l = [D.str z] from e] at t
    cases t with
    | cons t1 t2 =>
      cases t2
      cases t1
      exact ⟨z, i, rfl, hi, hz, k _ _ G H rfl (Gr.refl ok) (.int _)⟩) hg hm hv hn hdb hs hpl
/-- tuple(list), tuple(tuple), list(list), list(tuple) -/
theorem d_tupleOf {n : Str} {p : Pos} {l : List D} (ha : DX X M a ds fun x => x = .lst l ∨ x = .tup l) (hm : X.mg n = none) (hg : Gl X n := by rfl) (hv : bootBuiltins n = some (.type "tuple") := by rfl)
    (hn : n ≠ "__name__" := by decide) (hdb : (n == ("__debug__" : Str)) = false := by decide) (hs : starEach [a] X.env = (false, eval a X.env) :: starEach [] X.env := by rfl) (hpl : (backTo pos (starEach [] X.env)).any (·.1) = false := by rfl) : DV X M (.Call (.Name n p) [a] [] pos) ds (.tup l) :=
  dx_callTy (Rl := fun m => ∃ x, m = [x] ∧ (x = .lst l ∨ x = .tup l)) call_tuple_of (da_consR ha da_nil (fun d l h1 h2 => ⟨d, by rw [show l = [] from h2], h1⟩) hs) (fun m e G H xs Q ok t k => by
    obtain ⟨x, rfl, hx⟩ := e
    cases t with
    | cons t1 t2 =>
      cases t2
      rcases hx with rfl | rfl
      · cases t1 with
        | lst h1 s1 =>
          refine ⟨_, _, rfl, .inl ⟨SqL.of (ok.sub _ _ h1), fun q hq => ?_⟩⟩
          obtain ⟨G', g, t⟩ := new_tup ok hq s1
          exact k _ _ _ _ rfl g t
      · cases t1 with
        | tup h1 s1 => exact ⟨_, _, rfl, .inr ⟨same_t ok.sub h1.sq, k _ _ G H rfl (Gr.refl ok) (.tup h1 s1)⟩⟩) hg hm hv hn hdb hs hpl
theorem d_listOf {n : Str} {p : Pos} {l : List D} (ha : DX X M a ds fun x => x = .lst l ∨ x = .tup l) (hm : X.mg n = none) (hg : Gl X n := by rfl) (hv : bootBuiltins n = some (.type "list") := by rfl)
    (hn : n ≠ "__name__" := by decide) (hdb : (n == ("__debug__" : Str)) = false := by decide) (hs : starEach [a] X.env = (false, eval a X.env) :: starEach [] X.env := by rfl) (hpl : (backTo pos (starEach [] X.env)).any (·.1) = false := by rfl) : DV X M (.Call (.Name n p) [a] [] pos) ds (.lst l) :=
  dx_callTy (Rl := fun m => ∃ x, m = [x] ∧ (x = .lst l ∨ x = .tup l)) call_list_of (da_consR ha da_nil (fun d l h1 h2 => ⟨d, by rw [show l = [] from h2], h1⟩) hs) (fun m e G H xs Q ok t k => by
    obtain ⟨x, rfl, hx⟩ := e
    cases t with
    | cons t1 t2 =>
      cases t2
      rcases hx with rfl | rfl
      · cases t1 with
        | lst h1 s1 =>
          refine ⟨_, _, rfl, .inl (SqL.of (ok.sub _ _ h1)), fun q hq => ?_⟩
          obtain ⟨G', g, t⟩ := new_lst ok hq s1
          exact k _ _ _ _ rfl g t
      · cases t1 with
        | tup h1 s1 =>
          refine ⟨_, _, rfl, .inr (same_t ok.sub h1.sq), fun q hq => ?_⟩
          obtain ⟨G', g, t⟩ := new_lst ok hq s1
          exact k _ _ _ _ rfl g t) hg hm hv hn hdb hs hpl
end
end DL
set_option maxHeartbeats 1000000
namespace DL
open PySem PySem.Spec PyProof.Rows L2

/-! ### parts, slices, places -/
theorem PO.imp {X : Cx} {e : Option Expr} {t u : TO} (p : PO X e t) (f : ∀ σ H Q, u σ H Q → t σ H Q) : PO X e u := ⟨fun pins s σ H Q I h => p.run pins s σ H Q I (f σ H Q h)⟩
def cutG {α : Type} (xs : List α) (lo hi : Option Int) : List α := (xs.drop (HT.sIx xs.length 0 lo)).take (HT.sIx xs.length xs.length hi - HT.sIx xs.length 0 lo)
theorem Dts.cut {K : PySem.W.Frag} {G : Hp} {vs : List V} {l : List D} (h : Dts K G vs l) (lo hi : Option Int) : Dts K G (cutV vs lo hi) (cutG l lo hi) := by
  unfold cutV cutG
  rw [h.length]
  exact (h.drop _).take _
theorem cutG_length {α : Type} (xs : List α) (lo hi : Option Int) : (cutG xs lo hi).length ≤ xs.length := by
  unfold cutG
  rw [List.length_take, List.length_drop]
  omega
theorem cut_from {α : Type} (xs : List α) (n : Nat) : cutG xs (some (n : Int)) none = xs.drop n := by
  unfold cutG
  have e1 : HT.sIx xs.length xs.length none = xs.length := rfl
  have e2 : HT.sIx xs.length 0 (some (n : Int)) = min n xs.length := by
    simp only [HT.sIx, show ¬ ((n : Int) < 0) by omega, if_false]
    omega
  rw [e1, e2]
  by_cases h : n ≤ xs.length
  · rw [Nat.min_eq_left h, List.take_of_length_le (by rw [List.length_drop] <;> omega)]
  · rw [Nat.min_eq_right (by omega), List.drop_eq_nil_of_le (Nat.le_refl _), List.drop_eq_nil_of_le (by omega)]
    simp
theorem cut_upto {α : Type} (xs : List α) (n : Nat) : cutG xs none (some (n : Int)) = xs.take n := by
  unfold cutG
  have e2 : HT.sIx xs.length xs.length (some (n : Int)) = min n xs.length := by
    simp only [HT.sIx, show ¬ ((n : Int) < 0) by omega, if_false]
    omega
  have e1 : HT.sIx xs.length 0 none = 0 := rfl
  rw [e1, e2, List.drop_zero, Nat.sub_zero]
  by_cases h : n ≤ xs.length
  · rw [Nat.min_eq_left h]
  · rw [Nat.min_eq_right (by omega), List.take_of_length_le (Nat.le_refl _), List.take_of_length_le (by omega)]
theorem atI_map {α β : Type} (f : α → β) {xs : List α} {i : Int} {x : α} (h : atI xs i = some x) : atI (xs.map f) i = some (f x) := by
  unfold atI at *
  rw [List.length_map]
  cases e : ixN xs.length i with
  | none => rw [e] at h; cases h
  | some j =>
    rw [e] at h
    show (xs.map f)[j]? = _
    have h : xs[j]? = some x := h
    rw [List.getElem?_map, h]
    rfl
theorem Dts.atI {K : PySem.W.Frag} {G : Hp} {vs : List V} {l : List D} {i : Int} {d : D} (h : Dts K G vs l) (e : L2.atI l i = some d) : ∃ v, L2.atI vs i = some v ∧ Dt K G v d := by
  unfold L2.atI at *
  rw [h.length]
  cases q : ixN l.length i with
  | none => rw [q] at e; cases e
  | some j =>
    rw [q] at e
    exact h.get e
section
variable {X : Cx} {M : Mu} {ds : DS} {e a b c : Expr} {es : List Expr} {R Ra Rb : D → Prop} {pos p2 : Pos} {i j : Int} {z u : Str} {lo hi : Option Expr} {ol oh : Option Int}
theorem do_none : DO X M none ds (Is none) := PO.imp po_none fun σ H Q ⟨G, s, ok, k⟩ => k none G H rfl (Gr.refl ok)
theorem dx_some {Rl : Option Int → Prop} (h : DX X M e ds fun d => ∃ i, d = .int i ∧ Rl (some i)) : DO X M (some e) ds Rl :=
  PO.imp (po_some h) fun σ H Q ⟨G, s, ok, k⟩ => ⟨G, s, ok, fun d v G' H' ⟨i, e1, r⟩ g t => by
    subst e1
    cases t
    exact ⟨i, rfl, k _ G' H' r g⟩⟩
theorem do_some (h : DV X M e ds (.int i)) : DO X M (some e) ds (Is (some i)) := dx_some (DX.weak h fun d r => ⟨i, r, rfl⟩)
theorem dx_sl {r : V → Option Int → Option Int → Hp → VK → Prop} {Rl Rh : Option Int → Prop} (hr : SlR X r) (ha : DX X M a ds Ra) (hl : DO X M lo ds Rl) (hh : DO X M hi ds Rh)
    (h : ∀ x l u, Ra x → Rl l → Rh u → ∀ G H v (Q : VK), Ok M G H → Dt X.K G v x → (∀ d v G' H', R d → Gr M G H G' H' → Dt X.K G' v d → Q v H') → r v l u H Q) : DX X M (.Subscript a (.Slice lo hi none p2) pos) ds R :=
  PE.imp (pe_slice hr ha hl hh) fun σ H Q ⟨G, s, ok, k⟩ => ⟨G, s, ok, fun x v G1 H1 r1 g1 t1 => ⟨G1, s.mono g1.ex, g1.ok, fun l G2 H2 r2 g2 => ⟨G2, (s.mono g1.ex).mono g2.ex, g2.ok, fun u G3 H3 r3 g3 =>
    h x l u r1 r2 r3 G3 H3 v Q g3.ok ((t1.mono g2.ex).mono g3.ex) fun d w G4 H4 r4 g4 t4 => k d w G4 H4 r4 (((g1.trans ok g2).trans ok g3).trans ok g4) t4⟩⟩⟩
theorem dx_slL {Rl Rh : Option Int → Prop} (ha : DX X M a ds Ra) (hl : DO X M lo ds Rl) (hh : DO X M hi ds Rh) (h : ∀ x l u, Ra x → Rl l → Rh u → ∃ xs, x = .lst xs ∧ R (.lst (cutG xs l u))) : DX X M (.Subscript a (.Slice lo hi none p2) pos) ds R :=
  dx_sl sl_list ha hl hh fun x l u r1 r2 r3 G H v Q ok t k => by
    obtain ⟨xs, rfl, r⟩ := h x l u r1 r2 r3
    cases t with
    | lst e1 s1 =>
      refine ⟨_, _, rfl, SqL.of (ok.sub _ _ e1), fun p hp => ?_⟩
      obtain ⟨G', g, t⟩ := new_lst ok hp (s1.cut l u)
      exact k _ _ _ _ r g t
theorem d_slL {xs : List D} (ha : DV X M a ds (.lst xs)) (hl : DO X M lo ds (Is ol)) (hh : DO X M hi ds (Is oh)) : DV X M (.Subscript a (.Slice lo hi none p2) pos) ds (.lst (cutG xs ol oh)) :=
  dx_slL ha hl hh fun x l u h1 h2 h3 => ⟨xs, h1, by rw [show l = ol from h2, show u = oh from h3]; rfl⟩
theorem d_slT {xs : List D} (ha : DV X M a ds (.tup xs)) (hl : DO X M lo ds (Is ol)) (hh : DO X M hi ds (Is oh)) : DV X M (.Subscript a (.Slice lo hi none p2) pos) ds (.tup (cutG xs ol oh)) :=
  dx_sl sl_tupA ha hl hh fun x l u r1 r2 r3 G H v Q ok t k => by
    rw [show x = _ from r1] at t
    rw [show l = ol from r2, show u = oh from r3]
    cases t with
    | tup e1 s1 =>
      refine ⟨_, _, rfl, same_t ok.sub e1.sq, fun hw => ?_, fun _ p hp => ?_⟩
      · have e : cutG xs ol oh = xs := by
          rw [s1.length] at hw
          unfold cutG
          rw [hw.1, hw.2]
          simp
        rw [e] at k
        exact k _ _ G H rfl (Gr.refl ok) (.tup e1 s1)
      · obtain ⟨G', g, t⟩ := new_tup ok hp (s1.cut ol oh)
        exact k _ _ _ _ rfl g t
theorem d_slS (ha : DV X M a ds (.str z)) (hl : DO X M lo ds (Is ol)) (hh : DO X M hi ds (Is oh)) (hz : z.length ≤ sizeLine) : DV X M (.Subscript a (.Slice lo hi none p2) pos) ds (.str (cutS z ol oh)) :=
  dx_sl sl_str ha hl hh fun x l u r1 r2 r3 G H v Q ok t k => by
    rw [show x = _ from r1] at t
    rw [show l = ol from r2, show u = oh from r3]
    cases t
    exact ⟨_, rfl, hz, k _ _ G H rfl (Gr.refl ok) (.str _)⟩
theorem dx_ix {r : R2} (hr : IxR X r) (ha : DX X M a ds Ra) (hb : DX X M b ds Rb) (h : ∀ x y, Ra x → Rb y → OpD X.K M r x y R) (hs : PlainIx b) : DX X M (.Subscript a b pos) ds R :=
  PE.imp (pe_ix hr ha hb hs) fun σ H Q ⟨G, s, ok, k⟩ => ⟨G, s, ok, fun x u G1 H1 r1 g1 t1 => ⟨G1, s.mono g1.ex, g1.ok, fun y w G2 H2 r2 g2 t2 =>
    h x y r1 r2 G2 H2 u w Q g2.ok (t1.mono g2.ex) t2 fun d v G3 H3 r3 g3 t3 => k d v G3 H3 r3 ((g1.trans ok g2).trans ok g3) t3⟩⟩
theorem dx_ixL (ha : DX X M a ds Ra) (hb : DX X M b ds Rb) (h : ∀ x y, Ra x → Rb y → ∃ xs i d, x = .lst xs ∧ y = .int i ∧ atI xs i = some d ∧ R d) (hs : PlainIx b := by exact fun _ _ => rfl) : DX X M (.Subscript a b pos) ds R :=
  dx_ix ix_list ha hb (fun x y h1 h2 G H v w Q ok t1 t2 k => by
    obtain ⟨xs, i, d, rfl, rfl, h3, r⟩ := h x y h1 h2
    cases t2
    cases t1 with
    | lst e1 s1 =>
      obtain ⟨v, h4, t⟩ := s1.atI h3
      exact ⟨_, _, i, v, rfl, rfl, SqL.of (ok.sub _ _ e1), h4, k d v G H r (Gr.refl ok) t⟩) hs
theorem d_ixL {xs : List D} {d : D} (ha : DV X M a ds (.lst xs)) (hb : DV X M b ds (.int i)) (h : atI xs i = some d) (hs : PlainIx b := by exact fun _ _ => rfl) : DV X M (.Subscript a b pos) ds d :=
  dx_ixL ha hb (fun x y h1 h2 => ⟨xs, i, d, h1, h2, h, rfl⟩) hs
theorem d_ixT {xs : List D} {d : D} (ha : DV X M a ds (.tup xs)) (hb : DV X M b ds (.int i)) (h : atI xs i = some d) (hs : PlainIx b := by exact fun _ _ => rfl) : DV X M (.Subscript a b pos) ds d :=
  dx_ix ix_tup ha hb (is2 fun G H v w Q ok t1 t2 k => by
    cases t2
    cases t1 with
    | tup e1 s1 =>
      obtain ⟨v, h4, t⟩ := s1.atI h
      exact ⟨_, _, i, v, rfl, rfl, same_t ok.sub e1.sq, h4, k d v G H rfl (Gr.refl ok) t⟩) hs
theorem dx_ixS (ha : DV X M a ds (.str z)) (hb : DX X M b ds Rb) (hz : z.length ≤ sizeLine) (h : ∀ y, Rb y → ∃ i n, y = .int i ∧ atI z.cps.toList i = some n ∧ R (.str ⟨#[n]⟩)) (hs : PlainIx b := by exact fun _ _ => rfl) : DX X M (.Subscript a b pos) ds R :=
  dx_ix ix_str ha hb (fun x y h1 h2 G H v w Q ok t1 t2 k => by
    obtain ⟨i, n, rfl, h3, r⟩ := h y h2
    rw [show x = _ from h1] at t1
    cases t1; cases t2
    exact ⟨z, i, n, rfl, rfl, hz, h3, k _ _ G H r (Gr.refl ok) (.str _)⟩) hs
theorem d_ixS {n : Nat} (ha : DV X M a ds (.str z)) (hb : DV X M b ds (.int i)) (h : atI z.cps.toList i = some n) (hz : z.length ≤ sizeLine) (hs : PlainIx b := by exact fun _ _ => rfl) : DV X M (.Subscript a b pos) ds (.str ⟨#[n]⟩) :=
  dx_ixS ha hb hz (fun y h1 => ⟨i, n, h1, h, rfl⟩) hs

/-! ### isinstance -/
/-- the type of data -/
def tyD : D → Option String
  | .non => some "NoneType" | .bl _ => some "bool" | .int _ => some "int" | .str _ => some "str" | .lst _ => some "list" | .tup _ => some "tuple" | .dk _ => some "dict" | _ => none
theorem tyx {K : PySem.W.Frag} {G H : Hp} {v : V} {d : D} {t : String} (ss : Same G H) (h : Dt K G v d) (e : tyD d = some t) : TyX K H v (.type t) := by
  cases h with
  | non => cases e; exact .base .non
  | bl b => cases e; exact .base (.bl b)
  | int i => cases e; exact .base (.int i)
  | str i => cases e; exact .base (.str i)
  | lst h _ => cases e; exact .base (.lst (ss _ _ h))
  | tup h _ =>
    cases e
    rcases same_t ss h.sq with (h | ⟨o, h⟩) | ⟨o, _, _, h, c, _⟩
    · exact .base (.tup h)
    · exact .fTuple h
    · exact .kTuple h c
  | dk h _ _ =>
    cases e
    rcases same_rd ss h with h | ⟨o, h⟩
    · exact .base (.dK h)
    · exact .fDict h
  | dt h _ _ => cases e
  | ob _ _ _ => cases e
  | raw v => cases e
theorem d_isi {n m : Str} {T t : String} {p q : Pos} {x : D} {r : Bool} (ha : DV X M a ds x) (ht : tyD x = some t) (hr : kitB t T = some r) (hm : X.mg n = none) (hm2 : X.mg m = none) (hg : Gl X n := by rfl) (hv : bootBuiltins n = some (.builtin "isinstance") := by rfl)
    (hg2 : Gl X m := by rfl) (hv2 : bootBuiltins m = some (.type T) := by rfl) (hn : n ≠ "__name__" := by decide) (hdb : (n == ("__debug__" : Str)) = false := by decide) (hn2 : m ≠ "__name__" := by decide) (hdb2 : (m == ("__debug__" : Str)) = false := by decide)
    (hs : starEach [a, .Name m q] X.env = (false, eval a X.env) :: starEach [.Name m q] X.env := by rfl) (hs2 : starEach [.Name m q] X.env = (false, eval (.Name m q) X.env) :: starEach [] X.env := by rfl) (hpl : (backTo pos (starEach [.Name m q] X.env)).any (·.1) = false := by rfl) :
    DV X M (.Call (.Name n p) [a, .Name m q] [] pos) ds (.bl r) :=
  dx_callB (Rl := Is [x, .raw (.ty T)]) call_isi (da_cons ha (da_1 (dx_c (pe_bltn hg2 hm2 hv2 (v := .ty T) rfl hn2 hdb2) fun _ => .raw _) hs2) hs) (fun l e G H xs Q ok t1 k => by
    rw [show l = [x, .raw (.ty T)] from e] at t1
    cases t1 with
    | cons t1 t2 =>
      cases t2 with
      | cons t2 t3 =>
        cases t3; cases t2
        exact ⟨_, _, _, _, r, rfl, .ty T, tyx ok.sub t1 ht, kit_ty hr, k _ _ G H rfl (Gr.refl ok) (.bl r)⟩) hg hm hv hn hdb hs hpl
/-- isinstance(x, (T1, T2)) -/
theorem d_isi2 {n m m2 : Str} {T1 T2 t : String} {p q q2 q3 : Pos} {x1} {x : D} {r1 r2 : Bool} (ha : DV X M a ds x) (ht : tyD x = some t) (hr1 : kitB t T1 = some r1) (hr2 : kitB t T2 = some r2) (hm : X.mg n = none) (hm1 : X.mg m = none) (hm2 : X.mg m2 = none)
    (hg : Gl X n := by rfl) (hv : bootBuiltins n = some (.builtin "isinstance") := by rfl)
    (hg1 : Gl X m := by rfl) (hv1 : bootBuiltins m = some (.type T1) := by rfl) (hn1 : m ≠ "__name__" := by decide) (hdb1 : (m == ("__debug__" : Str)) = false := by decide)
    (hg2 : Gl X m2 := by rfl) (hv2 : bootBuiltins m2 = some (.type T2) := by rfl) (hn2 : m2 ≠ "__name__" := by decide) (hdb2 : (m2 == ("__debug__" : Str)) = false := by decide)
    (hn : n ≠ "__name__" := by decide) (hdb : (n == ("__debug__" : Str)) = false := by decide)
    (hs : starEach [a, .Tuple [.Name m q, .Name m2 q2] x1 q3] X.env = (false, eval a X.env) :: starEach [.Tuple [.Name m q, .Name m2 q2] x1 q3] X.env := by rfl) (hs2 : starEach [.Tuple [.Name m q, .Name m2 q2] x1 q3] X.env = (false, eval (.Tuple [.Name m q, .Name m2 q2] x1 q3) X.env) :: starEach [] X.env := by rfl)
    (hs3 : starEach [.Name m q, .Name m2 q2] X.env = (false, eval (.Name m q) X.env) :: starEach [.Name m2 q2] X.env := by rfl) (hs4 : starEach [.Name m2 q2] X.env = (false, eval (.Name m2 q2) X.env) :: starEach [] X.env := by rfl)
    (hpl : (backTo pos (starEach [.Tuple [.Name m q, .Name m2 q2] x1 q3] X.env)).any (·.1) = false := by rfl) :
    DV X M (.Call (.Name n p) [a, .Tuple [.Name m q, .Name m2 q2] x1 q3] [] pos) ds (.bl (r1 || r2)) :=
  PE.imp (pe_callB call_isiT hg hm hv (pa_cons ha (pa_cons (pe_tup (pa_cons (pe_bltn hg1 hm1 hv1 (v := .ty T1) rfl hn1 hdb1) (pa_cons (pe_bltn hg2 hm2 hv2 (v := .ty T2) rfl hn2 hdb2) pa_nil hs4) hs3)) pa_nil hs2) hs) hn hdb hs hpl) fun σ H Q ⟨G, s, ok, k⟩ =>
    ⟨G, s, ok, fun d v G1 H1 e1 g1 t1 => ⟨by show 2 ≤ sizeLine; decide, fun tp htp => by
      rw [show d = x from e1] at t1
      have g2 := Gr.drop (o := .tup [.ty T1, .ty T2]) g1.ok htp (fun ps z => by cases z)
      refine ⟨_, tp, [.ty T1, .ty T2], .type t, [.type T1, .type T2], r1 || r2, rfl, upd_same, .cons (.ty T1) (.cons (.ty T2) .nil), tyx g2.ok.sub t1 ht, ?_, k _ _ G1 _ rfl (g1.trans ok g2) (.bl _)⟩
      refine kitAny_cons (kit_ty hr1) (fun h => ?_) (fun h => by rw [h]; rfl)
      refine kitAny_cons (kit_ty hr2) (fun h2 => ?_) (fun h2 => by rw [h2]; simp)
      rw [h, h2]
      rfl⟩⟩
end
end DL
set_option maxHeartbeats 1000000
namespace DL
open PySem PySem.Spec PyProof.Rows L2

/-! ### data as the library's plain data -/
def pyK : Key → PyData
  | .inl i => .int i
  | .inr x => .str x
mutual
def py : D → PyData
  | .non => .none
  | .bl b => .bool b
  | .int i => .int i
  | .str x => .str x
  | .lst xs => .list (pys xs)
  | .tup xs => .tuple (pys xs)
  | .dk kvs => .dict (pyk kvs)
  | .dt _ => .none
  | .ob _ _ => .none
  | .raw _ => .none
def pys : List D → List PyData
  | [] => []
  | d :: ds => py d :: pys ds
def pyk : List (Key × D) → List (PyData × PyData)
  | [] => []
  | (k, d) :: r => (pyK k, py d) :: pyk r
end
theorem pys_map : ∀ ds : List D, pys ds = ds.map py
  | [] => rfl
  | d :: ds => by rw [pys, pys_map ds]; rfl
mutual
/-- none, truths, numbers, texts, lists and tuples of these -/
def flat : D → Bool
  | .non => true
  | .bl _ => true
  | .int _ => true
  | .str _ => true
  | .lst xs => flats xs
  | .tup xs => flats xs
  | .dk _ => false
  | .dt _ => false
  | .ob _ _ => false
  | .raw _ => false
def flats : List D → Bool
  | [] => true
  | d :: ds => flat d && flats ds
end
theorem flats_of : ∀ {ds : List D}, (∀ d ∈ ds, flat d = true) → flats ds = true
  | [], _ => by rw [flats]
  | d :: ds, h => by rw [flats, h d List.mem_cons_self, flats_of fun e he => h e (List.mem_cons_of_mem _ he)]; rfl
theorem flats_all : ∀ {ds : List D}, flats ds = true → ∀ d ∈ ds, flat d = true
  | [], _, _, h => by cases h
  | d :: ds, h, e, he => by
    rw [flats, Bool.and_eq_true] at h
    rcases List.mem_cons.mp he with rfl | he
    · exact h.1
    · exact flats_all h.2 e he
mutual
theorem Dt.dp {K : PySem.W.Frag} {G H : Hp} (ss : Same G H) : ∀ {v : V} {d : D}, Dt K G v d → flat d = true → Dp K H v (py d)
  | _, _, .non, _ => by rw [py]; exact .non
  | _, _, .bl b, _ => by rw [py]; exact .bl b
  | _, _, .int i, _ => by rw [py]; exact .int i
  | _, _, .str x, _ => by rw [py]; exact .str x
  | _, _, .lst h t, f => by
    rw [flat] at f
    rw [py]
    exact .lst (SqL.of (ss _ _ h)) (Dts.dp ss t f)
  | _, _, .tup h t, f => by
    rw [flat] at f
    rw [py]
    exact .tup (same_t ss h.sq) (Dts.dp ss t f)
  | _, _, .dk _ _ _, f => by rw [flat] at f; cases f
  | _, _, .dt _ _ _, f => by rw [flat] at f; cases f
  | _, _, .ob _ _ _, f => by rw [flat] at f; cases f
  | _, _, .raw _, f => by rw [flat] at f; cases f
theorem Dts.dp {K : PySem.W.Frag} {G H : Hp} (ss : Same G H) : ∀ {vs : List V} {ds : List D}, Dts K G vs ds → flats ds = true → DpAll K H vs (pys ds)
  | _, _, .nil, _ => by rw [pys]; exact .nil
  | _, _, .cons h t, f => by
    rw [flats, Bool.and_eq_true] at f
    rw [pys]
    exact .cons (Dt.dp ss h f.1) (Dts.dp ss t f.2)
end
/-! ### shapes -/
/-- flat, its texts sound, of at most that depth -/
def Shp (n : Nat) (d : D) : Prop := flat d = true ∧ (py d).canLay0 = true ∧ (py d).depth ≤ n
def sOk (x : Str) : Prop := PyData.canLay0 (.str x) = true
theorem Shp.shaped {n : Nat} {d : D} (h : Shp n d) (hn : n ≤ 64) : SeqAt.shaped (py d) = true := by
  show ((py d).canLay0 && decide ((py d).depth ≤ 64)) = true
  rw [h.2.1, decide_eq_true (Nat.le_trans h.2.2 hn)]
  rfl
theorem shp_str {x : Str} (h : sOk x) : Shp 0 (.str x) := ⟨by rw [flat], by rw [py]; exact h, by rw [py, PyData.depth]; exact Nat.le_refl _⟩
theorem shp_bl {b : Bool} : Shp 0 (.bl b) := ⟨by rw [flat], by rw [py, PyData.canLay0], by rw [py, PyData.depth]; exact Nat.le_refl _⟩
theorem shp_int {i : Int} : Shp 0 (.int i) := ⟨by rw [flat], by rw [py, PyData.canLay0], by rw [py, PyData.depth]; exact Nat.le_refl _⟩
theorem shp_all {n : Nat} : ∀ {ds : List D}, (∀ d ∈ ds, Shp n d) → flats ds = true ∧ PyData.canLayAll0 (pys ds) = true ∧ PyData.depthAll (pys ds) ≤ n
  | [], _ => ⟨by rw [flats], by rw [pys, PyData.canLayAll0], by rw [pys, PyData.depthAll]; exact Nat.zero_le _⟩
  | d :: ds, h => by
    obtain ⟨a, b, c⟩ := h d List.mem_cons_self
    obtain ⟨a', b', c'⟩ := shp_all (ds := ds) fun e he => h e (List.mem_cons_of_mem _ he)
    refine ⟨by rw [flats, a, a']; rfl, by rw [pys, PyData.canLayAll0, b, b']; rfl, ?_⟩
    rw [pys, PyData.depthAll]
    exact Nat.max_le.mpr ⟨c, c'⟩
theorem shp_lst {n : Nat} {ds : List D} (h : ∀ d ∈ ds, Shp n d) : Shp (n + 1) (.lst ds) := by
  obtain ⟨a, b, c⟩ := shp_all h
  exact ⟨by rw [flat]; exact a, by rw [py, PyData.canLay0]; exact b, by rw [py, PyData.depth]; exact Nat.succ_le_succ c⟩
theorem shp_tup {n : Nat} {ds : List D} (h : ∀ d ∈ ds, Shp n d) : Shp (n + 1) (.tup ds) := by
  obtain ⟨a, b, c⟩ := shp_all h
  exact ⟨by rw [flat]; exact a, by rw [py, PyData.canLay0]; exact b, by rw [py, PyData.depth]; exact Nat.succ_le_succ c⟩
theorem Shp.mono {n m : Nat} {d : D} (h : Shp n d) (l : n ≤ m) : Shp m d := ⟨h.1, h.2.1, Nat.le_trans h.2.2 l⟩
/-! ### pairs, answers -/
abbrev Pr := Str × Str
abbrev An := Str × Str × Bool
def dPr (p : Pr) : D := .tup [.str p.1, .str p.2]
def dAn (a : An) : D := .tup [.str a.1, .str a.2.1, .bl a.2.2]
abbrev dNs (xs : List Str) : List D := xs.map D.str
theorem shp_nss {xs : List Str} (h : ∀ x ∈ xs, sOk x) : ∀ d ∈ dNs xs, Shp 0 d := fun d hd => by
  obtain ⟨x, hx, rfl⟩ := List.mem_map.mp hd
  exact shp_str (h x hx)
theorem shp_pr {p : Pr} (h1 : sOk p.1) (h2 : sOk p.2) : Shp 1 (dPr p) := shp_tup fun d hd => by
  rcases List.mem_cons.mp hd with rfl | hd
  · exact shp_str h1
  rcases List.mem_cons.mp hd with rfl | hd
  · exact shp_str h2
  · cases hd
theorem shp_an {a : An} (h1 : sOk a.1) (h2 : sOk a.2.1) : Shp 1 (dAn a) := shp_tup fun d hd => by
  rcases List.mem_cons.mp hd with rfl | hd
  · exact shp_str h1
  rcases List.mem_cons.mp hd with rfl | hd
  · exact shp_str h2
  rcases List.mem_cons.mp hd with rfl | hd
  · exact shp_bl
  · cases hd
theorem beqS (x y : Str) : (x == y) = decide (x = y) := by
  by_cases h : x = y
  · subst h; simp
  · rw [decide_eq_false h]; exact beq_eq_false_iff_ne.mpr h
theorem eqv_str (x y : Str) : PyData.eqv (py (.str x)) (py (.str y)) = decide (x = y) := by
  rw [py, py, PyData.eqv]; exact beqS x y
theorem eqv_pr (p q : Pr) : PyData.eqv (py (dPr p)) (py (dPr q)) = decide (p = q) := by
  obtain ⟨a, b⟩ := p
  obtain ⟨c, d⟩ := q
  have e : PyData.eqv (py (dPr (a, b))) (py (dPr (c, d))) = ((a == c) && ((b == d) && true)) := by simp only [dPr, py, pys, PyData.eqv, PyData.eqvAll]
  rw [e, beqS, beqS, Bool.and_true]
  by_cases h1 : a = c
  · by_cases h2 : b = d
    · subst h1 h2; simp
    · rw [decide_eq_false h2, Bool.and_false, decide_eq_false fun q => h2 (Prod.mk.inj q).2]
  · rw [decide_eq_false h1, Bool.false_and, decide_eq_false fun q => h1 (Prod.mk.inj q).1]
theorem eqv_all {α : Type} [DecidableEq α] {f : α → D} (h : ∀ x y, PyData.eqv (py (f x)) (py (f y)) = decide (x = y)) : ∀ xs ys : List α, PyData.eqvAll (pys (xs.map f)) (pys (ys.map f)) = decide (xs = ys)
  | [], [] => by simp [pys, PyData.eqvAll]
  | [], y :: ys => by simp [pys, PyData.eqvAll]
  | x :: xs, [] => by simp [pys, PyData.eqvAll]
  | x :: xs, y :: ys => by
    rw [List.map_cons, List.map_cons, pys, pys, PyData.eqvAll, h, eqv_all h xs ys]
    by_cases h1 : x = y
    · by_cases h2 : xs = ys
      · subst h1 h2; simp
      · rw [decide_eq_false h2, Bool.and_false, decide_eq_false fun q => h2 (List.cons.inj q).2]
    · rw [decide_eq_false h1, Bool.false_and, decide_eq_false fun q => h1 (List.cons.inj q).1]
theorem any_eqv {α : Type} [DecidableEq α] {f : α → D} (h : ∀ x y, PyData.eqv (py (f x)) (py (f y)) = decide (x = y)) (x : α) : ∀ xs : List α, (pys (xs.map f)).any (fun z => PyData.eqv z (py (f x))) = decide (x ∈ xs)
  | [] => by simp [pys]
  | y :: ys => by
    rw [List.map_cons, pys, List.any_cons, h, any_eqv h x ys]
    by_cases h1 : y = x
    · subst h1; simp
    · rw [decide_eq_false h1, Bool.false_or]
      have : (x ∈ y :: ys) ↔ (x ∈ ys) := List.mem_cons.trans ⟨fun q => q.resolve_left fun e => h1 e.symm, .inr⟩
      simp only [this]

/-! ### in, == -/
section
variable {X : Cx} {M : Mu} {ds : DS} {e a b c : Expr} {R Ra Rb : D → Prop} {pos : Pos} {i j : Int} {z u : Str}
/-- .. in a tuple of data -/
def rInTD (K : PySem.W.Frag) (neg : Bool) : R2 := fun x y H Q => ∃ d ds, Dp K H x d ∧ Dp K H y (.tuple ds) ∧ SeqAt.shaped d = true ∧ SeqAt.shaped (.tuple ds) = true ∧ Q (.bl (if neg then !ds.any fun z => PyData.eqv z d else ds.any fun z => PyData.eqv z d)) H
theorem op_inTD (hu : X.A.units + 65 < cLine) : OpR X (compareOp .In) (rInTD X.K false) := by
  intro pins s σ H x y v u Q I rx ry h
  obtain ⟨d, ds, hd, he, sd, se, q⟩ := h
  obtain ⟨as, r1⟩ := Dp.reads I d x v hd rx
  obtain ⟨bs, r2⟩ := Dp.reads I (.tuple ds) y u he ry
  exact SeqAt.in_tuple_reads r2 r1 (SeqAt.canLay_of_shaped se) (SeqAt.canLay_of_shaped sd) (room_in_shaped sd hu) ⟨.bl _, H, I, rfl, q⟩
theorem op_notInTD (hu : X.A.units + 65 < cLine) : OpR X (compareOp .NotIn) (rInTD X.K true) := by
  intro pins s σ H x y v u Q I rx ry h
  obtain ⟨d, ds, hd, he, sd, se, q⟩ := h
  obtain ⟨as, r1⟩ := Dp.reads I d x v hd rx
  obtain ⟨bs, r2⟩ := Dp.reads I (.tuple ds) y u he ry
  exact SeqAt.notIn_tuple_reads r2 r1 (SeqAt.canLay_of_shaped se) (SeqAt.canLay_of_shaped sd) (room_in_shaped sd hu) ⟨.bl _, H, I, rfl, q⟩
theorem shp_mapd {α : Type} {f : α → D} {xs : List α} {n : Nat} (ss : ∀ y ∈ xs, Shp n (f y)) : ∀ d ∈ xs.map f, Shp n d := fun d hd => by
  obtain ⟨y, hy, rfl⟩ := List.mem_map.mp hd
  exact ss y hy
section
variable {K : PySem.W.Frag} {α : Type} [DecidableEq α] {f : α → D} {x : α} {xs : List α} {n : Nat}
theorem opd_inL (hf : ∀ x y, PyData.eqv (py (f x)) (py (f y)) = decide (x = y)) (sx : Shp n (f x)) (ss : ∀ y ∈ xs, Shp n (f y)) (hn : n ≤ 63) : OpD K M (rInD K) (f x) (.lst (xs.map f)) (Is (.bl (decide (x ∈ xs)))) := fun G H v w Q ok t1 t2 k => by
  have hs := shp_mapd ss
  have h2 := t2.dp ok.sub (shp_lst hs).1
  have h3 := (shp_lst hs).shaped (Nat.succ_le_succ hn)
  rw [py] at h2 h3
  refine ⟨_, _, t1.dp ok.sub sx.1, h2, sx.shaped (by omega), h3, ?_⟩
  rw [any_eqv hf]
  exact k _ _ G H rfl (Gr.refl ok) (.bl _)
theorem opd_ninL (hf : ∀ x y, PyData.eqv (py (f x)) (py (f y)) = decide (x = y)) (sx : Shp n (f x)) (ss : ∀ y ∈ xs, Shp n (f y)) (hn : n ≤ 63) : OpD K M (rNotInD K) (f x) (.lst (xs.map f)) (Is (.bl (!decide (x ∈ xs)))) := fun G H v w Q ok t1 t2 k => by
  have hs := shp_mapd ss
  have h2 := t2.dp ok.sub (shp_lst hs).1
  have h3 := (shp_lst hs).shaped (Nat.succ_le_succ hn)
  rw [py] at h2 h3
  refine ⟨_, _, t1.dp ok.sub sx.1, h2, sx.shaped (by omega), h3, ?_⟩
  rw [any_eqv hf]
  exact k _ _ G H rfl (Gr.refl ok) (.bl _)
theorem opd_inT (hf : ∀ x y, PyData.eqv (py (f x)) (py (f y)) = decide (x = y)) (sx : Shp n (f x)) (ss : ∀ y ∈ xs, Shp n (f y)) (hn : n ≤ 63) : OpD K M (rInTD K false) (f x) (.tup (xs.map f)) (Is (.bl (decide (x ∈ xs)))) := fun G H v w Q ok t1 t2 k => by
  have hs := shp_mapd ss
  have h2 := t2.dp ok.sub (shp_tup hs).1
  have h3 := (shp_tup hs).shaped (Nat.succ_le_succ hn)
  rw [py] at h2 h3
  refine ⟨_, _, t1.dp ok.sub sx.1, h2, sx.shaped (by omega), h3, ?_⟩
  rw [any_eqv hf]
  exact k _ _ G H rfl (Gr.refl ok) (.bl _)
theorem opd_ninT (hf : ∀ x y, PyData.eqv (py (f x)) (py (f y)) = decide (x = y)) (sx : Shp n (f x)) (ss : ∀ y ∈ xs, Shp n (f y)) (hn : n ≤ 63) : OpD K M (rInTD K true) (f x) (.tup (xs.map f)) (Is (.bl (!decide (x ∈ xs)))) := fun G H v w Q ok t1 t2 k => by
  have hs := shp_mapd ss
  have h2 := t2.dp ok.sub (shp_tup hs).1
  have h3 := (shp_tup hs).shaped (Nat.succ_le_succ hn)
  rw [py] at h2 h3
  refine ⟨_, _, t1.dp ok.sub sx.1, h2, sx.shaped (by omega), h3, ?_⟩
  rw [any_eqv hf]
  exact k _ _ G H rfl (Gr.refl ok) (.bl _)
end
theorem opd_eqD {K : PySem.W.Frag} {x y : D} {n : Nat} {p : Bool} (hx : Shp n x) (hy : Shp n y) (hn : n ≤ 64) (hp : PyData.eqv (py x) (py y) = p) : OpD K M (rEqD K) x y (Is (.bl p)) := fun G H v w Q ok t1 t2 k => by
  refine ⟨_, _, t1.dp ok.sub hx.1, t2.dp ok.sub hy.1, hx.shaped hn, hy.shaped hn, ?_⟩
  rw [hp]
  exact k _ _ G H rfl (Gr.refl ok) (.bl _)
theorem opd_neD {K : PySem.W.Frag} {x y : D} {n : Nat} {p : Bool} (hx : Shp n x) (hy : Shp n y) (hn : n ≤ 64) (hp : PyData.eqv (py x) (py y) = p) : OpD K M (rNeD K) x y (Is (.bl (!p))) := fun G H v w Q ok t1 t2 k => by
  refine ⟨_, _, t1.dp ok.sub hx.1, t2.dp ok.sub hy.1, hx.shaped hn, hy.shaped hn, ?_⟩
  rw [hp]
  exact k _ _ G H rfl (Gr.refl ok) (.bl _)
/-- a comparison: as a value, as a test -/
structure CmpD (X : Cx) (M : Mu) (op : CmpOp) (a b : Expr) (ds : DS) (p : Bool) : Prop where
  v : ∀ {pos : Pos}, DV X M (.Compare a [op] [b] pos) ds (.bl p)
  t : ∀ {pos : Pos}, DT X M (.Compare a [op] [b] pos) ds (Is p)
theorem cmp_mk {op : CmpOp} {r : R2} {x y : D} {p : Bool} (ho : OpR X (compareOp op) r) (ha : DV X M a ds x) (hb : DV X M b ds y) (hm : behindInMarks op b = false) (h : OpD X.K M r x y (Is (.bl p))) : CmpD X M op a b ds p :=
  ⟨dx_cmp ho ha hb hm (is2 h), dt_cmp ho ha hb hm (is2 fun G H v w Q ok t1 t2 k => h G H v w Q ok t1 t2 fun d u G' H' r g t => k d u G' H' ⟨p, r, rfl⟩ g t)⟩
theorem CmpD.to {op : CmpOp} {p q : Bool} (h : CmpD X M op a b ds p) (e : p = q) : CmpD X M op a b ds q := e ▸ h
/-- x in l, l a list or a tuple of f-data -/
theorem c_in {α : Type} [DecidableEq α] {f : α → D} {x : α} {xs : List α} {l : D} {n : Nat} (hu : X.A.units + 65 < cLine) (hf : ∀ x y, PyData.eqv (py (f x)) (py (f y)) = decide (x = y)) (ha : DV X M a ds (f x)) (hb : DV X M b ds l) (hl : l = .lst (xs.map f) ∨ l = .tup (xs.map f))
    (sx : Shp n (f x)) (ss : ∀ y ∈ xs, Shp n (f y)) (hn : n ≤ 63) (hm : behindInMarks .In b = false := by rfl) : CmpD X M .In a b ds (decide (x ∈ xs)) := by
  rcases hl with rfl | rfl
  · exact cmp_mk (op_inD hu) ha hb hm (opd_inL hf sx ss hn)
  · exact cmp_mk (op_inTD hu) ha hb hm (opd_inT hf sx ss hn)
theorem c_nin {α : Type} [DecidableEq α] {f : α → D} {x : α} {xs : List α} {l : D} {n : Nat} (hu : X.A.units + 65 < cLine) (hf : ∀ x y, PyData.eqv (py (f x)) (py (f y)) = decide (x = y)) (ha : DV X M a ds (f x)) (hb : DV X M b ds l) (hl : l = .lst (xs.map f) ∨ l = .tup (xs.map f))
    (sx : Shp n (f x)) (ss : ∀ y ∈ xs, Shp n (f y)) (hn : n ≤ 63) (hm : behindInMarks .NotIn b = false := by rfl) : CmpD X M .NotIn a b ds (!decide (x ∈ xs)) := by
  rcases hl with rfl | rfl
  · exact cmp_mk (op_notInD hu) ha hb hm (opd_ninL hf sx ss hn)
  · exact cmp_mk (op_notInTD hu) ha hb hm (opd_ninT hf sx ss hn)
/-- == and != of flat data -/
theorem c_eqD {x y : D} {n : Nat} {p : Bool} (hu : X.A.units + 64 < cLine) (ha : DV X M a ds x) (hb : DV X M b ds y) (hx : Shp n x) (hy : Shp n y) (hn : n ≤ 64) (hp : PyData.eqv (py x) (py y) = p) : CmpD X M .Eq a b ds p := cmp_mk (op_eqD hu) ha hb (nomark _) (opd_eqD hx hy hn hp)
theorem c_neD {x y : D} {n : Nat} {p : Bool} (hu : X.A.units + 64 < cLine) (ha : DV X M a ds x) (hb : DV X M b ds y) (hx : Shp n x) (hy : Shp n y) (hn : n ≤ 64) (hp : PyData.eqv (py x) (py y) = p) : CmpD X M .NotEq a b ds (!p) := cmp_mk (op_neD hu) ha hb (nomark _) (opd_neD hx hy hn hp)
/-- numbers, texts, truths -/
theorem opd_int {K : PySem.W.Frag} {p : Int → Int → Bool} : OpD K M (rI0 fun i j => .bl (p i j)) (.int i) (.int j) (Is (.bl (p i j))) := fun G H v w Q ok t1 t2 k => by
  cases t1; cases t2
  exact ⟨i, j, rfl, rfl, k _ _ G H rfl (Gr.refl ok) (.bl _)⟩
theorem c_lt (ha : DV X M a ds (.int i)) (hb : DV X M b ds (.int j)) : CmpD X M .Lt a b ds (decide (i < j)) := cmp_mk op_lt ha hb (nomark _) opd_int
theorem c_le (ha : DV X M a ds (.int i)) (hb : DV X M b ds (.int j)) : CmpD X M .LtE a b ds (decide (i ≤ j)) := cmp_mk op_le ha hb (nomark _) opd_int
theorem c_gt (ha : DV X M a ds (.int i)) (hb : DV X M b ds (.int j)) : CmpD X M .Gt a b ds (decide (j < i)) := cmp_mk op_gt ha hb (nomark _) opd_int
theorem c_ge (ha : DV X M a ds (.int i)) (hb : DV X M b ds (.int j)) : CmpD X M .GtE a b ds (decide (j ≤ i)) := cmp_mk op_ge ha hb (nomark _) opd_int
theorem c_eqS (ha : DV X M a ds (.str z)) (hb : DV X M b ds (.str u)) : CmpD X M .Eq a b ds (decide (z = u)) := cmp_mk op_eq ha hb (nomark _) (opd_eq dt_is_str dt_is_str rfl (dec_vstr _ _))
theorem c_neS (ha : DV X M a ds (.str z)) (hb : DV X M b ds (.str u)) : CmpD X M .NotEq a b ds (!decide (z = u)) := cmp_mk op_ne ha hb (nomark _) (opd_ne dt_is_str dt_is_str rfl (dec_vstr _ _))
theorem c_eqI (ha : DV X M a ds (.int i)) (hb : DV X M b ds (.int j)) : CmpD X M .Eq a b ds (decide (i = j)) := cmp_mk op_eq ha hb (nomark _) (opd_eq dt_is_int dt_is_int rfl (dec_vint _ _))
theorem c_neI (ha : DV X M a ds (.int i)) (hb : DV X M b ds (.int j)) : CmpD X M .NotEq a b ds (!decide (i = j)) := cmp_mk op_ne ha hb (nomark _) (opd_ne dt_is_int dt_is_int rfl (dec_vint _ _))
theorem c_eqB {p q : Bool} (ha : DV X M a ds (.bl p)) (hb : DV X M b ds (.bl q)) : CmpD X M .Eq a b ds (decide (p = q)) := cmp_mk op_eq ha hb (nomark _) (opd_eq dt_is_bl dt_is_bl rfl (dec_vbl _ _))
theorem c_neB {p q : Bool} (ha : DV X M a ds (.bl p)) (hb : DV X M b ds (.bl q)) : CmpD X M .NotEq a b ds (!decide (p = q)) := cmp_mk op_ne ha hb (nomark _) (opd_ne dt_is_bl dt_is_bl rfl (dec_vbl _ _))
theorem eqv_nil (xs : List D) : PyData.eqv (py (.lst xs)) (py (.lst [])) = xs.isEmpty := by
  cases xs <;> simp [py, pys, PyData.eqv, PyData.eqvAll]

/-! ### texts: join, split -/
theorem dx_m1 {id : String} {name : Str} {apos : Pos} {r : V → List V → Hp → VK → Prop} (slot : Slot "str" name id) (ty : typeOf (.builtin id) = pure (.type "method_descriptor")) (rule : MtR X id r) (ha : DV X M a ds (.str z)) (hb : DX X M b ds Rb)
    (h : ∀ y, Rb y → ∀ G H w (Q : VK), Ok M G H → Dt X.K G w y → (∀ d v G' H', R d → Gr M G H G' H' → Dt X.K G' v d → Q v H') → r (.str z) [w] H Q) (hs : starEach [b] X.env = [(false, eval b X.env)] := by rfl)
    (hbase : attributeBase a name X.env (eval a X.env) = eval a X.env := by rfl) (hline : (apos.endLine == pos.line) = true := by rfl) : DX X M (.Call (.Attribute a name apos) [b] [] pos) ds R :=
  PE.imp (pe_m1 slot ty rule ha hb hs hbase hline) fun σ H Q ⟨G, s, ok, k⟩ => ⟨G, s, ok, fun x v G1 H1 r1 g1 t1 => by
    rw [show x = .str z from r1] at t1
    cases t1
    exact ⟨⟨z, rfl⟩, G1, s.mono g1.ex, g1.ok, fun y w G2 H2 r2 g2 t2 => h y r2 G2 H2 w Q g2.ok t2 fun d v G3 H3 r3 g3 t3 => k d v G3 H3 r3 ((g1.trans ok g2).trans ok g3) t3⟩⟩
theorem dx_join {apos : Pos} (ha : DV X M a ds (.str z)) (hb : DX X M b ds Rb) (h : ∀ y, Rb y → ∃ ys : List Str, y = .lst (ys.map .str) ∧ (ys.map (·.length)).sum + ys.length * z.length ≤ 16777216 ∧ R (.str (Txt.join z ys)))
    (hs : starEach [b] X.env = [(false, eval b X.env)] := by rfl) (hbase : attributeBase a "join" X.env (eval a X.env) = eval a X.env := by rfl) (hline : (apos.endLine == pos.line) = true := by rfl) : DX X M (.Call (.Attribute a "join" apos) [b] [] pos) ds R :=
  dx_m1 F.slot_str_join F.type_str_join mt_join ha hb (fun y hy G H w Q ok t k => by
    obtain ⟨ys, rfl, hz, r⟩ := h y hy
    cases t with
    | lst h1 s1 =>
      rw [s1.strs] at h1
      exact ⟨z, _, ys, rfl, rfl, .inl (SqL.of (ok.sub _ _ h1)), hz, k _ _ G H r (Gr.refl ok) (.str _)⟩) hs hbase hline
theorem d_join {apos : Pos} {ys : List Str} (ha : DV X M a ds (.str z)) (hb : DV X M b ds (.lst (ys.map .str))) (hz : (ys.map (·.length)).sum + ys.length * z.length ≤ 16777216)
    (hs : starEach [b] X.env = [(false, eval b X.env)] := by rfl) (hbase : attributeBase a "join" X.env (eval a X.env) = eval a X.env := by rfl) (hline : (apos.endLine == pos.line) = true := by rfl) : DV X M (.Call (.Attribute a "join" apos) [b] [] pos) ds (.str (Txt.join z ys)) :=
  dx_join ha hb (fun y hy => ⟨ys, hy, hz, rfl⟩) hs hbase hline
theorem d_split {apos : Pos} (ha : DV X M a ds (.str z)) (hb : DV X M b ds (.str u)) (hu : (u.length == 0) = false) (hz : z.length + 2 ≤ sizeLine)
    (hs : starEach [b] X.env = [(false, eval b X.env)] := by rfl) (hbase : attributeBase a "split" X.env (eval a X.env) = eval a X.env := by rfl) (hline : (apos.endLine == pos.line) = true := by rfl) : DV X M (.Call (.Attribute a "split" apos) [b] [] pos) ds (.lst ((Txt.split z u).map .str)) :=
  dx_m1 F.slot_str_split F.type_str_split mt_split ha hb (fun y hy G H w Q ok t k => by
    rw [show y = .str u from hy] at t
    cases t
    refine ⟨z, u, rfl, rfl, hu, hz, fun p hp => ?_⟩
    obtain ⟨G', g, t⟩ := new_lst (K := X.K) ok hp (dts_strs (Txt.split z u))
    exact k _ _ _ _ rfl g t) hs hbase hline
end
end DL
set_option maxHeartbeats 1000000
namespace DL
open PySem PySem.Spec PyProof.Rows L2

/-! ### freezing and thawing a dict -/
structure RR (K : PySem.W.Frag) (G G' : Hp) : Prop where
  lst : ∀ a xs, G a = some (.lst xs) → G' a = some (.lst xs)
  tup : ∀ a xs, G a = some (.tup xs) → G' a = some (.tup xs)
  ins : ∀ a C dx fs, G a = some (.ins C dx fs) → G' a = some (.ins C dx fs)
  sq : ∀ a, SqT K G a [] → SqT K G' a []
  dk : ∀ a kvs, Rd G a (.dK kvs) → Rd G' a (.dK kvs)
  dt : ∀ a kvs, Rd G a (.dT kvs) → Rd G' a (.dT kvs)
mutual
theorem Dt.rr {K : PySem.W.Frag} {G G' : Hp} (e : RR K G G') : ∀ {v : V} {d : D}, Dt K G v d → Dt K G' v d
  | _, _, .non => .non
  | _, _, .bl b => .bl b
  | _, _, .int i => .int i
  | _, _, .str x => .str x
  | _, _, .lst h t => .lst (e.lst _ _ h) (Dts.rr e t)
  | _, _, .tup (.inl h) t => .tup (.inl (e.tup _ _ h)) (Dts.rr e t)
  | _, _, .tup (.inr ⟨r, h⟩) t => .tup (.inr ⟨r, e.sq _ h⟩) (Dts.rr e t)
  | _, _, .dk h k t => .dk (e.dk _ _ h) k (Dts.rr e t)
  | _, _, .dt h k t => .dt (e.dt _ _ h) k (Dts.rr e t)
  | _, _, .ob h k t => .ob (e.ins _ _ _ _ h) k (Dts.rr e t)
  | _, _, .raw v => .raw v
theorem Dts.rr {K : PySem.W.Frag} {G G' : Hp} (e : RR K G G') : ∀ {vs : List V} {ds : List D}, Dts K G vs ds → Dts K G' vs ds
  | _, _, .nil => .nil
  | _, _, .cons h t => .cons (Dt.rr e h) (Dts.rr e t)
end
theorem Sl.rr {K : PySem.W.Frag} {G G' : Hp} {σ : L2.St} {ds : List (Option D)} (e : RR K G G') (h : Sl K G σ ds) : Sl K G' σ ds := ⟨h.1, fun i d hd => let ⟨v, a, b⟩ := h.2 i d hd; ⟨v, a, b.rr e⟩⟩
/-- a dict's content -/
def IsDic (u : HO) : Prop := (∃ kvs, u = .dK kvs) ∨ ∃ kvs, u = .dT kvs
theorem IsDic.mut {u : HO} (h : IsDic u) : Mut (some u) := by
  rcases h with ⟨_, rfl⟩ | ⟨_, rfl⟩ <;> trivial
theorem rr_frz {K : PySem.W.Frag} {G : Hp} {d : Addr} {o : Obj} {u : HO} (h : G d = some u) (hu : IsDic u) : RR K G (upd G d (.frz o u)) := by
  have ne : ∀ a w, G a = some w → ¬ IsDic w → upd G d (.frz o u) a = some w := fun a w e nw => by
    rw [upd_ne (fun z => by rw [z, h] at e; cases e; exact nw hu)]; exact e
  refine ⟨fun a xs e => ne _ _ e ?_, fun a xs e => ne _ _ e ?_, fun a C dx fs e => ne _ _ e ?_, fun a e => ?_, fun a kvs e => ?_, fun a kvs e => ?_⟩
  · rintro (⟨_, z⟩ | ⟨_, z⟩) <;> cases z
  · rintro (⟨_, z⟩ | ⟨_, z⟩) <;> cases z
  · rintro (⟨_, z⟩ | ⟨_, z⟩) <;> cases z
  · rcases e with (e | ⟨o', e⟩) | e
    · exact .inl (.inl (ne _ _ e (by rintro (⟨_, z⟩ | ⟨_, z⟩) <;> cases z)))
    · exact .inl (.inr ⟨o', ne _ _ e (by rintro (⟨_, z⟩ | ⟨_, z⟩) <;> cases z)⟩)
    · exact .inr e
  · rcases e with e | ⟨o', e⟩
    · by_cases q : a = d
      · subst q
        rw [h] at e; cases e
        exact .inr ⟨o, upd_same⟩
      · exact .inl (by rw [upd_ne q]; exact e)
    · exact .inr ⟨o', ne _ _ e (by rintro (⟨_, z⟩ | ⟨_, z⟩) <;> cases z)⟩
  · rcases e with e | ⟨o', e⟩
    · by_cases q : a = d
      · subst q
        rw [h] at e; cases e
        exact .inr ⟨o, upd_same⟩
      · exact .inl (by rw [upd_ne q]; exact e)
    · exact .inr ⟨o', ne _ _ e (by rintro (⟨_, z⟩ | ⟨_, z⟩) <;> cases z)⟩
theorem rr_thw {K : PySem.W.Frag} {G : Hp} {d : Addr} {o : Obj} {u : HO} (h : G d = some (.frz o u)) (hu : IsDic u) : RR K G (upd G d u) := by
  have ne : ∀ a w, G a = some w → w ≠ .frz o u → upd G d u a = some w := fun a w e nw => by
    rw [upd_ne (fun z => by rw [z, h] at e; exact nw (Option.some.inj e).symm)]; exact e
  refine ⟨fun a xs e => ne _ _ e (fun z => by cases z), fun a xs e => ne _ _ e (fun z => by cases z), fun a C dx fs e => ne _ _ e (fun z => by cases z), fun a e => ?_, fun a kvs e => ?_, fun a kvs e => ?_⟩
  · rcases e with (e | ⟨o', e⟩) | e
    · exact .inl (.inl (ne _ _ e (fun z => by cases z)))
    · exact .inl (.inr ⟨o', ne _ _ e (fun z => by cases z; rcases hu with ⟨_, z⟩ | ⟨_, z⟩ <;> cases z)⟩)
    · exact .inr e
  · rcases e with e | ⟨o', e⟩
    · exact .inl (ne _ _ e (fun z => by cases z))
    · by_cases q : a = d
      · subst q
        rw [h] at e; cases e
        exact .inl upd_same
      · exact .inr ⟨o', by rw [upd_ne q]; exact e⟩
  · rcases e with e | ⟨o', e⟩
    · exact .inl (ne _ _ e (fun z => by cases z))
    · by_cases q : a = d
      · subst q
        rw [h] at e; cases e
        exact .inl upd_same
      · exact .inr ⟨o', by rw [upd_ne q]; exact e⟩
theorem Ok.frz {M : Mu} {G H : Hp} {d : Addr} {o : Obj} {u : HO} (ok : Ok M G H) (h : G d = some u) (hu : IsDic u) : Ok M (upd G d (.frz o u)) (upd H d (.frz o u)) := by
  have hd := ok.sub _ _ h
  have neH : ∀ a w, H a = some w → ¬ IsDic w → upd H d (.frz o u) a = some w := fun a w e nw => by
    rw [upd_ne (fun z => by rw [z, hd] at e; cases e; exact nw hu)]; exact e
  have nl : ∀ xs, ¬ IsDic (.lst xs) := fun xs => by rintro (⟨_, z⟩ | ⟨_, z⟩) <;> cases z
  refine ⟨fun a w e => ?_, fun b hb => ?_, fun q hq => ?_, fun a ps e => ?_⟩
  · by_cases q : a = d
    · subst q; rw [upd_same] at e ⊢; exact e
    · rw [upd_ne q] at e ⊢; exact ok.sub _ _ e
  · obtain ⟨gb, B⟩ := ok.bag b hb
    exact ⟨by rw [upd_ne (fun z : b = d => by rw [z, h] at gb; cases gb)]; exact gb, B.ext fun a xs e => neH _ _ e (nl _)⟩
  · obtain ⟨ps, h1, h2, h3⟩ := ok.tab q hq
    refine ⟨ps, neH _ _ h1 (by rintro (⟨_, z⟩ | ⟨_, z⟩) <;> cases z), h2, fun pos cv hcv => ?_⟩
    obtain ⟨c, e1, e2⟩ := h3 pos cv hcv
    exact ⟨c, e1, neH _ _ e2 (by unfold LamX.CodeO; rintro (⟨_, z⟩ | ⟨_, z⟩) <;> cases z)⟩
  · by_cases q : a = d
    · subst q; rw [upd_same] at e; cases e
    · rw [upd_ne q] at e; exact ok.ntb _ _ e
theorem Gr.thw {M : Mu} {G1 H1 G2 H2 : Hp} {d : Addr} {o : Obj} {u : HO} (ok : Ok M G1 H1) (h : G1 d = some u) (hu : IsDic u) (g : Gr M (upd G1 d (.frz o u)) (upd H1 d (.frz o u)) G2 H2) :
    G2 d = some (.frz o u) ∧ H2 d = some (.frz o u) ∧ Gr M G1 H1 (upd G2 d u) (upd H2 d u) := by
  have h2 : G2 d = some (.frz o u) := g.ex _ _ upd_same
  have hh : H2 d = some (.frz o u) := g.ok.sub _ _ h2
  have neH : ∀ a w, H2 a = some w → w ≠ .frz o u → upd H2 d u a = some w := fun a w e nw => by
    rw [upd_ne (fun z => by rw [z, hh] at e; exact nw (Option.some.inj e).symm)]; exact e
  refine ⟨h2, hh, fun a w e => ?_, ⟨fun a w e => ?_, fun b hb => ?_, fun q hq => ?_, fun a ps e => ?_⟩, fun a w e c1 c2 => ?_, fun a ha => ?_⟩
  · by_cases q : a = d
    · subst q; rw [upd_same]; rw [h] at e; exact e
    · rw [upd_ne q]; exact g.ex _ _ (by rw [upd_ne q]; exact e)
  · by_cases q : a = d
    · subst q; rw [upd_same] at e ⊢; exact e
    · rw [upd_ne q] at e ⊢; exact g.ok.sub _ _ e
  · obtain ⟨gb, B⟩ := g.ok.bag b hb
    exact ⟨by rw [upd_ne (fun z : b = d => by rw [z, h2] at gb; cases gb)]; exact gb, B.ext fun a xs e => neH _ _ e (fun z => by cases z)⟩
  · obtain ⟨ps, h1, h2, h3⟩ := g.ok.tab q hq
    refine ⟨ps, neH _ _ h1 (fun z => by cases z), h2, fun pos cv hcv => ?_⟩
    obtain ⟨c, e1, e2⟩ := h3 pos cv hcv
    exact ⟨c, e1, neH _ _ e2 (fun z => by unfold LamX.CodeO at z; cases z)⟩
  · by_cases q : a = d
    · subst q; rw [upd_same] at e; rcases hu with ⟨_, rfl⟩ | ⟨_, rfl⟩ <;> cases e
    · rw [upd_ne q] at e; exact g.ok.ntb _ _ e
  · by_cases q : a = d
    · subst q; rw [upd_same, ← e, ok.sub _ _ h]
    · rw [upd_ne q]; exact g.fr _ _ (by rw [upd_ne q]; exact e) c1 c2
  · by_cases q : a = d
    · subst q; exact .inl (by rw [h]; simp)
    · rw [upd_ne q] at ha
      rcases g.nw a ha with z | z
      · rw [upd_ne q] at z; exact .inl z
      · exact .inr fun w e => z w (by rw [upd_ne q]; exact e)
section
variable {X : Cx} {e : Expr} {t : TE}
def tFrz (X : Cx) (t : TE) : TE := fun σ H Q => t σ H fun v H1 => (∃ d u, v = .ref d ∧ H1 d = some u ∧ Mut (some u) ∧ ∀ o, (∀ o' u', X.H_0 d ≠ some (.frz o' u')) → Q v (upd H1 d (.frz o u))) ∨ Q v H1
theorem pe_frz (h : PE X e t) : PE X e (tFrz X t) := by
  refine ⟨fun pins s σ H Q I hw => ?_⟩
  refine thn (h.run pins s σ H _ I hw) fun v s1 ⟨x, H1, I1, r, q⟩ => ?_
  rcases q with ⟨d, u, ex, hd, mu, q⟩ | q
  · obtain ⟨o, I2⟩ := I1.lock hd mu
    exact ⟨x, _, I2, r, q o (I1.nofrz hd mu)⟩
  · exact ⟨x, _, I1, r, q⟩
def tThw (X : Cx) (t : TE) : TE := fun σ H Q => t σ H fun v H1 => (∃ d o u, H1 d = some (.frz o u) ∧ (∀ o' u', X.H_0 d ≠ some (.frz o' u')) ∧ Q v (upd H1 d u)) ∨ Q v H1
theorem pe_thw (h : PE X e t) : PE X e (tThw X t) := by
  refine ⟨fun pins s σ H Q I hw => ?_⟩
  refine thn (h.run pins s σ H _ I hw) fun v s1 ⟨x, H1, I1, r, q⟩ => ?_
  rcases q with ⟨d, o, u, hd, hn, q⟩ | q
  · exact ⟨x, _, I1.unlock hd hn, r, q⟩
  · exact ⟨x, _, I1, r, q⟩
end

/-! ### walks -/
structure Wk (M : Mu) (K : PySem.W.Frag) (J : It) (G1 : Hp) (els : List D) : Prop where
  go : ∀ i G' H', Same G1 G' → Ok M G' H' → i < els.length → J.go i H'
  stop : ∀ G' H', Same G1 G' → Ok M G' H' → J.stop els.length H'
  yld : ∀ i d G' H' x H'', els[i]? = some d → Same G1 G' → Ok M G' H' → J.yld i H' x H'' → ∃ G'', Gr M G' H' G'' H'' ∧ Dt K G'' x d
section
variable {M : Mu} {K : PySem.W.Frag} {G1 : Hp} {a d : Addr} {vs : List V} {els : List D} {o : Obj}
theorem wk_list (h : G1 a = some (.lst vs)) (t : Dts K G1 vs els) : Wk M K (Itl K a) G1 els where
  go := fun i G' H' ss ok hi => ⟨vs, vs[i]'(by rw [t.length]; exact hi), SqL.of (ok.sub _ _ (ss _ _ h)), by simp⟩
  stop := fun G' H' ss ok => ⟨vs, SqL.of (ok.sub _ _ (ss _ _ h)), by rw [t.length]; exact Nat.le_refl _⟩
  yld := fun i d G' H' x H'' hd ss ok y => by
    obtain ⟨rfl, y⟩ := y
    obtain ⟨v, hv, td⟩ := t.get hd
    have e := y vs (SqL.of (ok.sub _ _ (ss _ _ h)))
    rw [hv] at e; cases e
    exact ⟨G', Gr.refl ok, td.mono ss⟩
theorem wk_tup (h : TupAt K G1 a vs) (t : Dts K G1 vs els) : Wk M K (Itt K a) G1 els where
  go := fun i G' H' ss ok hi => ⟨vs, vs[i]'(by rw [t.length]; exact hi), same_t ok.sub (h.mono ss).sq, by simp⟩
  stop := fun G' H' ss ok => ⟨vs, same_t ok.sub (h.mono ss).sq, by rw [t.length]; exact Nat.le_refl _⟩
  yld := fun i d G' H' x H'' hd ss ok y => by
    obtain ⟨rfl, y⟩ := y
    obtain ⟨v, hv, td⟩ := t.get hd
    have e := y vs (same_t ok.sub (h.mono ss).sq)
    rw [hv] at e; cases e
    exact ⟨G', Gr.refl ok, td.mono ss⟩
def rngD (lo : Int) (n : Nat) : List D := (List.range n).map fun i => .int (lo + (i : Nat))
theorem wk_range {lo : Int} {n : Nat} : Wk M K (Itr lo n) G1 (rngD lo n) where
  go := fun i G' H' ss ok hi => by
    have e : (rngD lo n).length = n := by simp [rngD]
    rw [e] at hi
    exact hi
  stop := fun G' H' ss ok => by
    have e : (rngD lo n).length = n := by simp [rngD]
    rw [e]
    exact Nat.le_refl _
  yld := fun i d G' H' x H'' hd ss ok y => by
    obtain ⟨rfl, rfl⟩ := y
    unfold rngD at hd
    rw [List.getElem?_map] at hd
    cases e : (List.range n)[i]? with
    | none => rw [e] at hd; cases hd
    | some j =>
      have hj : i = j := by
        obtain ⟨h1, h2⟩ := List.getElem?_eq_some_iff.mp e
        rw [List.getElem_range] at h2
        exact h2
      subst hj
      rw [e] at hd
      cases hd
      exact ⟨G', Gr.refl ok, .int _⟩
def signsD (z : Str) : List D := z.cps.toList.map fun c => .str ⟨#[c]⟩
theorem wk_str {z : Str} : Wk M K (Its z) G1 (signsD z) where
  go := fun i G' H' ss ok hi => by
    have : (signsD z).length = z.cps.size := by simp [signsD]
    rw [this] at hi
    exact hi
  stop := fun G' H' ss ok => by
    have : (signsD z).length = z.cps.size := by simp [signsD]
    rw [this]
    exact Nat.le_refl _
  yld := fun i d G' H' x H'' hd ss ok y => by
    obtain ⟨rfl, c, hc, rfl⟩ := y
    have e : (signsD z)[i]? = some (.str ⟨#[c]⟩) := by
      unfold signsD
      rw [List.getElem?_map, Array.getElem?_toList, hc]
      rfl
    rw [e] at hd; cases hd
    exact ⟨G', Gr.refl ok, .str _⟩
def kD : Key → D
  | .inl i => .int i
  | .inr x => .str x
theorem dt_kV {G : Hp} (k : Key) : Dt K G (kV k) (kD k) := by cases k <;> constructor
theorem wk_items {kvs : List (Key × V)} {ds : List (Key × D)} (h : G1 d = some (.frz o (.dK kvs))) (hk : kvs.map (·.1) = ds.map (·.1)) (t : Dts K G1 (kvs.map (·.2)) (ds.map (·.2))) : Wk M K (Iti d o kvs) G1 (ds.map fun p => .tup [kD p.1, p.2]) where
  go := fun i G' H' ss ok hi => ⟨ok.sub _ _ (ss _ _ h), by
    have e := congrArg List.length hk
    rw [List.length_map, List.length_map] at e
    rw [List.length_map] at hi
    omega⟩
  stop := fun G' H' ss ok => ⟨ok.sub _ _ (ss _ _ h), by
    have e := congrArg List.length hk
    rw [List.length_map, List.length_map] at e
    rw [List.length_map]
    omega⟩
  yld := fun i p G' H' x H'' hd ss ok y => by
    obtain ⟨T, k, v, hi, rfl, hT, rfl⟩ := y
    rw [List.getElem?_map] at hd
    cases e : ds[i]? with
    | none => rw [e] at hd; cases hd
    | some q =>
      rw [e] at hd
      cases hd
      obtain ⟨v', hv', td⟩ := t.get (i := i) (d := q.2) (by rw [List.getElem?_map, e]; rfl)
      rw [List.getElem?_map, hi] at hv'
      cases hv'
      have hk' : k = q.1 := by
        have e2 := congrArg (fun l => l[i]?) hk
        simp only [List.getElem?_map, hi, e, Option.map_some, Option.some.injEq] at e2
        exact e2
      subst hk'
      have g := Gr.new (o := .tup [kV q.1, v]) ok hT (fun ps z => by cases z)
      exact ⟨_, g, .tup (.inl upd_same) (.cons (dt_kV _) (.cons ((td.mono ss).mono g.ex) .nil))⟩
theorem wk_keys {kvs : List (Key × V)} {ds : List (Key × D)} (h : G1 d = some (.frz o (.dK kvs))) (hk : kvs.map (·.1) = ds.map (·.1)) : Wk M K (Itk d o kvs) G1 (ds.map fun p => kD p.1) where
  go := fun i G' H' ss ok hi => ⟨ok.sub _ _ (ss _ _ h), by
    have e := congrArg List.length hk
    rw [List.length_map, List.length_map] at e
    rw [List.length_map] at hi
    omega⟩
  stop := fun G' H' ss ok => ⟨ok.sub _ _ (ss _ _ h), by
    have e := congrArg List.length hk
    rw [List.length_map, List.length_map] at e
    rw [List.length_map]
    omega⟩
  yld := fun i p G' H' x H'' hd ss ok y => by
    obtain ⟨rfl, k, v, hi, rfl⟩ := y
    rw [List.getElem?_map] at hd
    cases e : ds[i]? with
    | none => rw [e] at hd; cases hd
    | some q =>
      rw [e] at hd
      cases hd
      have hk' : k = q.1 := by
        have e2 := congrArg (fun l => l[i]?) hk
        simp only [List.getElem?_map, hi, e, Option.map_some, Option.some.injEq] at e2
        exact e2
      subst hk'
      exact ⟨G', Gr.refl ok, dt_kV _⟩
end
def tDI (M : Mu) (K : PySem.W.Frag) (ds : DS) (Re : List D → Prop) : TI := fun σ H R => ∃ G, Sl K G σ ds ∧ Ok M G H ∧ ∀ J els G1 H1, Re els → Gr M G H G1 H1 → Wk M K J G1 els → R J H1
abbrev DI (X : Cx) (M : Mu) (tg iter : Expr) (ds : DS) (Re : List D → Prop) : Prop := PI X tg iter (tDI M X.K ds Re)
/-- .. of a dict, frozen while the walk lasts (if it was not) -/
def tDIF (X : Cx) (M : Mu) (ds : DS) (Re : List D → Prop) : TI := fun σ H R => ∃ G, Sl X.K G σ ds ∧ Ok M G H ∧ ∀ J els G1 H1, Re els → Gr M G H G1 H1 → (Wk M X.K J G1 els → R J H1) ∧
  ∀ d u o, G1 d = some u → IsDic u → (∀ o' u', X.H_0 d ≠ some (.frz o' u')) → Wk M X.K J (upd G1 d (.frz o u)) els → R J (upd H1 d (.frz o u))
abbrev DIF (X : Cx) (M : Mu) (tg iter : Expr) (ds : DS) (Re : List D → Prop) : Prop := PI X tg iter (tDIF X M ds Re)
theorem PI.imp {X : Cx} {tg e : Expr} {t u : TI} (p : PI X tg e t) (f : ∀ σ H Q, u σ H Q → t σ H Q) : PI X tg e u := ⟨fun pins s σ H Q I h => p.run pins s σ H Q I (f σ H Q h)⟩
section
variable {X : Cx} {M : Mu} {ds : DS} {e a tg : Expr} {Re : List D → Prop} {pos : Pos}
theorem di_list (h : DX X M e ds fun d => ∃ els, d = .lst els ∧ Re els) : DI X M tg e ds Re :=
  PI.imp (pi_list h) fun σ H R ⟨G, s, ok, k⟩ => ⟨G, s, ok, fun d v G1 H1 ⟨els, e1, r⟩ g t => by
    subst e1
    cases t with
    | lst h1 s1 => exact ⟨_, rfl, ⟨_, SqL.of (g.ok.sub _ _ h1)⟩, k _ els G1 H1 r g (wk_list h1 s1)⟩⟩
theorem di_tup (h : DX X M e ds fun d => ∃ els, d = .tup els ∧ Re els) : DI X M tg e ds Re :=
  PI.imp (pi_tup h) fun σ H R ⟨G, s, ok, k⟩ => ⟨G, s, ok, fun d v G1 H1 ⟨els, e1, r⟩ g t => by
    subst e1
    cases t with
    | tup h1 s1 => exact ⟨_, rfl, ⟨_, same_t g.ok.sub h1.sq⟩, k _ els G1 H1 r g (wk_tup h1 s1)⟩⟩
theorem di_str {z : Str} (h : DV X M e ds (.str z)) : DI X M tg e ds (Is (signsD z)) :=
  PI.imp (pi_str h) fun σ H R ⟨G, s, ok, k⟩ => ⟨G, s, ok, fun d v G1 H1 e1 g t => by
    rw [show d = _ from e1] at t
    cases t
    exact ⟨z, rfl, k _ _ G1 H1 rfl g wk_str⟩⟩
theorem di_lstV {els : List D} (h : DV X M e ds (.lst els)) : DI X M tg e ds (Is els) := di_list (DX.weak h fun d r => ⟨els, r, rfl⟩)
theorem di_tupV {els : List D} (h : DV X M e ds (.tup els)) : DI X M tg e ds (Is els) := di_tup (DX.weak h fun d r => ⟨els, r, rfl⟩)
theorem di_seqV {els : List D} {l : D} (h : DV X M e ds l) (hl : l = .lst els ∨ l = .tup els) : DI X M tg e ds (Is els) := by
  rcases hl with rfl | rfl
  · exact di_lstV h
  · exact di_tupV h
theorem di_range {p : Pos} {Rn : Nat → Prop} (h : DX X M a ds fun d => ∃ n : Nat, d = .int (n : Int) ∧ n < 2 ^ 62 ∧ Rn n) (hm : X.mg "range" = none) (hg : Gl X "range" := by rfl) (hs : starEach [a] X.env = [(false, eval a X.env)] := by rfl)
    (hs2 : starEach [a] X.env = (false, eval a X.env) :: starEach [] X.env := by rfl) : DI X M tg (.Call (.Name "range" p) [a] [] pos) ds (fun els => ∃ n, els = rngD 0 n ∧ Rn n) :=
  PI.imp (pi_range1 hg hm (pa_cons h pa_nil hs2) hs) fun σ H R ⟨G, s, ok, k⟩ => ⟨G, s, ok, fun d v G1 H1 ⟨n, e1, hn, r⟩ g t => by
    subst e1
    cases t
    refine ⟨n, rfl, by omega, by omega, ?_⟩
    rw [Int.toNat_natCast]
    exact k _ _ G1 H1 ⟨n, rfl, r⟩ g wk_range⟩
theorem di_items {elts : List Expr} {kk : Nat} {tpos apos cpos : Pos} {Rk : List (Key × D) → Prop} (h : DX X M e ds fun d => ∃ kvs, d = .dk kvs ∧ Rk kvs)
    (hbase : attributeBase e "items" X.env (eval e X.env) = eval e X.env := by rfl) (hline : (apos.endLine == cpos.line) = true := by rfl) :
    DIF X M (.Tuple elts kk tpos) (.Call (.Attribute e "items" apos) [] [] cpos) ds (fun els => ∃ kvs, els = kvs.map (fun p => .tup [kD p.1, p.2]) ∧ Rk kvs) :=
  PI.imp (pi_items (pe_frz h) hbase hline) fun σ H R ⟨G, s, ok, k⟩ => ⟨G, s, ok, fun d v G1 H1 ⟨kvs, e1, r⟩ g t => by
    subst e1
    cases t with
    | dk h1 hk t1 =>
      rcases h1 with h1 | ⟨o', h1⟩
      · refine .inl ⟨_, _, rfl, g.ok.sub _ _ h1, trivial, fun o hf => ⟨_, o, _, rfl, upd_same, ?_⟩⟩
        have rr := rr_frz (K := X.K) (o := o) h1 (.inl ⟨_, rfl⟩)
        exact (k _ _ G1 H1 ⟨kvs, rfl, r⟩ g).2 _ _ o h1 (.inl ⟨_, rfl⟩) hf (wk_items upd_same hk (t1.rr rr))
      · exact .inr ⟨_, o', _, rfl, g.ok.sub _ _ h1, (k _ _ G1 H1 ⟨kvs, rfl, r⟩ g).1 (wk_items h1 hk t1)⟩⟩
theorem di_keys {Rk : List (Key × D) → Prop} (h : DX X M e ds fun d => ∃ kvs, d = .dk kvs ∧ Rk kvs) :
    DIF X M tg e ds (fun els => ∃ kvs, els = kvs.map (fun p => kD p.1) ∧ Rk kvs) :=
  PI.imp (pi_keys (pe_frz h)) fun σ H R ⟨G, s, ok, k⟩ => ⟨G, s, ok, fun d v G1 H1 ⟨kvs, e1, r⟩ g t => by
    subst e1
    cases t with
    | dk h1 hk t1 =>
      rcases h1 with h1 | ⟨o', h1⟩
      · exact .inl ⟨_, _, rfl, g.ok.sub _ _ h1, trivial, fun o hf => ⟨_, o, rfl, .inl ⟨_, upd_same, (k _ _ G1 H1 ⟨kvs, rfl, r⟩ g).2 _ _ o h1 (.inl ⟨_, rfl⟩) hf (wk_keys upd_same hk)⟩⟩⟩
      · exact .inr ⟨_, o', rfl, .inl ⟨_, g.ok.sub _ _ h1, (k _ _ G1 H1 ⟨kvs, rfl, r⟩ g).1 (wk_keys h1 hk)⟩⟩⟩
end
end DL
set_option maxHeartbeats 1000000
namespace DL
open PySem PySem.Spec PyProof.Rows L2

/-! ### targets -/
def TgOk (K : PySem.W.Frag) (g : TG) (is : List Nat) (d : D) (u : DS → DS) : Prop :=
  ∀ G (σ : L2.St) H v (Q : L2.St → Hp → Prop) ds, Sl K G σ ds → Same G H → Dt K G v d → (∀ σ', Sl K G σ' (u ds) → (∀ vs : List Nat, (∀ i ∈ is, i ∈ vs) → wipe σ' vs = wipe σ vs) → Q σ' H) → g v σ H Q
theorem wipe_set {σ : L2.St} {i : Nat} {x : Option V} {vs : List Nat} (h : i ∈ vs) : wipe (σ.set i x) vs = wipe σ vs := by
  refine List.ext_getElem? fun j => ?_
  rw [wipe_at, wipe_at, List.length_set]
  by_cases c : j ∈ vs ∧ j < σ.length
  · rw [if_pos c, if_pos c]
  · rw [if_neg c, if_neg c]
    by_cases e : i = j
    · subst e
      have hl : ¬ i < σ.length := fun z => c ⟨h, z⟩
      rw [List.getElem?_eq_none (by rw [List.length_set]; omega), List.getElem?_eq_none (by omega)]
    · rw [List.getElem?_set_ne e]
section
variable {K : PySem.W.Frag} {i j k : Nat} {d d1 d2 d3 : D}
theorem tg1 : TgOk K (gName i) [i] d (fun ds => ds.set i (some d)) := fun G σ H v Q ds s ss t q =>
  q _ (s.set i t) fun vs hv => wipe_set (hv i List.mem_cons_self)
theorem tg2 : TgOk K (gTup K 2 (gCons (gName i) (gCons (gName j) gNil))) [i, j] (.tup [d1, d2]) (fun ds => (ds.set i (some d1)).set j (some d2)) := fun G σ H v Q ds s ss t q => by
  cases t with
  | tup h ts =>
    rename_i a xs
    cases ts with
    | cons t1 ts =>
      cases ts with
      | cons t2 ts =>
        cases ts
        exact ⟨a, _, rfl, same_t ss h.sq, rfl, _, _, rfl, _, _, rfl, rfl, q _ ((s.set i t1).set j t2) fun vs hv => by
          rw [wipe_set (hv j (by simp)), wipe_set (hv i (by simp))]⟩
theorem tg3 : TgOk K (gTup K 3 (gCons (gName i) (gCons (gName j) (gCons (gName k) gNil)))) [i, j, k] (.tup [d1, d2, d3]) (fun ds => ((ds.set i (some d1)).set j (some d2)).set k (some d3)) := fun G σ H v Q ds s ss t q => by
  cases t with
  | tup h ts =>
    rename_i a xs
    cases ts with
    | cons t1 ts =>
      cases ts with
      | cons t2 ts =>
        cases ts with
        | cons t3 ts =>
          cases ts
          exact ⟨a, _, rfl, same_t ss h.sq, rfl, _, _, rfl, _, _, rfl, _, _, rfl, rfl, q _ (((s.set i t1).set j t2).set k t3) fun vs hv => by
            rw [wipe_set (hv k (by simp)), wipe_set (hv j (by simp)), wipe_set (hv i (by simp))]⟩
end

/-! ### what a list comprehension gathers -/
/-- behind n turns; T tells which turns are kept, R what such a turn gives -/
inductive Acc (els : List D) (T : Nat → D → Bool) (R : Nat → D → D → Prop) : Nat → List D → Prop
  | zero : Acc els T R 0 []
  | skip {n : Nat} {d : D} {es : List D} : Acc els T R n es → els[n]? = some d → T n d = false → Acc els T R (n + 1) es
  | keep {n : Nat} {d e : D} {es : List D} : Acc els T R n es → els[n]? = some d → T n d = true → R n d e → Acc els T R (n + 1) (es ++ [e])
section
variable {els es : List D} {T : Nat → D → Bool} {R : Nat → D → D → Prop} {n : Nat}
theorem Acc.le (h : Acc els T R n es) : es.length ≤ n := by
  induction h with
  | zero => exact Nat.le_refl _
  | skip _ _ _ ih => omega
  | keep _ _ _ _ ih => rw [List.length_append]; simp; exact ih
theorem Acc.all (h : Acc els T R n es) (ht : ∀ i d, T i d = true) : es.length = n ∧ ∀ i d e, els[i]? = some d → es[i]? = some e → R i d e := by
  induction h with
  | zero => exact ⟨rfl, fun i d e _ h => by simp at h⟩
  | skip _ _ hf _ => rw [ht] at hf; cases hf
  | @keep n d e es h1 h2 _ h4 ih =>
    obtain ⟨a, b⟩ := ih
    refine ⟨by rw [List.length_append, a]; rfl, fun i x y hx hy => ?_⟩
    by_cases c : i < es.length
    · rw [List.getElem?_append_left c] at hy; exact b i x y hx hy
    · rw [List.getElem?_append_right (by omega)] at hy
      have e0 : i - es.length = 0 := by
        cases q : i - es.length with
        | zero => rfl
        | succ m => rw [q] at hy; simp at hy
      have ei : i = n := by omega
      subst ei
      rw [e0] at hy
      simp at hy
      rw [h2] at hx
      cases hx
      rw [← hy]
      exact h4
/-- what each turn gives is told by the source's item -/
theorem Acc.fn {α : Type} {F : α → D} {xs : List α} {t : α → Bool} {f : α → D} (h : Acc (xs.map F) T R n es) (hn : n ≤ xs.length) (ht : ∀ i x, xs[i]? = some x → T i (F x) = t x) (hr : ∀ i x e, xs[i]? = some x → R i (F x) e → e = f x) : es = ((xs.take n).filter t).map f := by
  induction h with
  | zero => rfl
  | @skip n d es h1 h2 h3 ih =>
    rw [List.getElem?_map] at h2
    cases q : xs[n]? with
    | none => rw [q] at h2; cases h2
    | some x =>
      rw [q] at h2; cases h2
      rw [ht n x q] at h3
      have e : xs.take (n + 1) = xs.take n ++ [x] := by rw [List.take_succ, q]; rfl
      rw [ih (by omega), e, List.filter_append, List.filter_cons, if_neg (by rw [h3]; exact Bool.false_ne_true)]
      simp
  | @keep n d e es h1 h2 h3 h4 ih =>
    rw [List.getElem?_map] at h2
    cases q : xs[n]? with
    | none => rw [q] at h2; cases h2
    | some x =>
      rw [q] at h2; cases h2
      rw [ht n x q] at h3
      have e : xs.take (n + 1) = xs.take n ++ [x] := by rw [List.take_succ, q]; rfl
      rw [hr n x _ q h4, ih (by omega), e, List.filter_append, List.filter_cons, if_pos h3, List.map_append]
      simp
end

/-- the loop of a list comprehension -/
theorem lc_D {M : Mu} {K : PySem.W.Frag} {J : It} {G1 H1 : Hp} {els : List D} {σ : L2.St} {ds : DS} {g : TG} {tt : TT} {te : TE} {own is : List Nat} {D' : Addr} {Qd : Hp → Prop} {u : D → DS → DS} {T : Nat → D → Bool} {R : Nat → D → D → Prop}
    (wk : Wk M K J G1 els) (ok1 : Ok M G1 H1) (sl : Sl K G1 σ ds) (hD : H1 D' = none) (tgt : ∀ d, d ∈ els → TgOk K g is d (u d)) (his : ∀ i ∈ is, i ∈ own)
    (tst : ∀ i d, els[i]? = some d → ∀ σ H Q, tDT M K (u d (wipeD ds own)) (Is (T i d)) σ H Q → tt σ H Q)
    (bod : ∀ i d, els[i]? = some d → T i d = true → ∀ σ H Q, tD M K (u d (wipeD ds own)) (R i d) σ H Q → te σ H Q) (hsz : els.length ≤ sizeLine)
    (fin : ∀ es G2 H2, Acc els T R els.length es → Gr M G1 H1 G2 H2 → Dt K G2 (.ref D') (.lst es) → Qd H2) :
    ∃ W : Nat → Nat → Hp → Prop, (∃ m, W 0 m (upd H1 D' (.lst []))) ∧ ∀ i m H, W i m H →
      (J.stop i H ∧ Qd H) ∨ (J.go i H ∧ ∃ Nx : Hp → Prop, (∀ H', Nx H' → ∃ m', m' < m ∧ W (i + 1) m' H') ∧ ∀ x H', J.yld i H x H' → g x (wipe σ own) H' fun σ2 H2 => wipe σ2 own = wipe σ own ∧ tt σ2 H2 fun b H3 =>
        if b = true then te σ2 H3 fun y H4 => ∃ acc, H4 D' = some (.lst acc) ∧ acc.length < sizeLine ∧ Nx (upd H4 D' (.lst (acc ++ [y]))) else Nx H3) := by
  have nb := ok1.nbag hD
  have nt : ∀ (xs : List V) (ps : Array Value), HO.lst xs ≠ .tbl ps := fun _ _ z => by cases z
  have nc : ∀ (xs : List V) (pos : Addr) (cv : Str), HO.lst xs ≠ LamX.CodeO pos cv := fun _ _ _ z => by unfold LamX.CodeO at z; cases z
  refine ⟨fun i m H => m = els.length - i ∧ i ≤ els.length ∧ ∃ acc es G', H D' = some (.lst acc) ∧ G' D' = none ∧ Gr M G1 H1 G' H ∧ Dts K G' acc es ∧ Acc els T R i es,
    ⟨els.length, rfl, Nat.zero_le _, [], [], G1, upd_same, ok1.sub.free hD, Gr.drop ok1 hD (nt _), .nil, .zero⟩, ?_⟩
  rintro i m H ⟨rfl, hi, acc, es, G', hH, hG, g1, t1, a1⟩
  by_cases hlt : i < els.length
  · refine .inr ⟨wk.go i G' H g1.ex g1.ok hlt, fun H' => ∃ acc es G', H' D' = some (.lst acc) ∧ G' D' = none ∧ Gr M G1 H1 G' H' ∧ Dts K G' acc es ∧ Acc els T R (i + 1) es, fun H' hn => ⟨els.length - (i + 1), by omega, rfl, hlt, hn⟩, fun x H' y => ?_⟩
    have hd : els[i]? = some els[i] := List.getElem?_eq_getElem hlt
    obtain ⟨G2, g2, tx⟩ := wk.yld i _ G' H x H' hd g1.ex g1.ok y
    have k2 := g2.keepD hG hH imm_lst nb
    have g12 := g1.trans ok1 g2
    refine tgt _ (List.getElem_mem hlt) G2 (wipe σ own) H' x _ (wipeD ds own) ((sl.mono g12.ex).wipe own) g2.ok.sub tx fun σ2 s2 hw => ⟨?_, ?_⟩
    · rw [hw own his]
      refine List.ext_getElem? fun j => ?_
      rw [wipe_at, wipe_at, wipe_length]
      by_cases c : j ∈ own ∧ j < σ.length
      · rw [if_pos c, if_pos c]
      · rw [if_neg c, if_neg c]
    · refine tst i _ hd σ2 H' _ ⟨G2, s2, g2.ok, fun b G3 H3 hb g3 => ?_⟩
      have k3 := g3.keepD k2.1 k2.2 imm_lst nb
      have g13 := g12.trans ok1 g3
      rw [show b = T i els[i] from hb]
      cases hT : T i els[i] with
      | true =>
        refine iteT ?_
        refine bod i _ hd hT σ2 H3 _ ⟨G3, s2.mono g3.ex, g3.ok, fun e v G4 H4 he g4 t4 => ?_⟩
        have k4 := g4.keepD k3.1 k3.2 imm_lst nb
        have g14 := g13.trans ok1 g4
        have hl := t1.length
        have hle := a1.le
        refine ⟨acc, k4.2, by omega, acc ++ [v], es ++ [e], G4, upd_same, k4.1, g14.poke ok1 hD k4.1 k4.2 (nt _) (nc _), ?_, a1.keep hd hT he⟩
        exact (((t1.mono g2.ex).mono g3.ex).mono g4.ex).append (.cons t4 .nil)
      | false =>
        refine iteF ?_
        exact ⟨acc, es, G3, k3.2, k3.1, g13, (t1.mono g2.ex).mono g3.ex, a1.skip hd hT⟩
  · have e : i = els.length := by omega
    subst e
    have ex : Same G' (upd G' D' (.lst acc)) := fun a x e => by rw [upd_ne (ne_of_none e hG)]; exact e
    exact .inl ⟨wk.stop G' H g1.ex g1.ok, fin es _ H a1 (g1.know ok1 hD hG hH (nt _)) (.lst upd_same (t1.mono ex))⟩
theorem PE.ex {X : Cx} {e : Expr} {ι : Type} {t : ι → TE} {P : ι → Prop} (h : ∀ i, P i → PE X e (t i)) : PE X e (fun σ H Q => ∃ i, P i ∧ t i σ H Q) := ⟨fun pins s σ H Q I ⟨i, p, q⟩ => (h i p).run pins s σ H Q I q⟩
theorem PT.ex {X : Cx} {e : Expr} {ι : Type} {t : ι → TT} {P : ι → Prop} (h : ∀ i, P i → PT X e (t i)) : PT X e (fun σ H Q => ∃ i, P i ∧ t i σ H Q) := ⟨fun pins s σ H Q I ⟨i, p, q⟩ => (h i p).run pins s σ H Q I q⟩

section
variable {X : Cx} {M : Mu} {ds : DS} {tg iter elt c : Expr} {R : D → Prop} {Re : List D → Prop} {Rb : Nat → D → D → Prop} {T : Nat → D → Bool} {scope : Scope} {own : List (Str × Nat)} {is : List Nat} {g : TG} {u : D → DS → DS} {pos : Pos}
/-- the item d may stand at place i of the source -/
def El (Re : List D → Prop) (i : Nat) (d : D) : Prop := ∃ els, Re els ∧ els[i]? = some d
/-- what the comprehension's reading asks, from the data's -/
theorem lc_sem {tt : TT} {te : TE} {σ : L2.St} {H : Hp} {Q : VK} (tgt : ∀ i d, El Re i d → TgOk X.K g is d (u d)) (his : ∀ i ∈ is, i ∈ own.map (·.2))
    (tst : ∀ i d, El Re i d → ∀ σ H Q, tDT M X.K (u d (wipeD ds (own.map (·.2)))) (Is (T i d)) σ H Q → tt σ H Q) (bod : ∀ i d, El Re i d → T i d = true → ∀ σ H Q, tD M X.K (u d (wipeD ds (own.map (·.2)))) (Rb i d) σ H Q → te σ H Q)
    (hR : ∀ els es, Re els → Acc els T Rb els.length es → R (.lst es)) (hz : ∀ els, Re els → els.length ≤ sizeLine) (h : tD M X.K ds R σ H Q) : tLc (tDI M X.K ds Re) g tt te (own.map (·.2)) σ H Q := by
  obtain ⟨G, s, ok0, k⟩ := h
  refine ⟨G, s, ok0, fun J els G1 H1 re g1 wk D' hD => ?_⟩
  refine lc_D (T := T) (R := Rb) (u := u) wk g1.ok (s.mono g1.ex) hD (fun d hd => ?_) his (fun i d hd => tst i d ⟨els, re, hd⟩) (fun i d hd hT => bod i d ⟨els, re, hd⟩ hT) (hz els re) fun es G2 H2 a g2 t2 => ?_
  · obtain ⟨i, hi', e⟩ := List.mem_iff_getElem.mp hd
    exact tgt i d ⟨els, re, by rw [List.getElem?_eq_getElem hi', e]⟩
  · exact k _ _ G2 H2 (hR els es re a) (g1.trans ok0 g2) t2
/-- thawed, or as it is -/
def thwQ (X : Cx) (Q : VK) : VK := fun v H1 => (∃ d o u, H1 d = some (.frz o u) ∧ (∀ o' u', X.H_0 d ≠ some (.frz o' u')) ∧ Q v (upd H1 d u)) ∨ Q v H1
theorem lc_semF {tt : TT} {te : TE} {σ : L2.St} {H : Hp} {Q : VK} (tgt : ∀ i d, El Re i d → TgOk X.K g is d (u d)) (his : ∀ i ∈ is, i ∈ own.map (·.2))
    (tst : ∀ i d, El Re i d → ∀ σ H Q, tDT M X.K (u d (wipeD ds (own.map (·.2)))) (Is (T i d)) σ H Q → tt σ H Q) (bod : ∀ i d, El Re i d → T i d = true → ∀ σ H Q, tD M X.K (u d (wipeD ds (own.map (·.2)))) (Rb i d) σ H Q → te σ H Q)
    (hR : ∀ els es, Re els → Acc els T Rb els.length es → R (.lst es)) (hz : ∀ els, Re els → els.length ≤ sizeLine) (h : tD M X.K ds R σ H Q) : tLc (tDIF X M ds Re) g tt te (own.map (·.2)) σ H (thwQ X Q) := by
  obtain ⟨G, s, ok0, k⟩ := h
  refine ⟨G, s, ok0, fun J els G1 H1 re g1 => ⟨fun wk D' hD => ?_, fun d w o hd hw hf wk D' hD => ?_⟩⟩
  · refine lc_D (T := T) (R := Rb) (u := u) wk g1.ok (s.mono g1.ex) hD (fun d hd => ?_) his (fun i d hd => tst i d ⟨els, re, hd⟩) (fun i d hd hT => bod i d ⟨els, re, hd⟩ hT) (hz els re) fun es G2 H2 a g2 t2 => ?_
    · obtain ⟨i, hi', e⟩ := List.mem_iff_getElem.mp hd
      exact tgt i d ⟨els, re, by rw [List.getElem?_eq_getElem hi', e]⟩
    · exact .inr (k _ _ G2 H2 (hR els es re a) (g1.trans ok0 g2) t2)
  · have rr := rr_frz (K := X.K) (o := o) hd hw
    refine lc_D (T := T) (R := Rb) (u := u) wk (g1.ok.frz hd hw) ((s.mono g1.ex).rr rr) hD (fun d hd => ?_) his (fun i d hd => tst i d ⟨els, re, hd⟩) (fun i d hd hT => bod i d ⟨els, re, hd⟩ hT) (hz els re) fun es G2 H2 a g2 t2 => ?_
    · obtain ⟨i, hi', e⟩ := List.mem_iff_getElem.mp hd
      exact tgt i d ⟨els, re, by rw [List.getElem?_eq_getElem hi', e]⟩
    · obtain ⟨h1, h2, g3⟩ := Gr.thw g1.ok hd hw g2
      exact .inl ⟨d, o, w, h2, hf, k _ _ _ _ (hR els es re a) (g1.trans ok0 g3) (t2.rr (rr_thw h1 hw))⟩
theorem pe_thwQ {e : Expr} {t : TE} (h : PE X e t) : PE X e (fun σ H Q => t σ H (thwQ X Q)) := pe_thw h
/-- a name stored, then the thaw -/
theorem ps_thw {st : Stmt} {te : TE} {i : Nat} (h : PS X st (tAsg te (gName i))) : PS X st (fun Z σ H => te σ H (thwQ X fun v H1 => Z.nx (σ.set i (some v)) H1)) := by
  refine ⟨fun pins s σ H Z I hw => ?_⟩
  have q0 := h.run pins s σ H { nx := fun σ' H' => (∃ d o w, H' d = some (.frz o w) ∧ (∀ o' u', X.H_0 d ≠ some (.frz o' u')) ∧ Z.nx σ' (upd H' d w)) ∨ Z.nx σ' H', rt := Z.rt, bk := Z.bk, ct := Z.ct } I hw
  refine thn q0 fun f s1 q => ?_
  cases f with
  | next =>
    obtain ⟨σ', H', I', q⟩ := q
    rcases q with ⟨d, o, w, hd, hn, q⟩ | q
    · exact ⟨σ', _, I'.unlock hd hn, q⟩
    · exact ⟨σ', H', I', q⟩
  | ret v => exact q
  | brk => exact q
  | cont => exact q
theorem dx_lcG {ifs : List Expr} {tt : TT} (hc : X.calm = true) (hN : X.N.Nodup) (fz : DI X M tg iter ds Re ∨ DIF X M tg iter ds Re) (ok : BlkOk X.N X.env.scope scope own)
    (hg : ∀ (s : Shared) (H : Hp) (C : Addr) (cl : List (Str × Addr)) (fp : List Addr), PG (X.blk s H scope (compEnvC scope cl C X.env) fp) tg g)
    (tgt : ∀ i d, El Re i d → TgOk X.K g is d (u d)) (his : ∀ i ∈ is, i ∈ own.map (·.2))
    (ht : ∀ (s : Shared) (H : Hp) (C : Addr) (cl : List (Str × Addr)) (fp : List Addr), PTs (X.blk s H scope (compEnvC scope cl C X.env) fp) ifs tt)
    (tst : ∀ i d, El Re i d → ∀ σ H Q, tDT M X.K (u d (wipeD ds (own.map (·.2)))) (Is (T i d)) σ H Q → tt σ H Q)
    (he : ∀ (s : Shared) (H : Hp) (C : Addr) (cl : List (Str × Addr)) (fp : List Addr) (i : Nat) (d : D), El Re i d → T i d = true → DX (X.blk s H scope (compEnvC scope cl C X.env) fp) M elt (u d (wipeD ds (own.map (·.2)))) (Rb i d))
    (hR : ∀ els es, Re els → Acc els T Rb els.length es → els.length ≤ sizeLine ∧ R (.lst es)) (hz : ∀ els, Re els → els.length ≤ sizeLine) (hs : ∀ x, foldedSetIterable iter X.env x = pure x := by intro _; rfl) :
    DX X M (.ListComp elt [⟨tg, iter, ifs, 0⟩] scope pos) ds R := by
  have key : ∀ {wi : TI}, PI X tg iter wi → PE X (.ListComp elt [⟨tg, iter, ifs, 0⟩] scope pos) (tLc wi g tt (fun σ H Q => ∃ z : Nat × D, (El Re z.1 z.2 ∧ T z.1 z.2 = true) ∧ tD M X.K (u z.2 (wipeD ds (own.map (·.2)))) (Rb z.1 z.2) σ H Q) (own.map (·.2))) :=
    fun hi => pe_lc hc hN hi ok hg ht (fun s H C cl fp => PE.ex fun z hz => he s H C cl fp z.1 z.2 hz.1 hz.2) hs
  rcases fz with hi | hi
  · exact PE.imp (key hi) fun σ H Q h => lc_sem tgt his tst (fun i d h1 h2 σ H Q q => ⟨(i, d), ⟨h1, h2⟩, q⟩) (fun els es re a => (hR els es re a).2) hz h
  · exact PE.imp (pe_thwQ (key hi)) fun σ H Q h => lc_semF tgt his tst (fun i d h1 h2 σ H Q q => ⟨(i, d), ⟨h1, h2⟩, q⟩) (fun els es re a => (hR els es re a).2) hz h
/-- [elt for tg in iter] -/
theorem dx_lc (hc : X.calm = true) (hN : X.N.Nodup) (fz : DI X M tg iter ds Re ∨ DIF X M tg iter ds Re) (ok : BlkOk X.N X.env.scope scope own)
    (hg : ∀ (s : Shared) (H : Hp) (C : Addr) (cl : List (Str × Addr)) (fp : List Addr), PG (X.blk s H scope (compEnvC scope cl C X.env) fp) tg g)
    (tgt : ∀ i d, El Re i d → TgOk X.K g is d (u d)) (his : ∀ i ∈ is, i ∈ own.map (·.2))
    (he : ∀ (s : Shared) (H : Hp) (C : Addr) (cl : List (Str × Addr)) (fp : List Addr) (i : Nat) (d : D), El Re i d → DX (X.blk s H scope (compEnvC scope cl C X.env) fp) M elt (u d (wipeD ds (own.map (·.2)))) (Rb i d))
    (hR : ∀ els es, Re els → es.length = els.length → (∀ i d e, els[i]? = some d → es[i]? = some e → Rb i d e) → R (.lst es)) (hz : ∀ els, Re els → els.length ≤ sizeLine) (hs : ∀ x, foldedSetIterable iter X.env x = pure x := by intro _; rfl) :
    DX X M (.ListComp elt [⟨tg, iter, [], 0⟩] scope pos) ds R :=
  dx_lcG (u := u) (T := fun _ _ => true) hc hN fz ok hg tgt his (fun _ _ _ _ _ => pts_nil) (fun i d _ σ H Q ⟨G, s, ok0, k⟩ => k true G H rfl (Gr.refl ok0)) (fun s H C cl fp i d h _ => he s H C cl fp i d h)
    (fun els es re a => ⟨hz els re, hR els es re (a.all fun _ _ => rfl).1 (a.all fun _ _ => rfl).2⟩) hz hs
/-- .. each turn's value told by the source's item -/
theorem d_lc {α : Type} {F f : α → D} {xs : List α} (hc : X.calm = true) (hN : X.N.Nodup) (fz : DI X M tg iter ds (Is (xs.map F)) ∨ DIF X M tg iter ds (Is (xs.map F))) (ok : BlkOk X.N X.env.scope scope own)
    (hg : ∀ (s : Shared) (H : Hp) (C : Addr) (cl : List (Str × Addr)) (fp : List Addr), PG (X.blk s H scope (compEnvC scope cl C X.env) fp) tg g)
    (tgt : ∀ x ∈ xs, TgOk X.K g is (F x) (u (F x))) (his : ∀ i ∈ is, i ∈ own.map (·.2))
    (he : ∀ (s : Shared) (H : Hp) (C : Addr) (cl : List (Str × Addr)) (fp : List Addr) (x : α), x ∈ xs → DV (X.blk s H scope (compEnvC scope cl C X.env) fp) M elt (u (F x) (wipeD ds (own.map (·.2)))) (f x))
    (hz : xs.length ≤ sizeLine) (hs : ∀ x, foldedSetIterable iter X.env x = pure x := by intro _; rfl) :
    DV X M (.ListComp elt [⟨tg, iter, [], 0⟩] scope pos) ds (.lst (xs.map f)) := by
  have elx : ∀ i d, El (Is (xs.map F)) i d → ∃ x, xs[i]? = some x ∧ d = F x := fun i d ⟨els, e, h⟩ => by
    rw [show els = _ from e, List.getElem?_map] at h
    cases q : xs[i]? with
    | none => rw [q] at h; cases h
    | some x => rw [q] at h; cases h; exact ⟨x, rfl, rfl⟩
  refine dx_lcG (u := u) (T := fun _ _ => true) (Rb := fun i d e => ∀ x, xs[i]? = some x → e = f x) hc hN fz ok hg (fun i d h => ?_) his (fun _ _ _ _ _ => pts_nil) (fun i d _ σ H Q ⟨G, s, ok0, k⟩ => k true G H rfl (Gr.refl ok0)) (fun s H C cl fp i d h _ => ?_) (fun els es re a => ?_) (fun els re => ?_) hs
  · obtain ⟨x, hx, rfl⟩ := elx i d h
    exact tgt x (List.mem_of_getElem? hx)
  · obtain ⟨x, hx, rfl⟩ := elx i d h
    refine DX.weak (he s H C cl fp x (List.mem_of_getElem? hx)) fun e r y hy => ?_
    rw [hx] at hy; cases hy
    exact r
  · rw [show els = _ from re] at a ⊢
    rw [List.length_map] at a ⊢
    refine ⟨hz, ?_⟩
    have e := Acc.fn (t := fun _ => true) (f := f) a (Nat.le_refl _) (fun _ _ _ => rfl) (fun i x e hx hr => hr x hx)
    rw [List.take_of_length_le (Nat.le_refl _), List.filter_eq_self.mpr (fun _ _ => rfl)] at e
    rw [e]; rfl
  · rw [show els = _ from re, List.length_map]; exact hz
/-- [elt for tg in iter if c] -/
theorem d_lcIf {α : Type} {F f : α → D} {t : α → Bool} {xs : List α} (hc : X.calm = true) (hN : X.N.Nodup) (fz : DI X M tg iter ds (Is (xs.map F)) ∨ DIF X M tg iter ds (Is (xs.map F))) (ok : BlkOk X.N X.env.scope scope own)
    (hg : ∀ (s : Shared) (H : Hp) (C : Addr) (cl : List (Str × Addr)) (fp : List Addr), PG (X.blk s H scope (compEnvC scope cl C X.env) fp) tg g)
    (tgt : ∀ x ∈ xs, TgOk X.K g is (F x) (u (F x))) (his : ∀ i ∈ is, i ∈ own.map (·.2))
    (ht : ∀ (s : Shared) (H : Hp) (C : Addr) (cl : List (Str × Addr)) (fp : List Addr) (x : α), x ∈ xs → DT (X.blk s H scope (compEnvC scope cl C X.env) fp) M c (u (F x) (wipeD ds (own.map (·.2)))) (Is (t x)))
    (he : ∀ (s : Shared) (H : Hp) (C : Addr) (cl : List (Str × Addr)) (fp : List Addr) (x : α), x ∈ xs → t x = true → DV (X.blk s H scope (compEnvC scope cl C X.env) fp) M elt (u (F x) (wipeD ds (own.map (·.2)))) (f x))
    (hz : xs.length ≤ sizeLine) (hs : ∀ x, foldedSetIterable iter X.env x = pure x := by intro _; rfl) :
    DV X M (.ListComp elt [⟨tg, iter, [c], 0⟩] scope pos) ds (.lst ((xs.filter t).map f)) := by
  have elx : ∀ i d, El (Is (xs.map F)) i d → ∃ x, xs[i]? = some x ∧ d = F x := fun i d ⟨els, e, h⟩ => by
    rw [show els = _ from e, List.getElem?_map] at h
    cases q : xs[i]? with
    | none => rw [q] at h; cases h
    | some x => rw [q] at h; cases h; exact ⟨x, rfl, rfl⟩
  refine dx_lcG (u := u) (T := fun i _ => match xs[i]? with | some x => t x | none => true) (Rb := fun i d e => ∀ x, xs[i]? = some x → e = f x) (tt := fun σ H Q => ∃ x : α, x ∈ xs ∧ tDT M X.K (u (F x) (wipeD ds (own.map (·.2)))) (Is (t x)) σ H Q) hc hN fz ok hg (fun i d h => ?_) his
    (fun s H C cl fp => pts_one (PT.ex fun x hx => ht s H C cl fp x hx)) (fun i d h σ H Q q => ?_) (fun s H C cl fp i d h hT => ?_) (fun els es re a => ?_) (fun els re => ?_) hs
  · obtain ⟨x, hx, rfl⟩ := elx i d h
    exact tgt x (List.mem_of_getElem? hx)
  · obtain ⟨x, hx, rfl⟩ := elx i d h
    rw [hx] at q
    exact ⟨x, List.mem_of_getElem? hx, q⟩
  · obtain ⟨x, hx, rfl⟩ := elx i d h
    rw [hx] at hT
    refine DX.weak (he s H C cl fp x (List.mem_of_getElem? hx) hT) fun e r y hy => ?_
    rw [hx] at hy; cases hy
    exact r
  · rw [show els = _ from re] at a ⊢
    rw [List.length_map] at a ⊢
    refine ⟨hz, ?_⟩
    have e := Acc.fn (t := t) (f := f) a (Nat.le_refl _) (fun i x hx => by rw [hx]) (fun i x e hx hr => hr x hx)
    rw [List.take_of_length_le (Nat.le_refl _)] at e
    rw [e]; rfl
  · rw [show els = _ from re, List.length_map]; exact hz
end
end DL
set_option maxHeartbeats 1000000
namespace DL
open PySem PySem.Spec PyProof.Rows L2

/-! ### statements at the level of data -/
def tDS (M : Mu) (K : PySem.W.Frag) (ds : DS) (Nx : DS → Prop) (Rt : D → Prop) : TS := fun D σ H => ∃ G, Sl K G σ ds ∧ Ok M G H ∧
  (∀ ds' σ' G' H', Nx ds' → Sl K G' σ' ds' → Gr M G H G' H' → D.nx σ' H') ∧ ∀ d v G' H', Rt d → Gr M G H G' H' → Dt K G' v d → D.rt v H'
abbrev DP (X : Cx) (M : Mu) (st : Stmt) (ds : DS) (Nx : DS → Prop) (Rt : D → Prop) : Prop := PS X st (tDS M X.K ds Nx Rt)
abbrev DPs (X : Cx) (M : Mu) (sts : List Stmt) (ds : DS) (Nx : DS → Prop) (Rt : D → Prop) : Prop := PSs X sts (tDS M X.K ds Nx Rt)
theorem PS.imp {X : Cx} {e : Stmt} {t u : TS} (p : PS X e t) (f : ∀ D σ H, u D σ H → t D σ H) : PS X e u := ⟨fun pins s σ H D I h => p.run pins s σ H D I (f D σ H h)⟩
theorem PSs.imp {X : Cx} {e : List Stmt} {t u : TS} (p : PSs X e t) (f : ∀ D σ H, u D σ H → t D σ H) : PSs X e u := ⟨fun pins s σ H D I h => p.run pins s σ H D I (f D σ H h)⟩
theorem PSs.ex {X : Cx} {e : List Stmt} {ι : Type} {t : ι → TS} {P : ι → Prop} (h : ∀ i, P i → PSs X e (t i)) : PSs X e (fun D σ H => ∃ i, P i ∧ t i D σ H) := ⟨fun pins s σ H D I ⟨i, p, q⟩ => (h i p).run pins s σ H D I q⟩
/-- the statements from here on, read as they must be -/
def WS (X : Cx) (sts : List Stmt) : TS := fun D σ H => ∃ t, PSs X sts t ∧ t D σ H
theorem pss_ws {X : Cx} {sts : List Stmt} : PSs X sts (WS X sts) := ⟨fun pins s σ H D I ⟨t, h, q⟩ => h.run pins s σ H D I q⟩
section
variable {X : Cx} {M : Mu} {ds ds1 : DS} {st : Stmt} {rest sts : List Stmt} {e a b c tg iter : Expr} {es : List Expr} {R Ra Rb : D → Prop} {Nx N1 : DS → Prop} {Rt : D → Prop} {pos p2 : Pos}
theorem dps_nil (h : Nx ds) : DPs X M [] ds Nx Rt := PSs.imp pss_nil fun D σ H ⟨G, s, ok, n, _⟩ => n ds σ G H h s (Gr.refl ok)
theorem dps_consR (h : DP X M st ds N1 Rt) (r : ∀ ds1, N1 ds1 → DPs X M rest ds1 Nx Rt) : DPs X M (st :: rest) ds Nx Rt :=
  PSs.imp (pss_cons h (PSs.ex (P := N1) r)) fun D σ H ⟨G, s, ok, n, q⟩ => ⟨G, s, ok, fun ds1 σ1 G1 H1 hn s1 g1 => ⟨ds1, hn, G1, s1, g1.ok, fun ds2 σ2 G2 H2 hn2 s2 g2 => n ds2 σ2 G2 H2 hn2 s2 (g1.trans ok g2), fun d v G2 H2 hr g2 t2 => q d v G2 H2 hr (g1.trans ok g2) t2⟩, q⟩
theorem dps_cons (h : DP X M st ds (Is ds1) Rt) (r : DPs X M rest ds1 Nx Rt) : DPs X M (st :: rest) ds Nx Rt := dps_consR h fun d e => by rw [show d = ds1 from e]; exact r
theorem dps_one (h : DP X M st ds Nx Rt) : DPs X M [st] ds Nx Rt := PSs.imp (pss_one h) fun _ _ _ q => q
theorem DPs.weak {N2 : DS → Prop} {R2 : D → Prop} (h : DPs X M sts ds Nx Rt) (hn : ∀ x, Nx x → N2 x) (hr : ∀ d, Rt d → R2 d) : DPs X M sts ds N2 R2 :=
  PSs.imp h fun D σ H ⟨G, s, ok, n, q⟩ => ⟨G, s, ok, fun x σ' G' H' h1 => n x σ' G' H' (hn x h1), fun d v G' H' h1 => q d v G' H' (hr d h1)⟩
theorem DP.weak {N2 : DS → Prop} {R2 : D → Prop} (h : DP X M st ds Nx Rt) (hn : ∀ x, Nx x → N2 x) (hr : ∀ d, Rt d → R2 d) : DP X M st ds N2 R2 :=
  PS.imp h fun D σ H ⟨G, s, ok, n, q⟩ => ⟨G, s, ok, fun x σ' G' H' h1 => n x σ' G' H' (hn x h1), fun d v G' H' h1 => q d v G' H' (hr d h1)⟩
/-- slots forgotten at the start -/
theorem DPs.forget (h : DPs X M sts ds1 Nx Rt) (hl : ds1.length = ds.length) (hs : ∀ (i : Nat) (d : D), ds1[i]? = some (some d) → ds[i]? = some (some d)) : DPs X M sts ds Nx Rt :=
  PSs.imp h fun D σ H ⟨G, s, ok, n, q⟩ => ⟨G, s.forget hl hs, ok, n, q⟩
theorem DP.forget (h : DP X M st ds1 Nx Rt) (hl : ds1.length = ds.length) (hs : ∀ (i : Nat) (d : D), ds1[i]? = some (some d) → ds[i]? = some (some d)) : DP X M st ds Nx Rt :=
  PS.imp h fun D σ H ⟨G, s, ok, n, q⟩ => ⟨G, s.forget hl hs, ok, n, q⟩
/-- name = e, the name in slot i -/
theorem dp_setR (i : Nat) {x : Str} {pos' : Pos} (hN : X.N.Nodup) (he : DX X M e ds R) (hi : X.N[i]? = some x := by rfl) (hx : Loc X.env.scope x := by exact .inl rfl) (hs : swapsWith e (some (.Name x pos')) pos.line X.env = pure false := by rfl)
    (hf : X.fn x = true ∨ X.env.scope.names.lookup x = some .local := by first | exact .inl rfl | exact .inr rfl | assumption) : DP X M (.Assign [.Name x pos'] e pos) ds (fun ds' => ∃ d, R d ∧ ds' = ds.set i (some d)) Rt :=
  PS.imp (ps_set hN hi hx he hs hf) fun D σ H ⟨G, s, ok, n, q⟩ => ⟨G, s, ok, fun d v G' H' r g t => n _ _ G' H' ⟨d, r, rfl⟩ ((s.mono g.ex).set i t) g⟩
theorem dp_set (i : Nat) {x : Str} {pos' : Pos} {d : D} (hN : X.N.Nodup) (he : DV X M e ds d) (hi : X.N[i]? = some x := by rfl) (hx : Loc X.env.scope x := by exact .inl rfl) (hs : swapsWith e (some (.Name x pos')) pos.line X.env = pure false := by rfl)
    (hf : X.fn x = true ∨ X.env.scope.names.lookup x = some .local := by first | exact .inl rfl | exact .inr rfl | assumption) : DP X M (.Assign [.Name x pos'] e pos) ds (Is (ds.set i (some d))) Rt :=
  (dp_setR i hN he hi hx hs hf).weak (fun x ⟨y, r, e⟩ => by rw [e, show y = d from r]; rfl) fun _ h => h
/-- a target of any form -/
theorem dp_asgR {g : TG} {is : List Nat} {u : D → DS → DS} (he : DX X M e ds R) (hg : PG X tg g) (tgt : ∀ d, R d → TgOk X.K g is d (u d)) (hs : swapsWithSole [tg] e pos.line X.env = pure false := by rfl) (hw : swappedStores [tg] e X.env = pure none := by rfl)
    (h1 : (assignEach [tg] X.env).map (·.2) = [assign tg X.env] := by rfl) : DP X M (.Assign [tg] e pos) ds (fun ds' => ∃ d, R d ∧ ds' = u d ds) Rt :=
  PS.imp (ps_asg he hg hs hw h1) fun D σ H ⟨G, s, ok, n, q⟩ => ⟨G, s, ok, fun d v G' H' r g t => tgt d r G' σ H' v _ ds (s.mono g.ex) g.ok.sub t fun σ' s' _ => n _ _ G' H' ⟨d, r, rfl⟩ s' g⟩
/-- a, b = e1, e2 -/
theorem dp_parR {Rl : List D → Prop} (i j : Nat) {x y : Str} {px py pt : Pos} {kt k2 pt2} (hc : X.calm = true) (hN : X.N.Nodup) (ha : DA X M [a, b] ds Rl) (hl : ∀ l, Rl l → l.length = 2) (hi : X.N[i]? = some x := by rfl) (hj : X.N[j]? = some y := by rfl) (hij : i ≠ j := by decide)
    (hx : X.env.scope.names.lookup x = some .local := by rfl) (hy : X.env.scope.names.lookup y = some .local := by rfl) (hw : swappedStores [.Tuple [.Name x px, .Name y py] kt pt] (.Tuple [a, b] k2 pt2) X.env = pure (some [x, y]) := by rfl)
    (hs : swapsWithSole [.Tuple [.Name x px, .Name y py] kt pt] (.Tuple [a, b] k2 pt2) pos.line X.env = pure false := by rfl) :
    DP X M (.Assign [.Tuple [.Name x px, .Name y py] kt pt] (.Tuple [a, b] k2 pt2) pos) ds (fun ds' => ∃ d1 d2, Rl [d1, d2] ∧ ds' = (ds.set i (some d1)).set j (some d2)) Rt :=
  PS.imp (ps_par hc hN hi hj hij hx hy ha hw hs) fun D σ H ⟨G, s, ok, n, q⟩ => ⟨G, s, ok, fun l vs G' H' r g t => by
    have e := hl l r
    match l, vs, t with
    | [d1, d2], _, .cons t1 (.cons t2 .nil) => exact ⟨_, _, rfl, n _ _ G' H' ⟨d1, d2, r, rfl⟩ (((s.mono g.ex).set i t1).set j t2) g⟩⟩
theorem dp_par {d1 d2 : D} (i j : Nat) {x y : Str} {px py pt : Pos} {kt k2 pt2} (hc : X.calm = true) (hN : X.N.Nodup) (ha : DVs X M [a, b] ds [d1, d2]) (hi : X.N[i]? = some x := by rfl) (hj : X.N[j]? = some y := by rfl) (hij : i ≠ j := by decide)
    (hx : X.env.scope.names.lookup x = some .local := by rfl) (hy : X.env.scope.names.lookup y = some .local := by rfl) (hw : swappedStores [.Tuple [.Name x px, .Name y py] kt pt] (.Tuple [a, b] k2 pt2) X.env = pure (some [x, y]) := by rfl)
    (hs : swapsWithSole [.Tuple [.Name x px, .Name y py] kt pt] (.Tuple [a, b] k2 pt2) pos.line X.env = pure false := by rfl) :
    DP X M (.Assign [.Tuple [.Name x px, .Name y py] kt pt] (.Tuple [a, b] k2 pt2) pos) ds (Is ((ds.set i (some d1)).set j (some d2))) Rt :=
  (dp_parR i j hc hN ha (fun l h => by rw [show l = _ from h]; rfl) hi hj hij hx hy hw hs).weak (fun x ⟨y, z, r, e⟩ => by
    have r : [y, z] = [d1, d2] := r
    cases r
    exact e) fun _ h => h
theorem dp_ret (he : DX X M e ds Rt) : DP X M (.Return (some e) pos) ds Nx Rt :=
  PS.imp (ps_ret he) fun D σ H ⟨G, s, ok, n, q⟩ => ⟨G, s, ok, q⟩
theorem dp_expr (he : DX X M e ds R) (h : Nx ds) (hs : swapsWith e none pos.line X.env = pure false := by rfl) : DP X M (.Expr e pos) ds Nx Rt :=
  PS.imp (ps_expr he hs) fun D σ H ⟨G, s, ok, n, q⟩ => ⟨G, s, ok, fun d v G' H' r g t => n ds σ G' H' h (s.mono g.ex) g⟩
theorem dp_if {p : Bool} {A B : List Stmt} (hc : DT X M c ds (Is p)) (ha : p = true → DPs X M A ds Nx Rt) (hb : p = false → DPs X M B ds Nx Rt) : DP X M (.If c A B pos) ds Nx Rt :=
  PS.imp (ps_if hc (PSs.ex (ι := Unit) (P := fun _ => p = true) fun _ h => ha h) (PSs.ex (ι := Unit) (P := fun _ => p = false) fun _ h => hb h)) fun D σ H ⟨G, s, ok, n, q⟩ => ⟨G, s, ok, fun b G' H' r g => by
    have r : b = p := r
    subst r
    have z : tDS M X.K ds Nx Rt D σ H' := ⟨G', s.mono g.ex, g.ok, fun x σ2 G2 H2 h1 s2 g2 => n x σ2 G2 H2 h1 s2 (g.trans ok g2), fun d v G2 H2 h1 g2 t2 => q d v G2 H2 h1 (g.trans ok g2) t2⟩
    cases b with
    | true => refine iteT ?_; exact ⟨(), rfl, z⟩
    | false => refine iteF ?_; exact ⟨(), rfl, z⟩⟩
/-- if of which the answer is not known -/
theorem dp_ifR {Rc : Bool → Prop} {A B : List Stmt} (hc : DT X M c ds Rc) (ha : Rc true → DPs X M A ds Nx Rt) (hb : Rc false → DPs X M B ds Nx Rt) : DP X M (.If c A B pos) ds Nx Rt :=
  PS.imp (ps_if hc (PSs.ex (ι := Unit) (P := fun _ => Rc true) fun _ h => ha h) (PSs.ex (ι := Unit) (P := fun _ => Rc false) fun _ h => hb h)) fun D σ H ⟨G, s, ok, n, q⟩ => ⟨G, s, ok, fun b G' H' r g => by
    have z : tDS M X.K ds Nx Rt D σ H' := ⟨G', s.mono g.ex, g.ok, fun x σ2 G2 H2 h1 s2 g2 => n x σ2 G2 H2 h1 s2 (g.trans ok g2), fun d v G2 H2 h1 g2 t2 => q d v G2 H2 h1 (g.trans ok g2) t2⟩
    cases b with
    | true => refine iteT ?_; exact ⟨(), r, z⟩
    | false => refine iteF ?_; exact ⟨(), r, z⟩⟩
theorem dps_never : PSs X sts tNever := pss_never
/-- for tg in iter: the body keeps the slots of inv; what it does to the loop's own names is forgotten -/
theorem dp_forI {Re : List D → Prop} {body : List Stmt} {g : TG} {is : List Nat} {u : D → DS → DS} {I : Nat → DS → Prop} (hp : PassesOwn (model X.prog X.w) X.A X.env X.xe) (hc : X.calm = true) (hi : DI X M tg iter ds Re) (hg : PG X tg g)
    (tgt : ∀ i d, El Re i d → TgOk X.K g is d (u d)) (h0 : I 0 ds) (hb : ∀ i d ds1, El Re i d → I i ds1 → DPs X M body (u d ds1) (I (i + 1)) Rt) (hd : ∀ els ds1, Re els → I els.length ds1 → Nx ds1)
    (hs : ∀ x, foldedSetIterable iter X.env x = pure x := by intro _; rfl) : DP X M (.For tg iter body [] pos) ds Nx Rt := by
  refine PS.imp (ps_for (tb := fun Z σ H => ∃ z : Nat × D × DS, (El Re z.1 z.2.1 ∧ I z.1 z.2.2) ∧ tDS M X.K (u z.2.1 z.2.2) (I (z.1 + 1)) Rt Z σ H) hp hc hi hg (PSs.ex fun z hz => hb z.1 z.2.1 z.2.2 hz.1 hz.2) hs) fun D σ H ⟨G, s, ok, n, q⟩ => ⟨G, s, ok, fun J els G1 H1 re g1 wk => ?_⟩
  refine ⟨fun i m σ' H' => m = els.length - i ∧ i ≤ els.length ∧ ∃ ds1 G', I i ds1 ∧ Sl X.K G' σ' ds1 ∧ Gr M G1 H1 G' H', ⟨els.length, rfl, Nat.zero_le _, ds, G1, h0, s.mono g1.ex, Gr.refl g1.ok⟩, ?_⟩
  rintro i m σ' H' ⟨rfl, hi, ds1, G', hI, s', g'⟩
  by_cases hlt : i < els.length
  · refine .inr ⟨wk.go i G' H' g'.ex g'.ok hlt, fun σ2 H2 => ∃ ds2 G2, I (i + 1) ds2 ∧ Sl X.K G2 σ2 ds2 ∧ Gr M G1 H1 G2 H2, fun σ2 H2 hn => ⟨els.length - (i + 1), by omega, rfl, hlt, hn⟩, fun x H2 y => ?_⟩
    have hd' : els[i]? = some els[i] := List.getElem?_eq_getElem hlt
    obtain ⟨G2, g2, tx⟩ := wk.yld i _ G' H' x H2 hd' g'.ex g'.ok y
    have g12 := g'.trans g1.ok g2
    refine tgt i _ ⟨els, re, hd'⟩ G2 σ' H2 x _ ds1 (s'.mono g2.ex) g2.ok.sub tx fun σ3 s3 _ => ?_
    refine ⟨(i, els[i], ds1), ⟨⟨els, re, hd'⟩, hI⟩, G2, s3, g2.ok, fun ds3 σ4 G3 H3 hn s4 g3 => ⟨ds3, G3, hn, s4, g12.trans g1.ok g3⟩, fun d v G3 H3 hr g3 t3 => q d v G3 H3 hr (g1.trans ok (g12.trans g1.ok g3)) t3⟩
  · have e : i = els.length := by omega
    subst e
    exact .inl ⟨wk.stop G' H' g'.ex g'.ok, n ds1 σ' G' H' (hd els ds1 re hI) s' (g1.trans ok g')⟩

/-- name = [elt for tg in iter] on one line -/
theorem dp_setLc {α : Type} {F f : α → D} {xs : List α} {elt : Expr} {scope : Scope} {own : List (Str × Nat)} {is : List Nat} {g : TG} {u : D → DS → DS} {spos py : Pos} {y : Str} (i : Nat) (hc : X.calm = true) (hN : X.N.Nodup) (fz : DI X M tg iter ds (Is (xs.map F)) ∨ DIF X M tg iter ds (Is (xs.map F))) (ok : BlkOk X.N X.env.scope scope own)
    (hg : ∀ (s : Shared) (H : Hp) (C : Addr) (cl : List (Str × Addr)) (fp : List Addr), PG (X.blk s H scope (compEnvC scope cl C X.env) fp) tg g)
    (tgt : ∀ x ∈ xs, TgOk X.K g is (F x) (u (F x))) (his : ∀ i ∈ is, i ∈ own.map (·.2))
    (he : ∀ (s : Shared) (H : Hp) (C : Addr) (cl : List (Str × Addr)) (fp : List Addr) (x : α), x ∈ xs → DV (X.blk s H scope (compEnvC scope cl C X.env) fp) M elt (u (F x) (wipeD ds (own.map (·.2)))) (f x))
    (hz : xs.length ≤ sizeLine) (hs : ∀ x, foldedSetIterable iter X.env x = pure x := by intro _; rfl) (hy : X.N[i]? = some y := by rfl) (hyl : X.env.scope.names.lookup y = some .local := by rfl)
    (hsw : swapsWith (.ListComp elt [⟨tg, iter, [], 0⟩] scope pos) (some (.Name y py)) spos.line X.env = pure true := by rfl) : DP X M (.Assign [.Name y py] (.ListComp elt [⟨tg, iter, [], 0⟩] scope pos) spos) ds (Is (ds.set i (some (.lst (xs.map f))))) Rt := by
  have elx : ∀ i d, El (Is (xs.map F)) i d → ∃ x, xs[i]? = some x ∧ d = F x := fun i d ⟨els, e, h⟩ => by
    rw [show els = _ from e, List.getElem?_map] at h
    cases q : xs[i]? with
    | none => rw [q] at h; cases h
    | some x => rw [q] at h; cases h; exact ⟨x, rfl, rfl⟩
  have tgt' : ∀ i d, El (Is (xs.map F)) i d → TgOk X.K g is d (u d) := fun i d h => by
    obtain ⟨x, hx, rfl⟩ := elx i d h
    exact tgt x (List.mem_of_getElem? hx)
  have bod : ∀ i d, El (Is (xs.map F)) i d → (fun (_ : Nat) (_ : D) => true) i d = true → ∀ σ H Q, tD M X.K (u d (wipeD ds (own.map (·.2)))) (fun e => ∀ x, xs[i]? = some x → e = f x) σ H Q → (fun σ H Q => ∃ x : α, x ∈ xs ∧ tD M X.K (u (F x) (wipeD ds (own.map (·.2)))) (Is (f x)) σ H Q) σ H Q := fun i d h _ σ H Q q => by
    obtain ⟨x, hx, rfl⟩ := elx i d h
    refine ⟨x, List.mem_of_getElem? hx, ?_⟩
    obtain ⟨G, s, ok, k⟩ := q
    exact ⟨G, s, ok, fun d v G' H' r => k d v G' H' fun y hy => by rw [hx] at hy; cases hy; exact r⟩
  have hR : ∀ els es, Is (xs.map F) els → Acc els (fun _ _ => true) (fun i d e => ∀ x, xs[i]? = some x → e = f x) els.length es → Is (D.lst (xs.map f)) (D.lst es) := fun els es re a => by
    rw [show els = _ from re, List.length_map] at a
    have e := Acc.fn (t := fun _ => true) (f := f) a (Nat.le_refl _) (fun _ _ _ => rfl) (fun i x e hx hr => hr x hx)
    rw [List.take_of_length_le (Nat.le_refl _), List.filter_eq_self.mpr (fun _ _ => rfl)] at e
    rw [e]; rfl
  have hz' : ∀ els, Is (xs.map F) els → els.length ≤ sizeLine := fun els re => by rw [show els = _ from re, List.length_map]; exact hz
  have start : ∀ Z σ H, tDS M X.K ds (Is (ds.set i (some (.lst (xs.map f))))) Rt Z σ H → tD M X.K ds (Is (.lst (xs.map f))) σ H (fun v H1 => Z.nx (σ.set i (some v)) H1) := fun Z σ H ⟨G, s, ok, n, q⟩ =>
    ⟨G, s, ok, fun d v G' H' r g t => n _ _ G' H' (by rw [← show d = _ from r]; rfl) ((s.mono g.ex).set i t) g⟩
  have key : ∀ {wi : TI}, PI X tg iter wi → PS X (.Assign [.Name y py] (.ListComp elt [⟨tg, iter, [], 0⟩] scope pos) spos) (tAsg (tLc wi g tYes (fun σ H Q => ∃ x : α, x ∈ xs ∧ tD M X.K (u (F x) (wipeD ds (own.map (·.2)))) (Is (f x)) σ H Q) (own.map (·.2))) (gName i)) :=
    fun hi => ps_setLc hc hN hy hyl hsw hi ok hg (fun _ _ _ _ _ => pts_nil) (fun s H C cl fp => PE.ex fun x hx => he s H C cl fp x hx) hs
  rcases fz with hi | hi
  · exact PS.imp (key hi) fun Z σ H h => lc_sem (T := fun _ _ => true) tgt' his (fun i d _ σ H Q ⟨G, s, ok0, k⟩ => k true G H rfl (Gr.refl ok0)) bod hR hz' (start Z σ H h)
  · exact PS.imp (ps_thw (key hi)) fun Z σ H h => lc_semF (T := fun _ _ => true) tgt' his (fun i d _ σ H Q ⟨G, s, ok0, k⟩ => k true G H rfl (Gr.refl ok0)) bod hR hz' (start Z σ H h)

/-! ### functions -/
/-- a promise at the level of data: Pre tells which arguments are taken, Rt what comes back -/
def spD (K : PySem.W.Frag) (Pre : Mu → List D → Prop) (Rt : List D → D → Prop) : Sp := fun vs H Q _ => ∃ M G l, Ok M G H ∧ Dts K G vs l ∧ Pre M l ∧ ∀ d v G' H', Rt l d → Gr M G H G' H' → Dt K G' v d → Q v H'
end
abbrev slots (N : List Str) (l : List D) : DS := l.map some ++ List.replicate (N.length - l.length) none
section
variable {P : Program} {w : World} {K : PySem.W.Frag} {mg : Str → Option Value} {base : Heap} {k : Nat} {f : Addr} {fd : FuncData} {N ps : List Str} {x qual : Str} {params : Arguments} {body : List Stmt} {scope : Scope} {dvs : List V} {Pre : Mu → List D → Prop} {Rt : List D → D → Prop}
theorem ok_def (F : FunD K x qual params body scope dvs [] f fd) (S : FnScope N ps scope) (hl : ∀ M l, Pre M l → l.length = ps.length)
    (hb : ∀ (cdv : Value) (A : Around) (outer : List Env) (s : Shared) (H : Hp) (E : XK) (M : Mu) (l : List D), Room k (A.deeper (envOfC qual scope s.heap.objs.size f cdv)) → Pre M l →
      DPs (cxOf CX0 P w K mg base N qual scope f cdv A outer s H E).nox M body (slots N l) (fun _ => Rt l .non) (Rt l)) : FnOk P w K mg base CX0 (k + 1) f fd ps (spD K Pre Rt) := by
  refine F.ok S (fun vs H Q E ⟨M, G, l, ok, t, p, _⟩ => t.length.trans (hl M l p)) fun cdv A outer s H vs Q E hr ⟨M, G, l, ok, t, p, q⟩ => ?_
  exact ⟨_, PSs.nox (hb cdv A outer s H E M l hr p), G, Sl.start t, ok, fun ds' σ' G' H' h1 _ g => q .non .non G' H' h1 g .non, q⟩
/-- a def's promise, and how it is called -/
structure FnT (P : Program) (w : World) (K : PySem.W.Frag) (mg : Str → Option Value) (base : Heap) (x : Str) (k : Nat) (Pre : Mu → List D → Prop) (Rt : List D → D → Prop) : Prop where
  ex : ∃ f fd ps, FnOk P w K mg base CX0 k f fd ps (spD K Pre Rt) ∧ mg x = some (.ref f) ∧ PySem.W.keepIn K (.ref f) = true ∧ Binds K fd ps []
theorem FnT.mono {j : Nat} (F : FnT P w K mg base x j Pre Rt) (h : j ≤ k) : FnT P w K mg base x k Pre Rt := let ⟨f, fd, ps, a, b, c, d⟩ := F.ex; ⟨f, fd, ps, a.mono h, b, c, d⟩
/-- where a def of the module stands -/
structure FnAt (K : PySem.W.Frag) (mg : Str → Option Value) (x : Str) (st : Stmt) : Prop where
  ex : ∃ f fd, FunD K x x (defArgs st) (defBody st) (defScope st) [] [] f fd ∧ mg x = some (.ref f)
theorem fn_def {st : Stmt} (F : FnAt K mg x st) (S : FnScope N ps (defScope st)) (hbd : ∀ (kV doc pm : Value) (an : Option Addr) (cdv ct : Value) (us : List Value), us.length = ps.length → bindArgs (PySem.W.fnOf x x (defArgs st) (defBody st) (defScope st) .none kV doc pm an cdv ct) ⟨us, []⟩ = pure (ps.zip us))
    (hl : ∀ M l, Pre M l → l.length = ps.length)
    (hb : ∀ (f : Addr) (cdv : Value) (A : Around) (outer : List Env) (s : Shared) (H : Hp) (E : XK) (M : Mu) (l : List D), Room k (A.deeper (envOfC x (defScope st) s.heap.objs.size f cdv)) → Pre M l →
      DPs (cxOf CX0 P w K mg base N x (defScope st) f cdv A outer s H E).nox M (defBody st) (slots N l) (fun _ => Rt l .non) (Rt l)) : FnT P w K mg base x (k + 1) Pre Rt := by
  obtain ⟨f, fd, F, hm⟩ := F.ex
  exact ⟨f, fd, ps, ok_def F S hl (hb f), hm, F.kp, F.bindsN hbd⟩
end
section
variable {X : Cx} {M M' : Mu} {ds : DS} {e o : Expr} {es : List Expr} {R Ra : D → Prop} {x m : Str} {k : Nat} {p pos apos : Pos} {Pre : Mu → List D → Prop} {Rt : List D → D → Prop} {Rl : List D → Prop}
theorem dx_call (F : FnT X.prog X.w X.K X.mg X.base x k Pre Rt) (hr : Room k X.A) (le : Le M' M) (ha : DA X M (e :: es) ds Rl) (h : ∀ l, Rl l → Pre M' l ∧ ∀ d, Rt l d → R d) (hg : Gl X x := by rfl) (hdb : (x == ("__debug__" : Str)) = false := by decide)
    (he : starEach (e :: es) X.env = (false, eval e X.env) :: starEach es X.env := by rfl) (hpl : (backTo pos (starEach es X.env)).any (·.1) = false := by rfl) : DX X M (.Call (.Name x p) (e :: es) [] pos) ds R := by
  obtain ⟨f, fd, ps, F, hm, hk, hb⟩ := F.ex
  refine PE.imp (pe_call F hr hg hm hk hb .nil pass0 ha hdb he hpl) fun σ H Q ⟨G, s, ok, q⟩ => ⟨G, s, ok, fun l vs G1 H1 r1 g1 t1 => ?_⟩
  obtain ⟨h1, h2⟩ := h l r1
  rw [List.append_nil]
  exact ⟨M', G1, l, g1.ok.weaken le, t1, h1, fun d v G' H' hd g' t' => q d v G' H' (h2 d hd) (g1.trans ok (g'.lift g1.ok le)) t'⟩
/-- .. of known arguments, by a def without the bag -/
theorem d_call {l : List D} {d : D} (F : FnT X.prog X.w X.K X.mg X.base x k Pre Rt) (hr : Room k X.A) (ha : DVs X M (e :: es) ds l) (h : Pre mu0 l) (h2 : ∀ y, Rt l y → y = d) (hg : Gl X x := by rfl) (hdb : (x == ("__debug__" : Str)) = false := by decide)
    (he : starEach (e :: es) X.env = (false, eval e X.env) :: starEach es X.env := by rfl) (hpl : (backTo pos (starEach es X.env)).any (·.1) = false := by rfl) : DV X M (.Call (.Name x p) (e :: es) [] pos) ds d :=
  dx_call F hr Le.zero ha (fun m hm => by rw [show m = l from hm]; exact ⟨h, h2⟩) hg hdb he hpl
/-- a field -/
theorem d_fld {C : Addr} {fs : List (Str × D)} {f : Str} {d : D} (he : DV X M o ds (.ob C fs)) (c : Cls X.K C) (hn : NoAttr X.K C f) (hl : fs.lookup f = some d) (hb : attributeBase o f X.env (eval o X.env) = eval o X.env := by rfl) : DV X M (.Attribute o f pos) ds d :=
  PE.imp (pe_fld he hb) fun σ H Q ⟨G, s, ok, q⟩ => ⟨G, s, ok, fun y v G1 H1 r1 g1 t1 => by
    rw [show y = _ from r1] at t1
    cases t1 with
    | ob h1 hk t1 =>
      rename_i a dx gs
      have look : ∀ {gs : List (Str × V)} {fs : List (Str × D)}, gs.map (·.1) = fs.map (·.1) → Dts X.K G1 (gs.map (·.2)) (fs.map (·.2)) → fs.lookup f = some d → ∃ v, gs.lookup f = some v ∧ Dt X.K G1 v d := by
        intro gs
        induction gs with
        | nil => intro fs hk t hl; cases fs with
          | nil => cases hl
          | cons _ _ => cases hk
        | cons g gs ih => intro fs hk t hl; cases fs with
          | nil => cases hk
          | cons f' fs =>
            obtain ⟨gk, gv⟩ := g
            obtain ⟨fk, fv⟩ := f'
            rw [List.map_cons, List.map_cons] at hk
            injection hk with e1 e2
            have e1 : gk = fk := e1
            subst e1
            cases t with
            | cons t1 t2 =>
              by_cases hq : f = gk
              · subst hq
                rw [List.lookup_cons_self] at hl ⊢
                cases hl
                exact ⟨gv, rfl, t1⟩
              · have hb : (f == gk) = false := beq_eq_false_iff_ne.mpr hq
                simp only [List.lookup, hb] at hl ⊢
                exact ih e2 t2 hl
      obtain ⟨v, hv, tv⟩ := look hk t1 hl
      exact ⟨a, C, dx, gs, v, rfl, g1.ok.sub _ _ h1, c, hn, hv, q d v G1 H1 rfl g1 tv⟩⟩
/-- a method's promise -/
structure MtT (P : Program) (w : World) (K : PySem.W.Frag) (mg : Str → Option Value) (base : Heap) (C : Addr) (m : Str) (k : Nat) (Pre : Mu → List D → Prop) (Rt : List D → D → Prop) : Prop where
  ex : ∃ f fd ps, FnOk P w K mg base CX0 k f fd ps (spD K Pre Rt) ∧ Meth K C m f ∧ Binds K fd ps []
theorem MtT.mono {P : Program} {w : World} {K : PySem.W.Frag} {mg : Str → Option Value} {base : Heap} {C : Addr} {j : Nat} (F : MtT P w K mg base C m j Pre Rt) (h : j ≤ k) : MtT P w K mg base C m k Pre Rt := let ⟨f, fd, ps, a, b, d⟩ := F.ex; ⟨f, fd, ps, a.mono h, b, d⟩
/-- o.m() -/
theorem lookup_none {α β : Type} {f : Str} : ∀ {gs : List (Str × α)} {fs : List (Str × β)}, gs.map (·.1) = fs.map (·.1) → fs.lookup f = none → gs.lookup f = none
  | [], [], _, _ => rfl
  | [], _ :: _, h, _ => by cases h
  | _ :: _, [], h, _ => by cases h
  | (gk, gv) :: gs, (fk, fv) :: fs, hk, hl => by
    rw [List.map_cons, List.map_cons] at hk
    injection hk with e1 e2
    have e1 : gk = fk := e1
    subst e1
    by_cases hq : f = gk
    · subst hq
      rw [List.lookup_cons_self] at hl
      cases hl
    · have hb : (f == gk) = false := beq_eq_false_iff_ne.mpr hq
      simp only [List.lookup, hb] at hl ⊢
      exact lookup_none e2 hl
theorem d_meth0 {C : Addr} {fs : List (Str × D)} {d : D} {pl : Sem Bool} (F : MtT X.prog X.w X.K X.mg X.base C m k Pre Rt) (hr : Room k X.A) (he : DV X M o ds (.ob C fs)) (c : Cls X.K C) (hl : fs.lookup m = none) (h : Pre mu0 [.ob C fs]) (h2 : ∀ y, Rt [.ob C fs] y → y = d)
    (ht : eval (.Call (.Attribute o m apos) [] [] pos) X.env = (do
      let ov ← eval o X.env
      standAt apos.atName
      let (f, first) ← holding [ov] (getMethod ov m pl)
      callWith pos f first (backTo pos (starEach [] X.env)) (backToKw pos (keywordEach [] X.env))) := by rfl) : DV X M (.Call (.Attribute o m apos) [] [] pos) ds d := by
  obtain ⟨f, fd, ps, F, hm, hb⟩ := F.ex
  refine PE.imp (pe_meth0 he c hm F hr hb .nil pass0 ht) fun σ H Q ⟨G, s, ok, q⟩ => ⟨G, s, ok, fun y v G1 H1 r1 g1 t1 => ?_⟩
  rw [show y = _ from r1] at t1
  have t1' := t1
  cases t1 with
  | ob h1 hk t1 =>
    refine ⟨_, _, _, rfl, g1.ok.sub _ _ h1, lookup_none hk hl, ?_⟩
    exact ⟨mu0, G1, [.ob C fs], g1.ok.weaken Le.zero, .cons t1' .nil, h, fun d' v G' H' hd g' t' => q d' v G' H' (h2 d' hd) (g1.trans ok (g'.lift g1.ok Le.zero)) t'⟩
end
end DL
set_option maxHeartbeats 3200000
namespace ST
open PySem PySem.Spec PyProof.Rows L2
abbrev setNew (w : World) : Obj := { cls := .type "set", dict := none, data := .set #[] 0 (.fresh 0 0 (!w.params.followText "set-order")) }
section
variable {P : Program} {w : World} {A : Around} {E : Value → Shared → Prop} {s : Shared}
/-- the update's loop over the source does what is wanted of the set -/
def LoopOk (P : Program) (w : World) (u0 : Nat) (n : Nat) (Pv : Nat → Value → Prop) (l S : Addr) (old : Heap) (Post : Heap → Prop) : Prop :=
  ∀ (B : Around) (I : Addr) (R : Result → Shared → Prop) (Z : Nat → Shared → Prop) (s0 : Shared), B.handled = none → B.units ≤ u0 + 4 → S ≠ I → S ≠ l → old.get? I = none → old.get? S = none → (∀ b o, old.get? b = some o → s0.heap.get? b = some o) →
    WalksS P w B.in1 I [I, l] [I] (fun a b => b = a) n Pv Z → Z 0 s0 → s0.heap.get? S = some (setNew w) →
    (∀ s1, Moved [S, I] (fun a b => b = a) s0 s1 → Post s1.heap → R (.ok (.ret .none)) s1) → codeAny (model P w) B (.builtin "set.update.loop" ⟨[.ref S, .ref I], []⟩) R s0
theorem set_from {l : Addr} {T : String} {ol itO : Obj} {n : Nat} {Pv : Nat → Value → Prop} {Z : Addr → Nat → Heap → Prop} {Post : Heap → Prop} {Q : Value → Shared → Prop} (hT : T = "list" ∨ T = "tuple") (hh : A.handled = none)
    (hol : s.heap.get? l = some ol) (hcl : ol.cls = .type T)
    (iter : ∀ (B : Around) (F : Value → Shared → Prop) (E2 : Value → Shared → Prop) (s1 : Shared), s1.heap.get? l = some ol → F (.ref s1.heap.objs.size) { s1 with heap := s1.heap.push itO } → wpAny (model P w) B (pyIter (.ref l)) F E2 s1)
    (walk : ∀ (B : Around) (I : Addr), B.handled = none → l ≠ I → Walks P w B I [I, l] [I] n Pv (Z I)) (zero : ∀ (I : Addr) (h : Heap), h.get? I = some itO → h.get? l = some ol → Z I 0 h)
    (lit : itO.isFreed = false) (loop : LoopOk P w A.units n Pv l s.heap.objs.size s.heap Post)
    (fin : ∀ (h' : Heap) (tk : Nat), Post h' → (∀ b o, s.heap.get? b = some o → h'.get? b = some o) → Q (.ref s.heap.objs.size) { s with heap := h', toks := tk }) :
    wpAny (model P w) A (call (.type "set") [.ref l]) Q E s := by
  obtain ⟨c, tl, hmro⟩ := F.called_set.mro
  have w1 := F.called_set.made
  have w2 := F.called_set.sub
  have hne : (Value.type T == Value.type "dict") = false := by rcases hT with rfl | rfl <;> decide
  have nosub1 : isSubtype (.type T) (.type "set") = pure false := by
    rcases hT with rfl | rfl
    · exact F.sub_list_set
    · exact F.sub_tuple_set
  have nosub2 : isSubtype (.type T) (.type "frozenset") = pure false := by
    rcases hT with rfl | rfl
    · exact F.sub_list_frozenset
    · exact F.sub_tuple_frozenset
  refine wpAny_call (codeAny_of_tree (show wpAny _ _ (callAny (.type "set") _) _ _ _ from ?_))
  refine wpAny_pure ⟨Code.quiet_builtin _ (by decide +kernel), codeAny_builtin F.entry_type_call ?_⟩
  rw [Around.under_plain (weight_type_call_type "set" [.ref l] []) rfl]
  have w3 := F.called_set.notType
  have w4 := F.called_set.canCreate
  have w5 := F.typeCall_set_1 (.ref l)
  repeat (any_goals (first | assumption | wp_step))
  have gone : ∀ b, s.heap.objs.size ≤ b → s.heap.get? b = none := fun b hb => Heap.get?_none_of_le hb
  refine codeAny_mono (code_set_led1 (.ref l) (E := E) (Q₁ := fun obj t1 => obj = .ref s.heap.objs.size ∧ t1 = { s with heap := s.heap.push (setNew w) }) ⟨rfl, rfl⟩) fun r t1 hr => ?_
  cases r with
  | error e => exact hr
  | ok fl =>
    cases fl with
    | ret ob =>
      obtain ⟨rfl, rfl⟩ := hr
      have at1 : (s.heap.push (setNew w)).get? s.heap.objs.size = some (setNew w) := Heap.get?_push_size _ rfl
      have is1 : Shared.TypeIs { s with heap := s.heap.push (setNew w) } (.ref s.heap.objs.size) "set" := ⟨_, at1, rfl⟩
      have w6 := F.called_set.init.lookup
      have w7 := F.called_set.init.bind (.ref s.heap.objs.size)
      repeat (any_goals (first | assumption | wp_step))
      refine codeAny_mono (codeAny_call_builtin (R := wants (fun r t2 => r = .none ∧ ∃ h' tk, t2 = { s with heap := h', toks := tk } ∧ Post h' ∧ ∀ b o, s.heap.get? b = some o → h'.get? b = some o) E) F.called_set.init.plain F.entry_set_init (check_set_init_1 is1 ?_)) fun r2 t2 hr2 => ?_
      · have at2 : (s.heap.push (setNew w)).get? l = some ol := Heap.get?_push_of_some _ hol
        obtain ⟨ocl, odi, oda, osl⟩ := ol
        have hcl' : ocl = .type T := hcl
        subst hcl'
        unfold Builtin.«set.__init__» noKeywords Builtin.Frozenset.updateFrom
        generalize hPI : pyIter = PI
        wp_walk
        subst hPI
        refine iter _ _ _ _ at2 ?_
        refine wpAny_bind (wpAny_runValue ?_)
        have lS : l < s.heap.objs.size := Heap.lt_size hol
        have sz : (s.heap.push (setNew w)).objs.size = s.heap.objs.size + 1 := Heap.size_push ..
        have nl : l ≠ (s.heap.push (setNew w)).objs.size := by rw [sz]; exact Nat.ne_of_lt (Nat.lt_succ_of_lt lS)
        have old : ∀ b o, s.heap.get? b = some o → ((s.heap.push (setNew w)).push itO).get? b = some o := fun b o e => Heap.get?_push_of_some _ (Heap.get?_push_of_some _ e)
        refine loop _ (s.heap.push (setNew w)).objs.size _ _ _ (by simp [hh]) ?units (by rw [sz]; exact Nat.ne_of_lt (Nat.lt_succ_self _)) (Nat.ne_of_gt lS) (gone _ (by rw [sz]; exact Nat.le_succ _)) (gone _ (Nat.le_refl _)) old (walk _ _ (by simp [hh]) nl).toS
          (zero _ _ (Heap.get?_push_size _ lit) (Heap.get?_push_of_some _ at2)) (Heap.get?_push_of_some _ at1) fun t3 mv post => ?_
        case units => simp
        obtain ⟨h3, g3, d3, k3, o3⟩ := t3
        have e1 : g3 = s.gens := mv.gens
        have e2 : d3 = s.drawn := mv.drawn
        have e3 : o3 = s.os := mv.os
        subst e1 e2 e3
        refine wpAny_pure (show wpAny _ _ (ret Value.none) _ _ _ from wpAny_pure ⟨rfl, h3, k3, rfl, post, fun b o e => ?_⟩)
        refine mv.heap b o (fun hm => ?_) (old b o e)
        have lb := Heap.lt_size e
        rcases List.mem_cons.mp hm with rfl | hm
        · exact absurd lb (Nat.lt_irrefl _)
        · rw [List.mem_singleton.mp hm, sz] at lb
          exact absurd (Nat.lt_of_succ_lt lb) (Nat.lt_irrefl _)
      · cases r2 with
        | error e => exact hr2
        | ok f2 =>
          cases f2 with
          | ret r =>
            obtain ⟨rfl, h', tk, rfl, post, kp⟩ := hr2
            repeat (any_goals (first | assumption | wp_step))
            exact fin _ _ post kp
          | _ => exact hr2.elim
    | _ => exact hr.elim
theorem set_list {l : Addr} {items : Array Value} {Post : Heap → Prop} {Q : Value → Shared → Prop} (hh : A.handled = none) (hl : s.heap.IsList l items) (loop : LoopOk P w A.units items.size (fun i v => items[i]? = some v) l s.heap.objs.size s.heap Post)
    (fin : ∀ (h' : Heap) (tk : Nat), Post h' → (∀ b o, s.heap.get? b = some o → h'.get? b = some o) → Q (.ref s.heap.objs.size) { s with heap := h', toks := tk }) : wpAny (model P w) A (call (.type "set") [.ref l]) Q E s := by
  obtain ⟨ol, hol, hc, n, hd⟩ := id hl
  have isl : ∀ h : Heap, h.get? l = some ol → h.IsList l items := fun h e => ⟨ol, e, hc, n, hd⟩
  exact set_from (itO := { cls := .type "list_iterator", data := .fields #[.ref l, .int 0 0] }) (.inl rfl) hh hol hc (fun B F E2 s1 e q => wpAny_pyIter_list (isl _ e) q) (fun B I hB ne => Walks.list hB I l ne items) (fun I h e1 e2 => ⟨⟨_, e1, rfl, rfl⟩, isl _ e2⟩) rfl loop fin
theorem set_tuple {l : Addr} {items : Array Value} {Post : Heap → Prop} {Q : Value → Shared → Prop} (hh : A.handled = none) (hl : s.heap.IsTuple l items) (loop : LoopOk P w A.units items.size (fun i v => items[i]? = some v) l s.heap.objs.size s.heap Post)
    (fin : ∀ (h' : Heap) (tk : Nat), Post h' → (∀ b o, s.heap.get? b = some o → h'.get? b = some o) → Q (.ref s.heap.objs.size) { s with heap := h', toks := tk }) : wpAny (model P w) A (call (.type "set") [.ref l]) Q E s := by
  obtain ⟨ol, hol, hc, n, hd⟩ := id hl
  have isl : ∀ h : Heap, h.get? l = some ol → h.IsTuple l items := fun h e => ⟨ol, e, hc, n, hd⟩
  exact set_from (itO := { cls := .type "tuple_iterator", data := .fields #[.ref l, .int 0 0] }) (.inr rfl) hh hol hc (fun B F E2 s1 e q => wpAny_pyIter_tuple (isl _ e) q) (fun B I hB ne => Walks.tuple hB I l ne items) (fun I h e1 e2 => ⟨⟨_, e1, rfl, rfl⟩, isl _ e2⟩) rfl loop fin
end
end ST
set_option maxHeartbeats 1000000
namespace ST
open PySem PySem.Spec PyProof.Rows L2 DL
/-- the texts met in the first i turns -/
def metS (xs : List Str) (i : Nat) : Str → Bool := fun k => decide (k ∈ xs.take i)
theorem met_succ {xs : List Str} {i : Nat} {x : Str} (h : xs[i]? = some x) (k : Str) : (metS xs i k || decide (k = x)) = metS xs (i + 1) k := by
  have e : xs.take (i + 1) = xs.take i ++ [x] := by rw [List.take_succ, h]; rfl
  unfold metS
  rw [e]
  by_cases h1 : k ∈ xs.take i
  · rw [decide_eq_true h1, decide_eq_true (List.mem_append_left _ h1)]; rfl
  · by_cases h2 : k = x
    · subst h2
      rw [decide_eq_true (show k = k from rfl), decide_eq_true (show k ∈ xs.take i ++ [k] by simp)]
      exact Bool.or_true _
    · rw [decide_eq_false h1, decide_eq_false h2, decide_eq_false (show ¬ k ∈ xs.take i ++ [x] by simp [h1, h2])]
      rfl
section
variable {P : Program} {w : World} {A : Around} {E : Value → Shared → Prop} {s : Shared}
theorem set_keep {h h' : Heap} {S : Addr} {f : Str → Bool} {n : Nat} (hS : h.SetOf (strKind P w) S f n) (k : ∀ o, h.get? S = some o → h'.get? S = some o) : h'.SetOf (strKind P w) S f n := by
  obtain ⟨o, es, ep, t, ho, r⟩ := hS
  exact ⟨o, es, ep, t, k o ho, r⟩
/-- different texts, one after another -/
theorem loop_strs {items : Array Value} {xs : List Str} {l S u0 : Nat} {old : Heap} (hi : StrsAre items.toList xs) (nd : xs.Nodup) (hb : xs.length < 4000) : LoopOk P w u0 items.size (fun i v => items[i]? = some v) l S old (fun h => h.SetOf (strKind P w) S (metS xs xs.length) xs.length) := by
  intro B I R Z s0 hB hu nSI nSl oI oS hold W z0 hS0 fin
  have hsz : xs.length = items.size := by rw [← StrsAre.len_eq hi, Array.length_toList]
  have inw : ∀ b ∈ [I], b ∈ [S, I] := fun b hb => List.mem_cons_of_mem _ hb
  have turn : ∀ (k i : Nat) (t : Shared), xs.length - i = k → i ≤ xs.length → Z i t → t.heap.SetOf (strKind P w) S (metS xs i) i → Moved [S, I] (fun a b => b = a) s0 t → codeAny (model P w) B (.builtin "set.update.loop" ⟨[.ref S, .ref I], []⟩) R t := by
    intro k
    induction k with
    | zero =>
      intro i t hk hle hz hS mv
      obtain rfl : i = xs.length := by omega
      refine codeAny_builtin PyProof.Rows.F.entry_set_update_loop ?_
      rw [Around.under_plainId PyProof.Rows.F.plain_set_update_loop _]
      refine wpAny_bind (W.done t _ _ (hsz ▸ hz) fun t2 m2 => ?_)
      refine wpAny_pure (fin t2 (Moved.trans (fun a b c h1 h2 => h2.trans h1) mv (m2.mono inw)) (set_keep hS fun o e => m2.heap S o (fun q => nSI (List.mem_singleton.mp q)) e))
    | succ k ih =>
      intro i t hk hle hz hS mv
      have hlt : i < xs.length := by omega
      refine codeAny_builtin PyProof.Rows.F.entry_set_update_loop ?_
      rw [Around.under_plainId PyProof.Rows.F.plain_set_update_loop _]
      refine wpAny_bind (W.item i t _ _ (hsz ▸ hlt) hz fun v t2 hv hz2 m2 => ?_)
      obtain ⟨tk, rfl⟩ := SS.strs_at hi i v (by rw [Array.getElem?_toList]; exact hv)
      have hx : xs[i]? = some (xs.getD i Str.empty) := by rw [List.getElem?_eq_getElem hlt, List.getD_eq_getElem?_getD, List.getElem?_eq_getElem hlt]; rfl
      generalize xs.getD i Str.empty = x at hx ⊢
      have hS2 := set_keep (h' := t2.heap) hS fun o e => m2.heap S o (fun q => nSI (List.mem_singleton.mp q)) e
      have fresh : metS xs i x = false := decide_eq_false fun hm => by
        obtain ⟨j, hj, e⟩ := List.mem_iff_getElem.mp hm
        rw [List.length_take] at hj
        rw [List.getElem_take] at e
        obtain ⟨h1, h2⟩ := List.getElem?_eq_some_iff.mp hx
        have := (List.getElem_inj nd).mp (e.trans h2.symm)
        omega
      refine wpAny_bind (wpAny_holding (show wpAny _ _ (setAdd S (.str x tk)) _ _ _ from ?_))
      unfold setAdd
      refine wpAny_holding (wpAny_bind ((strKind P w).pyHash (k := x) (strKind_is _ _ _ _) ?_))
      refine wpAny_setAddHashed_of (knd := strKind P w) (s := { t2 with toks := t2.toks + 1 }) (strKind_is _ _ _ _) rfl hS2 (by unfold scanBound; omega) fun h' sb hS3 => ?_
      have sbI : ∀ b, b ≠ S → ∀ o, t2.heap.get? b = some o → h'.get? b = some o := fun b hb o e => (sb.2 b hb).trans e
      refine wpAny_pure ⟨plainId_quiet PyProof.Rows.F.plain_set_update_loop _, ih (i + 1) { t2 with heap := h', toks := t2.toks + 1 } (by omega) hlt (W.frame _ t2 _ _ hz2 (Nat.le_succ _) fun b hb o e => ?_) ?_ ?_⟩
      · refine sbI b (fun q => ?_) o e
        subst q
        rcases List.mem_cons.mp hb with q | q
        · exact nSI q
        · exact nSl (List.mem_singleton.mp q)
      · refine SetOf_congr hS3 (fun k' => met_succ hx k') ?_
        rw [fresh]; rfl
      · refine Moved.trans (fun a b c h1 h2 => h2.trans h1) mv ((m2.mono inw).then_heap (Nat.le_succ _) fun b o hb e => sbI b (fun q => hb (by rw [q]; exact List.mem_cons_self)) o e)
  refine turn xs.length 0 s0 (by omega) (Nat.zero_le _) z0 ?_ (Moved.refl fun _ => rfl)
  refine SetOf_congr ((setObjOf_fresh (knd := strKind P w) (!w.params.followText "set-order")).setOf hS0 (by unfold scanBound; omega)) (fun k => ?_) rfl
  show false = decide (k ∈ xs.take 0)
  simp
end
end ST
namespace DL
open PySem PySem.Spec PyProof.Rows L2
section
variable {X : Cx} {M : Mu} {ds : DS} {a : Expr}
/-- len(set(xs)), xs different texts -/
def tLenSetN (K : PySem.W.Frag) (ta : TE) : TE := fun σ H Q => ta σ H fun x H1 => ∃ l, ∃ xs : List Str, x = .ref l ∧ (SqL K H1 l (xs.map V.str) ∨ SqT K H1 l (xs.map V.str)) ∧ xs.Nodup ∧ xs.length < 4000 ∧ Q (.int xs.length) H1
theorem pe_lenSetN {ta : TE} {p p2 q pos : Pos} (hc : X.calm = true) (hm : X.mg "len" = none) (hm2 : X.mg "set" = none) (ha : PE X a ta) (hg : Gl X "len" := by rfl) (hg2 : Gl X "set" := by rfl)
    (na : starEach [a] X.env = (false, eval a X.env) :: starEach [] X.env := by rfl) : PE X (.Call (.Name "len" p) [.Call (.Name "set" p2) [a] [] q] [] pos) (tLenSetN X.K ta) := by
  refine ⟨fun pins s σ H Q I h => Call_ (ld_blt I hg hm boot_len (callWith_builtin1 (args_cons (Call_ (ld_blt I hg2 hm2 boot_set (callWith_type1 (args_cons (thn (ha.run pins s σ H _ I h) fun v s1 ⟨x, H1, I1, r1, q1⟩ => args_nil ?_) na) na rfl))) rfl) rfl rfl))⟩
  obtain ⟨l, xs, rfl, hq, nd, hb, q1⟩ := q1
  cases r1
  have done : ∀ (its : List Value), Vals (xs.map V.str) its → ∀ (h' : Heap) (tk : Nat), h'.SetOf (strKind X.prog X.w) s1.heap.objs.size (ST.metS xs xs.length) xs.length → (∀ b o, s1.heap.get? b = some o → h'.get? b = some o) →
      wpAny (model X.prog X.w) X.A (spliced (backTo pos (starEach [] X.env))) (fun vs s2 => wpAny (model X.prog X.w) X.A (call (.builtin "len") (Value.ref s1.heap.objs.size :: vs)) (EP X pins σ Q) X.xe s2) X.xe { s1 with heap := h', toks := tk } := fun its r h' tk hS hk => args_nil (by
    obtain ⟨o, es, ep, t, ho, hex, hd, _, _, _, hf, hn⟩ := hS
    have I2 : Inv X pins σ H1 { s1 with heap := h', toks := tk } := I1.kept hk
    exact call_len_set ho hex hd hf (by rw [hn]; omega) ⟨.int xs.length, H1, I2.tok _, ⟨_, by rw [hn]⟩, q1⟩)
  rcases hq with hq | hq
  · obtain ⟨its, r, pl, hz⟩ := I1.list hq
    exact ST.set_list (I1.ok.hd hc) pl.isList (ST.loop_strs (by simpa using strsAre_of r) nd hb) fun h' tk hS hk => done its r h' tk hS hk
  · obtain ⟨its, r, pl, hz⟩ := I1.tuple hq
    exact ST.set_tuple (I1.ok.hd hc) pl (ST.loop_strs (by simpa using strsAre_of r) nd hb) fun h' tk hS hk => done its r h' tk hS hk
theorem d_lenSet {p p2 q pos : Pos} {l : D} {xs : List Str} (hc : X.calm = true) (hm : X.mg "len" = none) (hm2 : X.mg "set" = none) (ha : DV X M a ds l) (hl : l = .lst (dNs xs) ∨ l = .tup (dNs xs)) (nd : xs.Nodup) (hb : xs.length < 4000) (hg : Gl X "len" := by rfl) (hg2 : Gl X "set" := by rfl)
    (na : starEach [a] X.env = (false, eval a X.env) :: starEach [] X.env := by rfl) : DV X M (.Call (.Name "len" p) [.Call (.Name "set" p2) [a] [] q] [] pos) ds (.int (xs.length : Int)) :=
  PE.imp (pe_lenSetN hc hm hm2 ha hg hg2 na) fun σ H Q ⟨G, s, ok, k⟩ => ⟨G, s, ok, fun d v G1 H1 e1 g1 t1 => by
    rw [show d = l from e1] at t1
    rcases hl with rfl | rfl
    · cases t1 with
      | lst h1 s1 =>
        rw [s1.strs] at h1
        exact ⟨_, xs, rfl, .inl (SqL.of (g1.ok.sub _ _ h1)), nd, hb, k _ _ G1 H1 rfl g1 (.int _)⟩
    · cases t1 with
      | tup h1 s1 =>
        rw [s1.strs] at h1
        exact ⟨_, xs, rfl, .inr (same_t g1.ok.sub h1.sq), nd, hb, k _ _ G1 H1 rfl g1 (.int _)⟩⟩
end
end DL
set_option maxHeartbeats 1000000
namespace DL
open PySem PySem.Spec PyProof.Rows L2

/-! ### a written dict with the two truths as keys -/
def entB (e : DictEntry) (p : Bool) (z : Str) : Prop := e.hash = PpSet.hB p ∧ e.key = .bool p ∧ ∃ t, e.val = .str z t
structure DictB (K : PySem.W.Frag) (a : Addr) (yes no : Str) : Prop where
  ex : ∃ e1 e2 n, K.lookup a = some ⟨.type "dict", none, .dict #[e1, e2] n, #[]⟩ ∧ entB e1 true yes ∧ entB e2 false no
def pickB (yes no : Str) (p : Bool) : Str := if p = true then yes else no
theorem ix_dictB {X : Cx} {a : Addr} {yes no : Str} (W : DictB X.K a yes no) : IxR X (fun x y H Q => ∃ p, x = .ref a ∧ y = .bl p ∧ Q (.str (pickB yes no p)) H) := by
  intro value slice pins s σ H x y v u Q I rx ry ⟨p, ex, ey, q⟩ hs
  subst ex ey
  cases rx
  cases ry
  obtain ⟨e1, e2, n, hl, ⟨h1, k1, t1, v1⟩, h2, k2, t2, v2⟩ := W.ex
  have hm : s.heap.MapOf (PpSet.boolK X.prog X.w) a (fun k => some (if k = true then e1.val else e2.val)) := by
    refine ⟨_, _, _, I.kIn _ _ hl, ⟨rfl, rfl, rfl⟩, rfl, fun e he => ?_, fun k => ?_⟩
    · rcases List.mem_cons.mp (Array.mem_toList_iff.mpr he) with rfl | he
      · exact ⟨true, by rw [k1]; exact PpSet.boolK_is _ _ _, h1⟩
      · rw [List.mem_singleton.mp he]
        exact ⟨false, by rw [k2]; exact PpSet.boolK_is _ _ _, h2⟩
    · have f1 : (PpSet.boolK X.prog X.w).is k e1.key = k := by rw [k1]; cases k <;> rfl
      have f2 : (PpSet.boolK X.prog X.w).is k e2.key = !k := by rw [k2]; cases k <;> rfl
      unfold findBy
      rw [← Array.find?_toList]
      show Option.map _ (List.find? _ [e1, e2]) = _
      cases k
      · rw [List.find?_cons, f1, List.find?_cons, f2]; rfl
      · rw [List.find?_cons, f1]; rfl
  refine tail_any hm.typeIs slot_dict_getitem.lookup (wpAny_getItem_of (PpSet.boolK_is _ _ p) hm rfl ?_) hs
  cases p
  · exact ⟨.str no, H, I.tok _, ⟨t2, v2⟩, q⟩
  · exact ⟨.str yes, H, I.tok _, ⟨t1, v1⟩, q⟩
section
variable {X : Cx} {M : Mu} {ds : DS} {e a b c : Expr} {es : List Expr} {R Ra Rb : D → Prop} {pos : Pos} {z u : Str}
theorem d_words {n : Str} {p : Bool} {wa : Addr} {yes no : Str} {np : Pos} (W : DictB X.K wa yes no) (hm : X.mg n = some (.ref wa)) (hb : DV X M b ds (.bl p)) (hg : Gl X n := by rfl) (hd : (n == ("__debug__" : Str)) = false := by decide) (hs : PlainIx b := by exact fun _ _ => rfl) :
    DV X M (.Subscript (.Name n np) b pos) ds (.str (pickB yes no p)) :=
  dx_ix (Ra := Is (.raw (.ref wa))) (ix_dictB W) (dx_c (pe_glob hg hm (v := .ref wa) rfl hd) fun _ => .raw _) hb (is2 fun G H v w Q ok t1 t2 k => by
    cases t1; cases t2
    exact ⟨p, rfl, rfl, k _ _ G H rfl (Gr.refl ok) (.str _)⟩) hs
/-! ### a written dict with texts as keys, truths as values -/
structure DictT (K : PySem.W.Frag) (w : World) (a : Addr) (yes no : Str) : Prop where
  ex : ∃ es n, KDict K w a es n ∧ PySem.W.nsIn K a yes = some (some (.bool true)) ∧ PySem.W.nsIn K a no = some (some (.bool false))
theorem ix_kd {d : Addr} {es : Array DictEntry} {n : Nat} (D : KDict X.K X.w d es n) : IxR X (fun x y H Q => ∃ (z : Str) (u0 : Value) (v0 : V), x = .ref d ∧ y = .str z ∧ PySem.W.nsIn X.K d z = some (some u0) ∧ RelV v0 u0 ∧ Q v0 H) := by
  intro value slice pins s σ H x y v u Q I rx ry h hs
  obtain ⟨z, u0, v0, ex, ey, h2, h3, q⟩ := h
  have hop := op_item_kd D pins s σ H x y v u Q I rx ry ⟨z, u0, v0, ex, ey, h2, h3, q⟩
  subst ex
  cases rx
  exact tail_any (kd_type D I) slot_dict_getitem.lookup hop hs
theorem d_truths {n : Str} {wa : Addr} {yes no : Str} {np : Pos} (W : DictT X.K X.w wa yes no) (hm : X.mg n = some (.ref wa)) (p : Bool) (hb : DV X M b ds (.str (pickB yes no p))) (hg : Gl X n := by rfl) (hd : (n == ("__debug__" : Str)) = false := by decide) (hs : PlainIx b := by exact fun _ _ => rfl) :
    DV X M (.Subscript (.Name n np) b pos) ds (.bl p) := by
  obtain ⟨es, m, D, h1, h2⟩ := W.ex
  exact dx_ix (Ra := Is (.raw (.ref wa))) (ix_kd D) (dx_c (pe_glob hg hm (v := .ref wa) rfl hd) fun _ => .raw _) hb (is2 fun G H v w Q ok t1 t2 k => by
    cases t1; cases t2
    refine ⟨_, .bool p, .bl p, rfl, rfl, ?_, rfl, k _ _ G H rfl (Gr.refl ok) (.bl _)⟩
    cases p
    · exact h2
    · exact h1) hs
theorem d_inTruths {n : Str} {wa : Addr} {yes no : Str} {np : Pos} (W : DictT X.K X.w wa yes no) (hm : X.mg n = some (.ref wa)) (p : Bool) (ha : DV X M a ds (.str (pickB yes no p))) (hg : Gl X n := by rfl) (hd : (n == ("__debug__" : Str)) = false := by decide) (hmk : behindInMarks .In (.Name n np) = false := by rfl) :
    DV X M (.Compare a [.In] [.Name n np] pos) ds (.bl true) := by
  obtain ⟨es, m, D, h1, h2⟩ := W.ex
  exact dx_cmp (Rb := Is (.raw (.ref wa))) (op_in_kd D) ha (dx_c (pe_glob hg hm (v := .ref wa) rfl hd) fun _ => .raw _) hmk (is2 fun G H v w Q ok t1 t2 k => by
    cases t1; cases t2
    refine ⟨_, some (.bool p), rfl, rfl, ?_, k _ _ G H rfl (Gr.refl ok) (.bl _)⟩
    cases p
    · exact h2
    · exact h1)
/-! ### stars in displays -/
theorem da_star {p2 : Pos} {l : D} {xs ys : List D} (he : DV X M e ds l) (hl : l = .lst xs ∨ l = .tup xs) (hr : DVs X M es ds ys) (hs : starEach (.Starred e p2 :: es) X.env = (true, eval e X.env) :: starEach es X.env := by rfl) : DVs X M (.Starred e p2 :: es) ds (xs ++ ys) :=
  PA.imp (StX.pa_star he hr hs) fun σ H Q ⟨G, s, ok, k⟩ => ⟨G, s, ok, fun x u G1 H1 r1 g1 t1 => by
    rw [show x = l from r1] at t1
    rcases hl with rfl | rfl
    · cases t1 with
      | lst h1 s1 => exact ⟨_, _, rfl, .inr (SqL.of (g1.ok.sub _ _ h1)), G1, s.mono g1.ex, g1.ok, fun m vs G2 H2 r2 g2 t2 => k _ _ G2 H2 (by rw [show m = ys from r2]; rfl) (g1.trans ok g2) ((s1.mono g2.ex).append t2)⟩
    · cases t1 with
      | tup h1 s1 => exact ⟨_, _, rfl, .inl (same_t g1.ok.sub h1.sq), G1, s.mono g1.ex, g1.ok, fun m vs G2 H2 r2 g2 t2 => k _ _ G2 H2 (by rw [show m = ys from r2]; rfl) (g1.trans ok g2) ((s1.mono g2.ex).append t2)⟩⟩
theorem d_lstL {l : List D} (h : DVs X M es ds l) (hl : l.length ≤ sizeLine) : DV X M (.List es pos) ds (.lst l) := dx_lst h fun m e => by rw [show m = l from e]; exact ⟨hl, rfl⟩
/-- [e] alone -/
theorem d_lst1 {d : D} (h : DV X M e ds d) (hs : starEach [e] X.env = (false, eval e X.env) :: starEach [] X.env := by rfl) : DV X M (.List [e] pos) ds (.lst [d]) := d_lst (da_1 h hs) (by simp)
/-! ### x, y = e -/
theorem dp_tup2 {i j : Nat} {x y : Str} {px py pt : Pos} {kt : Nat} {d1 d2 : D} {Rt : D → Prop} (hc : X.calm = true) (hN : X.N.Nodup) (he : DV X M e ds (.tup [d1, d2])) (hx : X.N[i]? = some x := by rfl) (hy : X.N[j]? = some y := by rfl)
    (lx : Loc X.env.scope x := by exact .inl rfl) (ly : Loc X.env.scope y := by exact .inl rfl) (fx : X.fn x = true ∨ X.env.scope.names.lookup x = some .local := by first | exact .inr rfl | exact .inl rfl) (fy : X.fn y = true ∨ X.env.scope.names.lookup y = some .local := by first | exact .inr rfl | exact .inl rfl)
    (h1 : (assignEach [.Name x px, .Name y py] X.env).map (·.2) = assign (.Name x px) X.env :: (assignEach [.Name y py] X.env).map (·.2) := by rfl) (h2 : (assignEach [.Name y py] X.env).map (·.2) = assign (.Name y py) X.env :: (assignEach [] X.env).map (·.2) := by rfl)
    (hn : (assignEach [.Name x px, .Name y py] X.env).length = 2 := by rfl) (hst : (assignEach [.Name x px, .Name y py] X.env).findIdx? (·.1) = none := by rfl)
    (hs : swapsWithSole [.Tuple [.Name x px, .Name y py] kt pt] e pos.line X.env = pure false := by rfl) (hw : swappedStores [.Tuple [.Name x px, .Name y py] kt pt] e X.env = pure none := by rfl)
    (h0 : (assignEach [.Tuple [.Name x px, .Name y py] kt pt] X.env).map (·.2) = [assign (.Tuple [.Name x px, .Name y py] kt pt) X.env] := by rfl) :
    DP X M (.Assign [.Tuple [.Name x px, .Name y py] kt pt] e pos) ds (Is ((ds.set i (some d1)).set j (some d2))) Rt :=
  (dp_asgR (is := [i, j]) (u := fun _ ds => (ds.set i (some d1)).set j (some d2)) he (pg_tup hc (pgs_cons (pg_name hN hx lx fx) (pgs_cons (pg_name hN hy ly fy) pgs_nil h2) h1) hn hst) (fun d r => by rw [show d = _ from r]; exact tg2) hs hw h0).weak (fun x ⟨d, _, e⟩ => e) fun _ h => h
theorem dp_tup3 {i j k : Nat} {x y z : Str} {px py pz pt : Pos} {kt : Nat} {d1 d2 d3 : D} {Rt : D → Prop} (hc : X.calm = true) (hN : X.N.Nodup) (he : DV X M e ds (.tup [d1, d2, d3])) (hx : X.N[i]? = some x := by rfl) (hy : X.N[j]? = some y := by rfl) (hz : X.N[k]? = some z := by rfl)
    (lx : Loc X.env.scope x := by exact .inl rfl) (ly : Loc X.env.scope y := by exact .inl rfl) (lz : Loc X.env.scope z := by exact .inl rfl) (fx : X.fn x = true ∨ X.env.scope.names.lookup x = some .local := by first | exact .inr rfl | exact .inl rfl) (fy : X.fn y = true ∨ X.env.scope.names.lookup y = some .local := by first | exact .inr rfl | exact .inl rfl) (fz : X.fn z = true ∨ X.env.scope.names.lookup z = some .local := by first | exact .inr rfl | exact .inl rfl)
    (h1 : (assignEach [.Name x px, .Name y py, .Name z pz] X.env).map (·.2) = assign (.Name x px) X.env :: (assignEach [.Name y py, .Name z pz] X.env).map (·.2) := by rfl) (h2 : (assignEach [.Name y py, .Name z pz] X.env).map (·.2) = assign (.Name y py) X.env :: (assignEach [.Name z pz] X.env).map (·.2) := by rfl)
    (h3 : (assignEach [.Name z pz] X.env).map (·.2) = assign (.Name z pz) X.env :: (assignEach [] X.env).map (·.2) := by rfl)
    (hn : (assignEach [.Name x px, .Name y py, .Name z pz] X.env).length = 3 := by rfl) (hst : (assignEach [.Name x px, .Name y py, .Name z pz] X.env).findIdx? (·.1) = none := by rfl)
    (hs : swapsWithSole [.Tuple [.Name x px, .Name y py, .Name z pz] kt pt] e pos.line X.env = pure false := by rfl) (hw : swappedStores [.Tuple [.Name x px, .Name y py, .Name z pz] kt pt] e X.env = pure none := by rfl)
    (h0 : (assignEach [.Tuple [.Name x px, .Name y py, .Name z pz] kt pt] X.env).map (·.2) = [assign (.Tuple [.Name x px, .Name y py, .Name z pz] kt pt) X.env] := by rfl) :
    DP X M (.Assign [.Tuple [.Name x px, .Name y py, .Name z pz] kt pt] e pos) ds (Is (((ds.set i (some d1)).set j (some d2)).set k (some d3))) Rt :=
  (dp_asgR (is := [i, j, k]) (u := fun _ ds => ((ds.set i (some d1)).set j (some d2)).set k (some d3)) he (pg_tup hc (pgs_cons (pg_name hN hx lx fx) (pgs_cons (pg_name hN hy ly fy) (pgs_cons (pg_name hN hz lz fz) pgs_nil h3) h2) h1) hn hst) (fun d r => by rw [show d = _ from r]; exact tg3) hs hw h0).weak (fun x ⟨d, _, e⟩ => e) fun _ h => h
end
end DL
set_option maxHeartbeats 1000000
namespace SO
open PySem PySem.Spec PyProof.Rows L2 PySem.W
section
variable {P : Program} {w : World} {A : Around} {E : Value → Shared → Prop} {s : Shared} {β : Type}
/-- what is gathered from the source: values vs that stand for bs -/
def Gath (P : Program) (w : World) (A : Around) (E : Value → Shared → Prop) (s : Shared) (x : Addr) (R : Value → β → Prop) (enc : β → PyData) (Src : List β → Prop) : Prop :=
  ∀ (Qc : List Value → Shared → Prop), (∀ s1 vs bs, (∀ b o, s.heap.get? b = some o → s1.heap.get? b = some o) → s1.gens = s.gens → s1.os = s.os → Src bs → EachIs R vs bs →
    EachIs (fun v b => Reads s1.heap v (enc b) []) vs bs → Qc vs s1) → wpAny (model P w) A.in1 (collect (.ref x)) Qc E s
/-- sorted(x) -/
theorem sorted_any {x : Addr} {R : Value → β → Prop} {enc : β → PyData} {Src : List β → Prop} {Q : Value → Shared → Prop} (col : Gath P w A E s x R enc Src)
    (fit : ∀ bs, Src bs → AllAlike (bs.map enc) ∧ Sortable (bs.map enc) ∧ bs.length ≤ sizeLine ∧ ∀ b ∈ bs, A.units + 2 + (enc b).depth < cLine)
    (fin : ∀ (s1 s2 : Shared) (p : Addr) (bs : List β) (out : List Value) (c : Nat), Src bs → EachIs R out (bs.mergeSort (dataLe false enc)) → (∀ b o, s.heap.get? b = some o → s1.heap.get? b = some o) → s1.gens = s.gens → s1.os = s.os → (∀ b o, s1.heap.get? b = some o → s2.heap.get? b = some o) → s1.heap.objs.size ≤ p → s2.heap.get? p = some (seqObj "list" (List.toArray out) c) → s2.gens = s1.gens → s2.os = s1.os → Q (.ref p) s2) :
    wpAny (model P w) A (call (.builtin "sorted") [.ref x]) Q E s := by
  refine Calls.call_function_entry kind_sorted plain_sorted entry_sorted (args_sorted1 _) (show wpAny _ _ (Builtin.«sorted» _) _ _ _ from ?_)
  unfold Builtin.«sorted»
  refine wpAny_bind (m := checkCount "sorted" 1 1 _) (wpAny_pure (wpAny_bind (col _ fun s1 vs bs kp eg eo src e er => ?_)))
  obtain ⟨hal, hk, hL, hu⟩ := fit bs src
  have hl : vs.length ≤ sizeLine := by rw [e.length]; exact hL
  refine wpAny_bind (wpAny_newList ?_ hl)
  have at1 : (s1.heap.push (seqObj "list" vs.toArray 0)).get? s1.heap.objs.size = some (seqObj "list" vs.toArray 0) := Heap.get?_push_size _ rfl
  have er1 : EachIs (fun v b => ∃ as, Reads (s1.heap.push (seqObj "list" vs.toArray 0)) v (enc b) as ∧ s1.heap.objs.size ∉ as) vs bs :=
    er.mono fun v b r => ⟨[], PyProof.Rows.Reads.keeps (fun _ _ q => Heap.get?_push_of_some _ q) r, by simp⟩
  refine wpAny_bind (wpAny_holding (list_sort_data (s := { s1 with heap := s1.heap.push (seqObj "list" vs.toArray 0) }) at1 e er1 hal hk hL (fun b hb => by have := hu b hb; show A.in1.units + 1 + _ < _; rw [show A.in1.units = A.units + 1 from rfl]; omega) fun out ho eOut => ?_))
  obtain ⟨c, hc⟩ := sortedHeap_at (vs := vs) (out := List.toArray out) at1
  refine wpAny_pure ⟨_, rfl, fin s1 _ _ bs out c src eOut kp eg eo (fun b o q => ?_) (Nat.le_refl _) hc rfl rfl⟩
  have hb : b < s1.heap.objs.size := Heap.lt_size q
  rw [sortedHeap_old (Nat.ne_of_lt hb) (by rw [size_push']; exact Nat.lt_succ_of_lt hb)]
  exact Heap.get?_push_of_some _ q
end
end SO
set_option maxHeartbeats 1000000
namespace SO
open PySem PySem.Spec PyProof.Rows L2 PySem.W DL
/-- a dict's keys as they stand -/
theorem src_raw {P : Program} {w : World} {d : Addr} {o : Obj} {es : Array DictEntry} {ep : Nat} (lo : (d == sysModules) = false) (hx : o.ExactDict) (hd : o.data = .dict es ep) :
    KdlSrc P w "dict" d d es.size (fun i v => ∃ en, es[i]? = some en ∧ v = en.key) (fun h => h.get? d = some o) where
  type := fun s e => ⟨o, e, hx.1⟩
  there := fun h e => ⟨Heap.lt_size e, Heap.lt_size e⟩
  keep := fun h h' e k => k d (.inl rfl) o e
  notList := by decide
  notTuple := by decide
  hint := fun A E s Q e hq => kdl_hint_dict ⟨o, e, hx.1⟩ hq
  iter := fun A s hh e => by
    have ne : d ≠ s.heap.objs.size := Nat.ne_of_lt (Heap.lt_size e)
    refine ⟨{ cls := .type "dict_keyiterator", data := .fields #[.ref d, .int 0 0, .int es.size 0, .int ep 0] }, fun i h => h.IsKeyIter s.heap.objs.size d i es.size ep ∧ h.get? d = some o, fun E Q q => iter_keys lo e hx hd q, ⟨fun b hb => ?_, fun i h h' st k => ?_, fun i t Q E hi st q => ?_, fun t Q E st q => ?_, fun i t Q E st q => ?_⟩, ?_⟩
    · rw [List.mem_singleton.mp hb]; exact List.mem_cons_self
    · exact ⟨st.1.at fun u z => k _ (by simp) u z, k d (by simp) o st.2⟩
    · refine next_key_item st.1 st.2 hd rfl (Array.getElem?_eq_getElem hi) fun h' st' sb => q _ h' t.toks ⟨_, Array.getElem?_eq_getElem hi, rfl⟩ ⟨st', (sb.2 d ne).trans st.2⟩ fun b u hb z => (sb.2 b fun y => hb (by rw [y]; exact List.mem_cons_self)).trans z
    · exact next_key_end hh st.1 st.2 hd rfl (Nat.le_refl _) fun h' eb => q h' t.toks fun b u hb z => eb b u (fun y => hb (by rw [y]; exact List.mem_cons_self)) z
    · refine wpAny_pyIter_slot st.1.typeIs F.slot_dict_keyiterator_iter (wpAny_call_entry F.slot_dict_keyiterator_iter st.1.typeIs F.entry_dict_keyiterator_iter (show wpAny _ _ (ret (.ref _)) _ _ t from ?_) (F.args_dict_keyiterator_iter_1 _))
      exact wpAny_pure ⟨_, rfl, "dict_keyiterator", _, st.1.typeIs, F.slot_dict_keyiterator_next.lookup, q⟩
    · exact ⟨⟨_, Heap.get?_push_size _ rfl, rfl, rfl⟩, Heap.get?_push_of_some _ e⟩
/-! ### data that hold no list -/
mutual
def tfl : D → Bool
  | .non => true
  | .bl _ => true
  | .int _ => true
  | .str _ => true
  | .tup xs => tfls xs
  | .lst _ => false
  | .dk _ => false
  | .dt _ => false
  | .ob _ _ => false
  | .raw _ => false
def tfls : List D → Bool
  | [] => true
  | d :: ds => tfl d && tfls ds
end
section
variable {X : Cx} {pins : List (Addr × Obj)} {σ : L2.St} {G H : Hp} {s : Shared}
mutual
theorem dt_reads (I : Inv X pins σ H s) : ∀ {v : V} {d : D} {u : Value}, Dt X.K H v d → tfl d = true → RelV v u → Reads s.heap u (py d) []
  | _, _, _, .non, _, r => by cases r; rw [py]; exact .none
  | _, _, _, .bl b, _, r => by cases r; rw [py]; exact .bool b
  | _, _, _, .int i, _, r => by obtain ⟨t, rfl⟩ := r; rw [py]; exact .int i t
  | _, _, _, .str x, _, r => by obtain ⟨t, rfl⟩ := r; rw [py]; exact .str x t
  | _, _, _, .lst _ _, f, _ => by rw [tfl] at f; cases f
  | _, _, _, .tup h t, f, r => by
    rw [tfl] at f
    cases r
    obtain ⟨its, rv, ⟨o, ho, hc, n, hd⟩, _⟩ := I.tuple h.sq
    rw [py]
    exact Reads.tuple ho hc hd (dts_reads I t f rv)
  | _, _, _, .dk _ _ _, f, _ => by rw [tfl] at f; cases f
  | _, _, _, .dt _ _ _, f, _ => by rw [tfl] at f; cases f
  | _, _, _, .ob _ _ _, f, _ => by rw [tfl] at f; cases f
  | _, _, _, .raw _, f, _ => by rw [tfl] at f; cases f
theorem dts_reads (I : Inv X pins σ H s) : ∀ {vs : List V} {ds : List D} {us : List Value}, Dts X.K H vs ds → tfls ds = true → Vals vs us → ReadsAll s.heap us (pys ds) []
  | _, _, _, .nil, _, r => by cases r; rw [pys]; exact .nil
  | _, _, _, .cons h t, f, r => by
    rw [tfls, Bool.and_eq_true] at f
    cases r with
    | cons r1 r2 =>
      rw [pys]
      exact ReadsAll.cons (dt_reads I h f.1 r1) (dts_reads I t f.2 r2)
end
/-- what may be sorted -/
structure SortD (ds : List D) : Prop where
  tf : ∀ d ∈ ds, tfl d = true
  alike : AllAlike (ds.map py)
  able : Sortable (ds.map py)
  few : ds.length ≤ sizeLine
  flat : ∀ d ∈ ds, (py d).depth ≤ 8
abbrev Vd := V × D
abbrev encV : Vd → PyData := fun b => py b.2
abbrev relB : Value → Vd → Prop := fun u b => RelV b.1 u
/-- the sort by the data -/
def srtD (ds : List D) : List D := ds.mergeSort (dataLe false py)
theorem each_vals {vs : List V} {us : List Value} {ds : List D} (r : Vals vs us) (t : Dts X.K G vs ds) : EachIs relB us (vs.zip ds) ∧ (vs.zip ds).map (·.2) = ds ∧ ∀ b ∈ vs.zip ds, Dt X.K G b.1 b.2 := by
  induction vs generalizing us ds with
  | nil =>
    cases t
    cases r
    exact ⟨.nil, rfl, fun b hb => by cases hb⟩
  | cons v vs ih =>
    cases t with
    | @cons _ d _ ds h t =>
      cases r with
      | cons r1 r2 =>
        obtain ⟨a, b, c⟩ := ih r2 t
        exact ⟨.cons r1 a, congrArg (d :: ·) b, fun x hx => (List.mem_cons.mp hx).elim (fun e => e ▸ h) (c x)⟩
theorem each_reads (I : Inv X pins σ H s) {h' : Heap} (k : ∀ b o, s.heap.get? b = some o → h'.get? b = some o) : ∀ {us : List Value} {bs : List Vd}, EachIs relB us bs → (∀ b ∈ bs, Dt X.K H b.1 b.2 ∧ tfl b.2 = true) → EachIs (fun v b => Reads h' v (encV b) []) us bs
  | _, _, .nil, _ => .nil
  | _, _, .cons r t, hd => .cons (PyProof.Rows.Reads.keeps k (dt_reads I (hd _ List.mem_cons_self).1 (hd _ List.mem_cons_self).2 r)) (each_reads I k t fun b hb => hd b (List.mem_cons_of_mem _ hb))
theorem dts_of {bs : List Vd} (h : ∀ b ∈ bs, Dt X.K G b.1 b.2) : Dts X.K G (bs.map (·.1)) (bs.map (·.2)) := by
  induction bs with
  | nil => exact .nil
  | cons b bs ih => exact .cons (h b List.mem_cons_self) (ih fun c hc => h c (List.mem_cons_of_mem _ hc))
theorem vals_of {us : List Value} {bs : List Vd} (h : EachIs relB us bs) : Vals (bs.map (·.1)) us := by
  induction h with
  | nil => exact .nil
  | cons r _ ih => exact .cons r ih
/-- sorted(x) over the layer -/
theorem sort_ev {Q : VK} {x : Addr} {Src : List D → Prop} (I : Inv X pins σ H s) (hu : X.A.units + 64 < cLine) (col : Gath X.prog X.w X.A X.xe s x relB encV (fun bs => (∀ b ∈ bs, Dt X.K G b.1 b.2) ∧ Src (bs.map (·.2)))) (fit : ∀ ds, Src ds → SortD ds)
    (q : ∀ ds ws p, Src ds → H p = none → Dts X.K G ws (srtD ds) → Q (.ref p) (upd H p (.lst ws))) : wpAny (model X.prog X.w) X.A (call (.builtin "sorted") [.ref x]) (EP X pins σ Q) X.xe s := by
  refine sorted_any col (fun bs ⟨_, h2⟩ => ?_) fun s1 s2 p bs out c ⟨h1, h2⟩ e kp1 eg1 eo1 kp sz hp eg eo => ?_
  · have F := fit _ h2
    have em : bs.map encV = (bs.map (·.2)).map py := by rw [List.map_map]; rfl
    refine ⟨em ▸ F.alike, em ▸ F.able, by have := F.few; rwa [List.length_map] at this, fun b hb => ?_⟩
    have := F.flat b.2 (List.mem_map.mpr ⟨b, hb, rfl⟩)
    show X.A.units + 2 + (py b.2).depth < cLine
    omega
  · have mem : ∀ b ∈ bs.mergeSort (dataLe false encV), Dt X.K G b.1 b.2 := fun b hb => h1 b ((List.mergeSort_perm _ _).mem_iff.mp hb)
    have ed : (bs.mergeSort (dataLe false encV)).map (·.2) = srtD (bs.map (·.2)) := sort_maps (fun b : Vd => b.2) fun _ _ _ _ => rfl
    have hd := dts_of mem
    rw [ed] at hd
    have F := fit _ h2
    have hlen : ((bs.mergeSort (dataLe false encV)).map (·.1)).length ≤ sizeLine := by
      rw [List.length_map, (List.mergeSort_perm _ _).length_eq]
      have := F.few
      rwa [List.length_map] at this
    obtain ⟨f1, f2, f3, f4, f5⟩ := s1
    obtain ⟨g1, g2, g3, g4, g5⟩ := s2
    obtain rfl : f5 = s.os := eo1
    obtain rfl : g5 = s.os := eo
    have I1 : Inv X pins σ H (⟨f1, f2, f3, f4, s.os⟩ : Shared) := I.call (h' := f1) (g' := f2) (d' := f3) (t' := f4) (ch := []) (Un.kept kp1) (I.hok.kept kp1) (by rw [show f2 = s.gens from eg1]; exact I.bare) (fun _ z => nomatch z)
    have hn : H p = none := I1.hok.fresh sz
    have J : Inv X pins σ (upd H p (.lst ((bs.mergeSort (dataLe false encV)).map (·.1)))) (⟨g1, g2, g3, g4, s.os⟩ : Shared) :=
      Inv.call (s := ⟨f1, f2, f3, f4, s.os⟩) (h' := g1) (g' := g2) (d' := g3) (t' := g4) (ch := []) I1 (Un.laid kp sz hn) (I1.hok.laid kp sz ⟨hlen, out, c, vals_of e, hp⟩) (by rw [show g2 = f2 from eg]; exact I1.bare) (fun _ z => nomatch z)
    exact ⟨.ref p, _, J, rfl, q _ _ p h2 hn hd⟩
/-- .. of a list or a tuple -/
theorem gath_seq {x : Addr} {vs : List V} {ds : List D} (I : Inv X pins σ H s) (ss : Same G H) (h : SqL X.K H x vs ∨ SqT X.K H x vs) (t : Dts X.K G vs ds) (F : SortD ds) : Gath X.prog X.w X.A X.xe s x relB encV (fun bs => (∀ b ∈ bs, Dt X.K G b.1 b.2) ∧ Is ds (bs.map (·.2))) := by
  intro Qc q
  have fin : ∀ (its : List Value), Vals vs its → ∀ h', (∀ b o', s.heap.get? b = some o' → h'.get? b = some o') → Qc its { s with heap := h' } := fun its r h' k => by
    obtain ⟨a, b, c⟩ := each_vals r t
    exact q _ its (vs.zip ds) k rfl rfl ⟨c, b⟩ a (each_reads I k a fun z hz => ⟨(c z hz).mono ss, F.tf _ (b ▸ List.mem_map.mpr ⟨z, hz, rfl⟩)⟩)
  rcases h with h | h
  · obtain ⟨its, r, pl, hz⟩ := I.list h
    obtain ⟨o, ho, hc, n, hd⟩ := pl.isList
    refine wpAny_collect_seq x (.inl rfl) ho hc hd (fun h' k => ?_) (by rw [List.size_toArray, ← r.length]; exact hz)
    exact fin its r h' k
  · obtain ⟨its, r, ⟨o, ho, hc, n, hd⟩, hz⟩ := I.tuple h
    refine wpAny_collect_seq x (.inr rfl) ho hc hd (fun h' k => ?_) (by rw [List.size_toArray, ← r.length]; exact hz)
    exact fin its r h' k
end
end SO
set_option maxHeartbeats 1000000
namespace SO
open PySem PySem.Spec PyProof.Rows L2 PySem.W DL
section
variable {X : Cx} {pins : List (Addr × Obj)} {σ : L2.St} {G H : Hp} {s : Shared}
theorem items_get {Pv : Nat → Value → Prop} {acc : Array Value} {n : Nat} (h : ItemsOf Pv acc n) : acc.toList.length = n ∧ ∀ (i : Nat) (v : Value), acc.toList[i]? = some v → Pv i v :=
  ⟨by rw [Array.length_toList, h.1], fun i v e => h.2 i v (by rw [← Array.getElem?_toList]; exact e)⟩
theorem each_of {us : List Value} {bs : List Vd} (hl : us.length = bs.length) (h : ∀ (i : Nat) (u : Value) (b : Vd), us[i]? = some u → bs[i]? = some b → relB u b) : EachIs relB us bs := by
  induction us generalizing bs with
  | nil => cases bs with
    | nil => exact .nil
    | cons _ _ => cases hl
  | cons u us ih => cases bs with
    | nil => cases hl
    | cons b bs => exact .cons (h 0 u b rfl rfl) (ih (by simpa using hl) fun i v c e1 e2 => h (i + 1) v c (by simpa using e1) (by simpa using e2))
def kP (p : Key × V) : Vd := (kV p.1, kD p.1)
/-- the keys of a dict: ints and texts -/
theorem gath_dk {x : Addr} {kvs : List (Key × V)} (I : Inv X pins σ H s) (hc : X.calm = true) (h : Rd H x (.dK kvs)) (F : SortD (kvs.map fun p => kD p.1)) :
    Gath X.prog X.w X.A X.xe s x relB encV (fun bs => (∀ b ∈ bs, Dt X.K G b.1 b.2) ∧ Is (kvs.map fun p => kD p.1) (bs.map (·.2))) := by
  intro Qc q
  obtain ⟨z, lo, vs, rel, dd⟩ := dk_rd I.hok h
  obtain ⟨ep, hat⟩ := dd.dictAt
  have hl : vs.length = kvs.length := rel.length.symm
  refine kdu_collect (A := X.A.in1) (kdl_dict (knd := mixKind X.prog X.w) (kvs := vs) (ep := ep) lo) (I.ok.hd hc) hat (by rw [hl]; exact z) fun h' tk acc hk hacc => ?_
  obtain ⟨a1, a2⟩ := items_get hacc
  have e : EachIs relB acc.toList (kvs.map kP) := each_of (by rw [a1, hl, List.length_map]) fun i u b e1 e2 => by
    obtain ⟨k, y, h1, h2⟩ := a2 i u e1
    rw [List.getElem?_map] at e2
    cases q : kvs[i]? with
    | none => rw [q] at e2; cases e2
    | some p =>
      rw [q] at e2
      cases e2
      have hk : k = p.1 := by
        have e3 := congrArg (fun l => l[i]?) rel.keys
        simp only [List.getElem?_map, q, h1, Option.map_some, Option.some.injEq] at e3
        exact e3.symm
      subst hk
      exact relV_key h2
  have hdt : ∀ G0 : Hp, ∀ b ∈ kvs.map kP, Dt X.K G0 b.1 b.2 := fun G0 b hb => by
    obtain ⟨p, _, rfl⟩ := List.mem_map.mp hb
    exact dt_kV _
  have em : (kvs.map kP).map (·.2) = kvs.map fun p => kD p.1 := by rw [List.map_map]; rfl
  refine q _ acc.toList (kvs.map kP) hk rfl rfl ⟨hdt G, em⟩ e (each_reads I hk e fun b hb => ⟨hdt H b hb, F.tf _ ?_⟩)
  rw [← em]
  exact List.mem_map.mpr ⟨b, hb, rfl⟩
/-- a key that is a tuple, as data -/
def kT (k : List Key) : D := .tup (k.map kD)
theorem dt_kT {K : PySem.W.Frag} {k : List Key} {q : Addr} (h : G q = some (.tup (k.map kV))) : Dt K G (.ref q) (kT k) := by
  refine .tup (.inl h) ?_
  clear h
  induction k with
  | nil => exact .nil
  | cons a k ih => exact .cons (dt_kV a) ih
def tP (b : List Key × Addr × Value) : Vd := (V.ref b.2.1, kT b.1)
/-- .. tuples; the keys' tuples are known -/
theorem gath_dT {x : Addr} {kvs : List (List Key × V)} (I : Inv X pins σ H s) (hG : ∀ a xs, H a = some (.tup xs) → G a = some (.tup xs)) (hc : X.calm = true) (h : Rd H x (.dT kvs)) (F : SortD (kvs.map fun p => kT p.1)) :
    Gath X.prog X.w X.A X.xe s x relB encV (fun bs => (∀ b ∈ bs, Dt X.K G b.1 b.2) ∧ Is (kvs.map fun p => kT p.1) (bs.map (·.2))) := by
  intro Qc q
  obtain ⟨z, lo, xs, pr, o, es, ep, ho, hx, hd, he, nd⟩ := (show ObjOk X.prog X.w H s.heap x (.dT kvs) from h.ok I.hok)
  have l1 : es.size = xs.length := size_of_entries he
  have l2 : kvs.length = xs.length := Paired.length pr
  refine kdu_collect (A := X.A.in1) (src_raw (P := X.prog) (w := X.w) lo hx hd) (I.ok.hd hc) ho (by rw [l1, ← l2]; exact z) fun h' tk acc hk hacc => ?_
  obtain ⟨a1, a2⟩ := items_get hacc
  have key : ∀ (i : Nat) (p : List Key × V), kvs[i]? = some p → ∃ b, xs[i]? = some b ∧ b.1 = p.1 ∧ H b.2.1 = some (.tup (p.1.map kV)) := fun i p e => by
    obtain ⟨b, hb, e1, e2, _⟩ := paired_get pr e
    exact ⟨b, hb, e1.symm, e2⟩
  have e : EachIs relB acc.toList (xs.map tP) := each_of (by rw [a1, l1, List.length_map]) fun i u b e1 e2 => by
    obtain ⟨en, h1, rfl⟩ := a2 i u e1
    rw [List.getElem?_map] at e2
    cases q : xs[i]? with
    | none => rw [q] at e2; cases e2
    | some y =>
      rw [q] at e2
      cases e2
      have q2 := entry_at he i
      rw [q, h1] at q2
      have q3 := Option.some.inj q2
      show en.key = Value.ref y.2.1
      rw [q3]
      rfl
  have hdt : ∀ G0 : Hp, (∀ a xs, H a = some (.tup xs) → G0 a = some (.tup xs)) → ∀ b ∈ xs.map tP, Dt X.K G0 b.1 b.2 := fun G0 h0 b hb => by
    obtain ⟨y, hy, rfl⟩ := List.mem_map.mp hb
    obtain ⟨i, hi⟩ := List.getElem?_of_mem hy
    have hi2 : i < kvs.length := by rw [l2]; exact (List.getElem?_eq_some_iff.mp hi).1
    obtain ⟨b, hb, e1, e2⟩ := key i kvs[i] (List.getElem?_eq_getElem hi2)
    rw [hi] at hb
    cases hb
    show Dt X.K G0 (.ref y.2.1) (kT y.1)
    rw [e1]
    exact dt_kT (h0 _ _ e2)
  have em : (xs.map tP).map (·.2) = kvs.map fun p => kT p.1 := by
    rw [List.map_map]
    refine List.ext_getElem? fun i => ?_
    rw [List.getElem?_map, List.getElem?_map]
    cases q : kvs[i]? with
    | none =>
      have : xs[i]? = none := List.getElem?_eq_none (by rw [← l2]; exact List.getElem?_eq_none_iff.mp q)
      rw [this]; rfl
    | some p =>
      obtain ⟨b, hb, e1, _⟩ := key i p q
      rw [hb]
      show some (kT b.1) = some (kT p.1)
      rw [e1]
  refine q _ acc.toList (xs.map tP) hk rfl rfl ⟨hdt G hG, em⟩ e (each_reads I hk e fun b hb => ⟨hdt H (fun _ _ z => z) b hb, F.tf _ ?_⟩)
  rw [← em]
  exact List.mem_map.mpr ⟨b, hb, rfl⟩
theorem cr_sortSeq (hu : X.A.units + 64 < cLine) : CallR X (.builtin "sorted") (fun xs H Q => ∃ (p : Addr) (vs : List V) (ds : List D) (G : Hp), xs = [.ref p] ∧ (SqL X.K H p vs ∨ SqT X.K H p vs) ∧ Same G H ∧ Dts X.K G vs ds ∧ SortD ds ∧ ∀ ws p', H p' = none → Dts X.K G ws (srtD ds) → Q (.ref p') (upd H p' (.lst ws))) := by
  intro pins s σ H xs us Q I r ⟨p, vs, ds, G, ex, h, ss, t, F, q⟩
  subst ex
  rw [Vals.ref1 r]
  exact sort_ev I hu (gath_seq I ss h t F) (fun es e => e ▸ F) fun es ws p' e hp hw => q ws p' hp (e ▸ hw)
theorem cr_sortDk (hc : X.calm = true) (hu : X.A.units + 64 < cLine) : CallR X (.builtin "sorted") (fun xs H Q => ∃ (p : Addr) (kvs : List (Key × V)) (G : Hp), xs = [.ref p] ∧ Rd H p (.dK kvs) ∧ SortD (kvs.map fun p => kD p.1) ∧ ∀ ws p', H p' = none → Dts X.K G ws (srtD (kvs.map fun p => kD p.1)) → Q (.ref p') (upd H p' (.lst ws))) := by
  intro pins s σ H xs us Q I r ⟨p, kvs, G, ex, h, F, q⟩
  subst ex
  rw [Vals.ref1 r]
  exact sort_ev (G := G) I hu (gath_dk I hc h F) (fun es e => e ▸ F) fun es ws p' e hp hw => q ws p' hp (e ▸ hw)
theorem cr_sortDT (hc : X.calm = true) (hu : X.A.units + 64 < cLine) : CallR X (.builtin "sorted") (fun xs H Q => ∃ (p : Addr) (kvs : List (List Key × V)) (G : Hp), xs = [.ref p] ∧ Rd H p (.dT kvs) ∧ (∀ a xs, H a = some (.tup xs) → G a = some (.tup xs)) ∧ SortD (kvs.map fun p => kT p.1) ∧ ∀ ws p', H p' = none → Dts X.K G ws (srtD (kvs.map fun p => kT p.1)) → Q (.ref p') (upd H p' (.lst ws))) := by
  intro pins s σ H xs us Q I r ⟨p, kvs, G, ex, h, hG, F, q⟩
  subst ex
  rw [Vals.ref1 r]
  exact sort_ev (G := G) I hu (gath_dT I hG hc h F) (fun es e => e ▸ F) fun es ws p' e hp hw => q ws p' hp (e ▸ hw)
end
end SO
set_option maxHeartbeats 1000000
namespace DL
open PySem PySem.Spec PyProof.Rows L2 SO
/-! ### looking a key up -/
section
variable {κ : Type} [DecidableEq κ] {K : PySem.W.Frag} {G : Hp}
def lookD (kvs : List (κ × D)) (k : κ) : Option D := (kvs.find? fun p => decide (p.1 = k)).map (·.2)
theorem look_both {k : κ} : ∀ {kvs : List (κ × V)} {ds : List (κ × D)}, kvs.map (·.1) = ds.map (·.1) → Dts K G (kvs.map (·.2)) (ds.map (·.2)) →
    (lookD ds k = none ∧ valV kvs k = none) ∨ ∃ d v, lookD ds k = some d ∧ valV kvs k = some v ∧ Dt K G v d
  | [], [], _, _ => .inl ⟨rfl, rfl⟩
  | [], _ :: _, h, _ => by cases h
  | _ :: _, [], h, _ => by cases h
  | (a, v) :: kvs, (b, d) :: ds, hk, t => by
    rw [List.map_cons, List.map_cons] at hk
    injection hk with e1 e2
    have e1 : a = b := e1
    subst e1
    cases t with
    | cons t1 t2 =>
      by_cases h : a = k
      · subst h
        exact .inr ⟨d, v, by simp [lookD], by simp [valV], t1⟩
      · rcases look_both (k := k) e2 t2 with ⟨h1, h2⟩ | ⟨d', v', h1, h2, h3⟩
        · exact .inl ⟨by simpa [lookD, List.find?_cons, h] using h1, by simpa [valV, List.find?_cons, h] using h2⟩
        · exact .inr ⟨d', v', by simpa [lookD, List.find?_cons, h] using h1, by simpa [valV, List.find?_cons, h] using h2, h3⟩
theorem look_some {k : κ} {kvs : List (κ × V)} {ds : List (κ × D)} {d : D} (hk : kvs.map (·.1) = ds.map (·.1)) (t : Dts K G (kvs.map (·.2)) (ds.map (·.2))) (h : lookD ds k = some d) : ∃ v, valV kvs k = some v ∧ Dt K G v d := by
  rcases look_both (k := k) hk t with ⟨h1, _⟩ | ⟨d', v', h1, h2, h3⟩
  · rw [h] at h1; cases h1
  · rw [h] at h1; cases h1; exact ⟨v', h2, h3⟩
theorem look_none {k : κ} {kvs : List (κ × V)} {ds : List (κ × D)} (hk : kvs.map (·.1) = ds.map (·.1)) (t : Dts K G (kvs.map (·.2)) (ds.map (·.2))) (h : lookD ds k = none) : valV kvs k = none := by
  rcases look_both (k := k) hk t with ⟨_, h2⟩ | ⟨d', v', h1, _, _⟩
  · exact h2
  · rw [h] at h1; cases h1
theorem look_map {α : Type} {kf : α → κ} {vf : α → D} (inj : ∀ x y, kf x = kf y → x = y) {x : α} : ∀ {xs : List α}, x ∈ xs → lookD (xs.map fun z => (kf z, vf z)) (kf x) = some (vf x)
  | [], h => by cases h
  | y :: ys, h => by
    by_cases e : kf y = kf x
    · have := inj _ _ e
      subst this
      simp [lookD]
    · have hx : x ∈ ys := (List.mem_cons.mp h).resolve_left fun z => e (by rw [z])
      have ih := look_map (vf := vf) inj hx
      simpa [lookD, List.find?_cons, e] using ih
theorem look_out {α : Type} {kf : α → κ} {vf : α → D} {k : κ} : ∀ {xs : List α}, (∀ x ∈ xs, kf x ≠ k) → lookD (xs.map fun z => (kf z, vf z)) k = none
  | [], _ => rfl
  | y :: ys, h => by
    have e := h y List.mem_cons_self
    have ih := look_out (vf := vf) fun x hx => h x (List.mem_cons_of_mem _ hx)
    simpa [lookD, List.find?_cons, e] using ih
end
theorem dts_keys {K : PySem.W.Frag} {G : Hp} : ∀ gs : List (Key × V), Dts K G (gs.map fun kv => kV kv.1) (gs.map fun kv => kD kv.1)
  | [] => .nil
  | x :: xs => .cons (dt_kV _) (dts_keys xs)
section
variable {X : Cx} {M : Mu} {ds : DS} {e a b c : Expr} {es : List Expr} {R Ra Rb : D → Prop} {pos p : Pos} {n : Str}
/-! ### sorted -/
theorem dx_sorted (hu : X.A.units + 64 < cLine) (ha : DX X M a ds fun x => ∃ xs, (x = .lst xs ∨ x = .tup xs) ∧ SortD xs ∧ R (.lst (srtD xs))) (hm : X.mg n = none) (hg : Gl X n := by rfl) (hv : bootBuiltins n = some (.builtin "sorted") := by rfl)
    (hn : n ≠ "__name__" := by decide) (hdb : (n == ("__debug__" : Str)) = false := by decide) (hs : starEach [a] X.env = (false, eval a X.env) :: starEach [] X.env := by rfl) (hpl : (backTo pos (starEach [] X.env)).any (·.1) = false := by rfl) : DX X M (.Call (.Name n p) [a] [] pos) ds R :=
  dx_callB (Rl := fun l => ∃ x xs, l = [x] ∧ (x = .lst xs ∨ x = .tup xs) ∧ SortD xs ∧ R (.lst (srtD xs))) (cr_sortSeq hu) (da_consR ha da_nil (fun x l h1 h2 => by
    obtain ⟨xs, h⟩ := h1
    exact ⟨x, xs, by rw [show l = [] from h2], h⟩) hs) (fun l ⟨x, xs, e, hx, F, r⟩ G H vs Q ok t k => by
    subst e
    cases t with
    | cons t1 t2 =>
      cases t2
      have fin : ∀ ws p', H p' = none → Dts X.K G ws (srtD xs) → Q (.ref p') (upd H p' (.lst ws)) := fun ws p' hp hw => by
        obtain ⟨G', g, t⟩ := new_lst ok hp hw
        exact k _ _ _ _ r g t
      rcases hx with rfl | rfl
      · cases t1 with
        | lst h1 s1 => exact ⟨_, _, xs, G, rfl, .inl (SqL.of (ok.sub _ _ h1)), ok.sub, s1, F, fin⟩
      · cases t1 with
        | tup h1 s1 => exact ⟨_, _, xs, G, rfl, .inr (same_t ok.sub h1.sq), ok.sub, s1, F, fin⟩) hg hm hv hn hdb hs hpl
theorem d_sorted {x : D} {xs : List D} (hu : X.A.units + 64 < cLine) (ha : DV X M a ds x) (hx : x = .lst xs ∨ x = .tup xs) (F : SortD xs) (hm : X.mg n = none) (hg : Gl X n := by rfl) (hv : bootBuiltins n = some (.builtin "sorted") := by rfl)
    (hn : n ≠ "__name__" := by decide) (hdb : (n == ("__debug__" : Str)) = false := by decide) (hs : starEach [a] X.env = (false, eval a X.env) :: starEach [] X.env := by rfl) (hpl : (backTo pos (starEach [] X.env)).any (·.1) = false := by rfl) : DV X M (.Call (.Name n p) [a] [] pos) ds (.lst (srtD xs)) :=
  dx_sorted hu (DX.weak ha fun y r => ⟨xs, by rw [show y = x from r]; exact hx, F, rfl⟩) hm hg hv hn hdb hs hpl
theorem d_sortedDk {kvs : List (Key × D)} (hc : X.calm = true) (hu : X.A.units + 64 < cLine) (ha : DV X M a ds (.dk kvs)) (F : SortD (kvs.map fun p => kD p.1)) (hm : X.mg n = none) (hg : Gl X n := by rfl) (hv : bootBuiltins n = some (.builtin "sorted") := by rfl)
    (hn : n ≠ "__name__" := by decide) (hdb : (n == ("__debug__" : Str)) = false := by decide) (hs : starEach [a] X.env = (false, eval a X.env) :: starEach [] X.env := by rfl) (hpl : (backTo pos (starEach [] X.env)).any (·.1) = false := by rfl) : DV X M (.Call (.Name n p) [a] [] pos) ds (.lst (srtD (kvs.map fun p => kD p.1))) :=
  dx_callB (Rl := Is [.dk kvs]) (cr_sortDk hc hu) (da_1 ha hs) (fun l e G H vs Q ok t k => by
    rw [show l = [.dk kvs] from e] at t
    cases t with
    | cons t1 t2 =>
      cases t2
      cases t1 with
      | dk h1 hk s1 =>
        rename_i a' gs
        have ek : (gs.map fun p => kD p.1) = kvs.map fun p => kD p.1 := by
          have := congrArg (List.map kD) hk
          rw [List.map_map, List.map_map] at this
          exact this
        exact ⟨_, gs, G, rfl, same_rd ok.sub h1, ek ▸ F, fun ws p' hp hw => by
          obtain ⟨G', g, t⟩ := new_lst ok hp hw
          exact k _ _ _ _ (by rw [ek]; rfl) g t⟩) hg hm hv hn hdb hs hpl
theorem d_sortedDt {kvs : List (List Key × D)} (hc : X.calm = true) (hu : X.A.units + 64 < cLine) (ha : DV X M a ds (.dt kvs)) (F : SortD (kvs.map fun p => kT p.1)) (hm : X.mg n = none) (hg : Gl X n := by rfl) (hv : bootBuiltins n = some (.builtin "sorted") := by rfl)
    (hn : n ≠ "__name__" := by decide) (hdb : (n == ("__debug__" : Str)) = false := by decide) (hs : starEach [a] X.env = (false, eval a X.env) :: starEach [] X.env := by rfl) (hpl : (backTo pos (starEach [] X.env)).any (·.1) = false := by rfl) : DV X M (.Call (.Name n p) [a] [] pos) ds (.lst (srtD (kvs.map fun p => kT p.1))) :=
  dx_callB (Rl := Is [.dt kvs]) (cr_sortDT hc hu) (da_1 ha hs) (fun l e G H vs Q ok t k => by
    rw [show l = [.dt kvs] from e] at t
    cases t with
    | cons t1 t2 =>
      cases t2
      cases t1 with
      | dt h1 hk s1 =>
        rename_i a' gs
        have ek : (gs.map fun p => kT p.1) = kvs.map fun p => kT p.1 := by
          have := congrArg (List.map kT) hk
          rw [List.map_map, List.map_map] at this
          exact this
        have g0 := Gr.tups ok
        exact ⟨_, gs, knowT G H, rfl, same_rd ok.sub h1, fun a xs e => knowT_tup ok.sub e, ek ▸ F, fun ws p' hp hw => by
          obtain ⟨G', g, t⟩ := new_lst g0.ok hp hw
          exact k _ _ _ _ (by rw [ek]; rfl) (g0.trans ok g) t⟩) hg hm hv hn hdb hs hpl
/-! ### dicts -/
theorem d_dictOf {kvs : List (Key × D)} (ha : DV X M a ds (.dk kvs)) (hm : X.mg n = none) (hg : Gl X n := by rfl) (hv : bootBuiltins n = some (.type "dict") := by rfl)
    (hn : n ≠ "__name__" := by decide) (hdb : (n == ("__debug__" : Str)) = false := by decide) (hs : starEach [a] X.env = (false, eval a X.env) :: starEach [] X.env := by rfl) (hpl : (backTo pos (starEach [] X.env)).any (·.1) = false := by rfl) : DV X M (.Call (.Name n p) [a] [] pos) ds (.dk kvs) :=
  dx_callTy (Rl := Is [.dk kvs]) call_dictD (da_1 ha hs) (fun l e G H vs Q ok t k => by
    rw [show l = [.dk kvs] from e] at t
    cases t with
    | cons t1 t2 =>
      cases t2
      cases t1 with
      | dk h1 hk s1 =>
        rename_i a' gs
        refine ⟨_, _, rfl, same_rd ok.sub h1, fun q hq => ?_⟩
        have g := Gr.new (o := .dK gs) ok hq (fun ps z => by cases z)
        exact k _ _ _ _ rfl g (.dk (.inl upd_same) hk (s1.mono g.ex))) hg hm hv hn hdb hs hpl
/-- list(d) -/
theorem d_listDk {kvs : List (Key × D)} (hc : X.calm = true) (ha : DV X M a ds (.dk kvs)) (hm : X.mg n = none) (hg : Gl X n := by rfl) (hv : bootBuiltins n = some (.type "list") := by rfl)
    (hn : n ≠ "__name__" := by decide) (hdb : (n == ("__debug__" : Str)) = false := by decide) (hs : starEach [a] X.env = (false, eval a X.env) :: starEach [] X.env := by rfl) (hpl : (backTo pos (starEach [] X.env)).any (·.1) = false := by rfl) : DV X M (.Call (.Name n p) [a] [] pos) ds (.lst (kvs.map fun p => kD p.1)) :=
  dx_callTy (Rl := Is [.dk kvs]) (call_listD hc) (da_1 ha hs) (fun l e G H vs Q ok t k => by
    rw [show l = [.dk kvs] from e] at t
    cases t with
    | cons t1 t2 =>
      cases t2
      cases t1 with
      | dk h1 hk s1 =>
        rename_i a' gs
        have ek : (gs.map fun p => kD p.1) = kvs.map fun p => kD p.1 := by
          have := congrArg (List.map kD) hk
          rw [List.map_map, List.map_map] at this
          exact this
        have td : Dts X.K G (gs.map fun kv => kV kv.1) (gs.map fun kv => kD kv.1) := dts_keys gs
        refine ⟨_, _, rfl, same_rd ok.sub h1, fun q hq => ?_⟩
        obtain ⟨G', g, t⟩ := new_lst ok hq td
        exact k _ _ _ _ (by rw [ek]; rfl) g t) hg hm hv hn hdb hs hpl
/-- d[k], k a text -/
theorem dx_getK {kvs : List (Key × D)} (hu : X.A.units + 1 < cLine) (ha : DV X M a ds (.dk kvs)) (hb : DX X M b ds fun y => ∃ k d, y = kD k ∧ lookD kvs k = some d ∧ R d) (hs : NoSl b := by exact fun _ _ => rfl) : DX X M (.Subscript a b pos) ds R :=
  PE.imp (pe_dget hu ha hb hs) fun σ H Q ⟨G, s, ok, q⟩ => ⟨G, s, ok, fun x u G1 H1 r1 g1 t1 => ⟨G1, s.mono g1.ex, g1.ok, fun y w G2 H2 ⟨k, d, ey, hl, r2⟩ g2 t2 => by
    rw [show x = _ from r1] at t1
    subst ey
    have ew : w = kV k := by
      cases k <;> cases t2 <;> rfl
    subst ew
    cases t1 with
    | dk h1 hk s1 =>
      obtain ⟨v, hv, tv⟩ := look_some hk s1 hl
      exact ⟨_, v, rfl, .inl ⟨_, k, same_rd g2.ok.sub (same_rd g2.ex h1), rfl, hv.symm⟩, q d v G2 H2 r2 (g1.trans ok g2) (tv.mono g2.ex)⟩⟩⟩
theorem d_getK {kvs : List (Key × D)} {z : Str} {d : D} (hu : X.A.units + 1 < cLine) (ha : DV X M a ds (.dk kvs)) (hb : DV X M b ds (.str z)) (hl : lookD kvs (.inr z) = some d) (hs : NoSl b := by exact fun _ _ => rfl) : DV X M (.Subscript a b pos) ds d :=
  dx_getK hu ha (DX.weak hb fun y r => ⟨.inr z, d, r, hl, rfl⟩) hs
/-- d[t], t a tuple of texts -/
theorem d_getT {kvs : List (List Key × D)} {k : List Key} {d : D} (hu : X.A.units + 1 < cLine) (ha : DV X M a ds (.dt kvs)) (hb : DV X M b ds (kT k)) (hk0 : k ≠ []) (hl : lookD kvs k = some d) (hs : NoSl b := by exact fun _ _ => rfl) : DV X M (.Subscript a b pos) ds d :=
  PE.imp (pe_dget hu ha hb hs) fun σ H Q ⟨G, s, ok, q⟩ => ⟨G, s, ok, fun x u G1 H1 r1 g1 t1 => ⟨G1, s.mono g1.ex, g1.ok, fun y w G2 H2 r2 g2 t2 => by
    rw [show x = _ from r1] at t1
    rw [show y = _ from r2] at t2
    have key : ∀ {k : List Key} {vs : List V}, Dts X.K G2 vs (k.map kD) → vs = k.map kV := fun {k} => by
      induction k with
      | nil => intro vs t; cases t; rfl
      | cons x xs ih =>
        intro vs t
        cases t with
        | cons t1 t2 =>
          rw [ih t2, List.map_cons]
          congr 1
          cases x <;> cases t1 <;> rfl
    cases t2 with
    | tup h2 s2 =>
      rename_i b' vs
      have e2 := key s2
      rcases h2 with h2 | ⟨h2, _⟩
      · rw [e2] at h2
        cases t1 with
        | dt h1 hk s1 =>
          obtain ⟨v, hv, tv⟩ := look_some hk s1 hl
          exact ⟨_, v, rfl, .inr ⟨_, k, _, same_rd g2.ok.sub (same_rd g2.ex h1), rfl, g2.ok.sub _ _ h2, hv.symm⟩, q d v G2 H2 rfl (g1.trans ok g2) (tv.mono g2.ex)⟩
      · rw [e2] at h2
        exact absurd (List.map_eq_nil_iff.mp h2) hk0⟩⟩
end
end DL
set_option maxHeartbeats 1000000
namespace DL
open PySem PySem.Spec PyProof.Rows L2 SO
/-! ### properties -/
structure PrAt (K : PySem.W.Frag) (C : Addr) (m qual : Str) (st : Stmt) : Prop where
  ex : ∃ p f fd, FunD K m qual (defArgs st) (defBody st) (defScope st) [] [] f fd ∧ PropOf K C m p f
structure PrT (P : Program) (w : World) (K : PySem.W.Frag) (mg : Str → Option Value) (base : Heap) (C : Addr) (m : Str) (k : Nat) (Pre : Mu → List D → Prop) (Rt : List D → D → Prop) : Prop where
  ex : ∃ p f fd ps, FnOk P w K mg base CX0 k f fd ps (spD K Pre Rt) ∧ PropOf K C m p f ∧ Binds K fd ps []
theorem PrT.mono {P : Program} {w : World} {K : PySem.W.Frag} {mg : Str → Option Value} {base : Heap} {C : Addr} {m : Str} {j k : Nat} {Pre : Mu → List D → Prop} {Rt : List D → D → Prop} (F : PrT P w K mg base C m j Pre Rt) (h : j ≤ k) : PrT P w K mg base C m k Pre Rt := let ⟨p, f, fd, ps, a, b, d⟩ := F.ex; ⟨p, f, fd, ps, a.mono h, b, d⟩
theorem pr_def {P : Program} {w : World} {K : PySem.W.Frag} {mg : Str → Option Value} {base : Heap} {k : Nat} {N ps : List Str} {C : Addr} {m qual : Str} {Pre : Mu → List D → Prop} {Rt : List D → D → Prop} {st : Stmt} (F : PrAt K C m qual st) (S : FnScope N ps (defScope st))
    (hbd : ∀ (kV doc pm : Value) (an : Option Addr) (cdv ct : Value) (us : List Value), us.length = ps.length → bindArgs (PySem.W.fnOf m qual (defArgs st) (defBody st) (defScope st) .none kV doc pm an cdv ct) ⟨us, []⟩ = pure (ps.zip us)) (hl : ∀ M l, Pre M l → l.length = ps.length)
    (hb : ∀ (f : Addr) (cdv : Value) (A : Around) (outer : List Env) (s : Shared) (H : Hp) (E : XK) (M : Mu) (l : List D), Room k (A.deeper (envOfC qual (defScope st) s.heap.objs.size f cdv)) → Pre M l →
      DPs (cxOf CX0 P w K mg base N qual (defScope st) f cdv A outer s H E).nox M (defBody st) (slots N l) (fun _ => Rt l .non) (Rt l)) : PrT P w K mg base C m (k + 1) Pre Rt := by
  obtain ⟨p, f, fd, F, hm⟩ := F.ex
  exact ⟨p, f, fd, ps, ok_def F S hl (hb f), hm, F.bindsN hbd⟩
section
variable {X : Cx} {M : Mu} {ds : DS} {e o tg iter elt : Expr} {es : List Expr} {R Ra : D → Prop} {m : Str} {k : Nat} {pos : Pos} {Pre : Mu → List D → Prop} {Rt : List D → D → Prop}
theorem d_prop {C : Addr} {fs : List (Str × D)} {d : D} (F : PrT X.prog X.w X.K X.mg X.base C m k Pre Rt) (hr : Room (k + 1) X.A) (he : DV X M o ds (.ob C fs)) (c : Cls X.K C) (h : Pre mu0 [.ob C fs]) (h2 : ∀ y, Rt [.ob C fs] y → y = d) (hb : attributeBase o m X.env (eval o X.env) = eval o X.env := by rfl) : DV X M (.Attribute o m pos) ds d := by
  obtain ⟨p, f, fd, ps, F, hm, hbd⟩ := F.ex
  refine PE.imp (pe_prop he c hm F hr hbd .nil pass0 hb) fun σ H Q ⟨G, s, ok, q⟩ => ⟨G, s, ok, fun y v G1 H1 r1 g1 t1 => ?_⟩
  rw [show y = _ from r1] at t1
  have t1' := t1
  cases t1 with
  | ob h1 hk t1 => exact ⟨_, _, _, rfl, g1.ok.sub _ _ h1, mu0, G1, [.ob C fs], g1.ok.weaken Le.zero, .cons t1' .nil, h, fun d' v G' H' hd g' t' => q d' v G' H' (h2 d' hd) (g1.trans ok (g'.lift g1.ok Le.zero)) t'⟩

/-! ### dict comprehensions: keys ints or texts, all different -/
/-- the loop -/
theorem dc_D {K : PySem.W.Frag} {α : Type} {J : It} {G1 H1 : Hp} {xs : List α} {F : α → D} {kf : α → Key} {vf : α → D} {σ : L2.St} {g : TG} {tk tv : TE} {own is : List Nat} {D' : Addr} {Qd : Hp → Prop} {u : D → DS → DS}
    (wk : Wk M K J G1 (xs.map F)) (ok1 : Ok M G1 H1) (sl : Sl K G1 σ ds) (hD : H1 D' = none) (tgt : ∀ x, x ∈ xs → TgOk K g is (F x) (u (F x))) (his : ∀ i ∈ is, i ∈ own)
    (bk : ∀ x, x ∈ xs → ∀ σ H Q, tD M K (u (F x) (wipeD ds own)) (Is (kD (kf x))) σ H Q → tk σ H Q) (bv : ∀ x, x ∈ xs → ∀ σ H Q, tD M K (u (F x) (wipeD ds own)) (Is (vf x)) σ H Q → tv σ H Q) (nd : (xs.map kf).Nodup) (hsz : xs.length ≤ sizeLine)
    (fin : ∀ G2 H2, Gr M G1 H1 G2 H2 → Dt K G2 (.ref D') (.dk (xs.map fun x => (kf x, vf x))) → Qd H2) :
    ∃ W : Nat → Nat → Hp → Prop, (∃ m, W 0 m (upd H1 D' (.dK []))) ∧ ∀ i m H, W i m H →
      (J.stop i H ∧ Qd H) ∨ (J.go i H ∧ ∃ Nx : Hp → Prop, (∀ H', Nx H' → ∃ m', m' < m ∧ W (i + 1) m' H') ∧ ∀ x H', J.yld i H x H' → g x (wipe σ own) H' fun σ2 H2 => wipe σ2 own = wipe σ own ∧ tYes σ2 H2 fun b H3 =>
        if b = true then tk σ2 H3 fun y H4 => tv σ2 H4 fun z H5 => ∃ kvs k, y = kV k ∧ H5 D' = some (.dK kvs) ∧ kvs.length < sizeLine ∧ Nx (upd H5 D' (.dK (putK kvs k z))) else Nx H3) := by
  have nb := ok1.nbag hD
  have nt : ∀ (kvs : List (Key × V)) (ps : Array Value), HO.dK kvs ≠ .tbl ps := fun _ _ z => by cases z
  have ni : ∀ (kvs : List (Key × V)), ¬ Imm (.dK kvs) := fun _ => by rintro (⟨_, z⟩ | ⟨_, z⟩) <;> cases z
  have nc : ∀ (kvs : List (Key × V)) (pos : Addr) (cv : Str), HO.dK kvs ≠ LamX.CodeO pos cv := fun _ _ _ z => by unfold LamX.CodeO at z; cases z
  have hlen : (xs.map F).length = xs.length := List.length_map _
  refine ⟨fun i m H => m = xs.length - i ∧ i ≤ xs.length ∧ ∃ kvs G', H D' = some (.dK kvs) ∧ G' D' = none ∧ Gr M G1 H1 G' H ∧ kvs.map (·.1) = (xs.take i).map kf ∧ Dts K G' (kvs.map (·.2)) ((xs.take i).map vf),
    ⟨xs.length, rfl, Nat.zero_le _, [], G1, upd_same, ok1.sub.free hD, Gr.drop ok1 hD (nt _), rfl, .nil⟩, ?_⟩
  rintro i m H ⟨rfl, hi, kvs, G', hH, hG, g1, ek, t1⟩
  by_cases hlt : i < xs.length
  · refine .inr ⟨wk.go i G' H g1.ex g1.ok (by rw [hlen]; exact hlt), fun H' => ∃ kvs G', H' D' = some (.dK kvs) ∧ G' D' = none ∧ Gr M G1 H1 G' H' ∧ kvs.map (·.1) = (xs.take (i + 1)).map kf ∧ Dts K G' (kvs.map (·.2)) ((xs.take (i + 1)).map vf),
      fun H' hn => ⟨xs.length - (i + 1), by omega, rfl, hlt, hn⟩, fun x H' y => ?_⟩
    have hx : xs[i]? = some xs[i] := List.getElem?_eq_getElem hlt
    have hmem : xs[i] ∈ xs := List.getElem_mem hlt
    obtain ⟨G2, g2, tx⟩ := wk.yld i (F xs[i]) G' H x H' (by rw [List.getElem?_map, hx]; rfl) g1.ex g1.ok y
    have k2 := g2.keepD hG hH (ni _) nb
    have g12 := g1.trans ok1 g2
    refine tgt _ hmem G2 (wipe σ own) H' x _ (wipeD ds own) ((sl.mono g12.ex).wipe own) g2.ok.sub tx fun σ2 s2 hw => ⟨?_, ?_⟩
    · rw [hw own his]
      refine List.ext_getElem? fun j => ?_
      rw [wipe_at, wipe_at, wipe_length]
      by_cases c : j ∈ own ∧ j < σ.length
      · rw [if_pos c, if_pos c]
      · rw [if_neg c, if_neg c]
    · unfold tYes
      refine iteT ?_
      refine bk _ hmem σ2 H' _ ⟨G2, s2, g2.ok, fun dk vk G3 H3 ed3 g3 t3 => bv _ hmem σ2 H3 _ ⟨G3, s2.mono g3.ex, g3.ok, fun dv vv G4 H4 ed4 g4 t4 => ?_⟩⟩
      have k3 := g3.keepD k2.1 k2.2 (ni _) nb
      have k4 := g4.keepD k3.1 k3.2 (ni _) nb
      have g14 := (g12.trans ok1 g3).trans ok1 g4
      have ev : vk = kV (kf xs[i]) := by
        rw [show dk = _ from ed3] at t3
        generalize kf xs[i] = kk at t3 ⊢
        cases kk <;> cases t3 <;> rfl
      have etake : xs.take (i + 1) = xs.take i ++ [xs[i]] := by rw [List.take_succ, hx]; rfl
      have hnew : valV kvs (kf xs[i]) = none := by
        cases q : valV kvs (kf xs[i]) with
        | none => rfl
        | some w =>
          have hm := valV_in q
          rw [ek] at hm
          obtain ⟨z, hz, ez⟩ := List.mem_map.mp hm
          obtain ⟨j, hj, e⟩ := List.mem_iff_getElem.mp hz
          rw [List.length_take] at hj
          rw [List.getElem_take] at e
          have e2 : (xs.map kf)[j]'(by rw [List.length_map]; omega) = (xs.map kf)[i]'(by rw [List.length_map]; exact hlt) := by
            rw [List.getElem_map, List.getElem_map, e, ez]
          have := (List.getElem_inj nd).mp e2
          omega
      have hkl : kvs.length = i := by
        have := congrArg List.length ek
        rw [List.length_map, List.length_map, List.length_take] at this
        omega
      refine ⟨kvs, kf xs[i], ev, k4.2, by omega, kvs ++ [(kf xs[i], vv)], G4, ?_, k4.1, ?_, ?_, ?_⟩
      · rw [putK_new _ hnew]; exact upd_same
      · exact g14.poke ok1 hD k4.1 k4.2 (nt _) (nc _)
      · rw [List.map_append, ek, etake, List.map_append]; rfl
      · rw [List.map_append, etake, List.map_append]
        rw [show dv = _ from ed4] at t4
        exact (((t1.mono g2.ex).mono g3.ex).mono g4.ex).append (.cons t4 .nil)
  · have e : i = xs.length := by omega
    subst e
    have ex : Same G' (upd G' D' (.dK kvs)) := fun a x e => by rw [upd_ne (ne_of_none e hG)]; exact e
    rw [List.take_length] at ek t1
    refine .inl ⟨by rw [← hlen]; exact wk.stop G' H g1.ex g1.ok, fin _ H (g1.know ok1 hD hG hH (nt _)) (.dk (.inl upd_same) ?_ ?_)⟩
    · rw [List.map_map]; exact ek
    · rw [List.map_map]; exact t1.mono ex
theorem d_dc {α : Type} {F vf : α → D} {kf : α → Key} {xs : List α} {kx vx : Expr} {scope : Scope} {own : List (Str × Nat)} {is : List Nat} {g : TG} {u : D → DS → DS} (hc : X.calm = true) (hN : X.N.Nodup) (hi : DI X M tg iter ds (Is (xs.map F))) (ok : BlkOk X.N X.env.scope scope own)
    (hg : ∀ (s : Shared) (H : Hp) (C : Addr) (cl : List (Str × Addr)) (fp : List Addr), PG (X.blk s H scope (compEnvC scope cl C X.env) fp) tg g)
    (tgt : ∀ x ∈ xs, TgOk X.K g is (F x) (u (F x))) (his : ∀ i ∈ is, i ∈ own.map (·.2))
    (hk : ∀ (s : Shared) (H : Hp) (C : Addr) (cl : List (Str × Addr)) (fp : List Addr) (x : α), x ∈ xs → DV (X.blk s H scope (compEnvC scope cl C X.env) fp) M kx (u (F x) (wipeD ds (own.map (·.2)))) (kD (kf x)))
    (he : ∀ (s : Shared) (H : Hp) (C : Addr) (cl : List (Str × Addr)) (fp : List Addr) (x : α), x ∈ xs → DV (X.blk s H scope (compEnvC scope cl C X.env) fp) M vx (u (F x) (wipeD ds (own.map (·.2)))) (vf x))
    (nd : (xs.map kf).Nodup) (hz : xs.length ≤ sizeLine) (hs : ∀ x, foldedSetIterable iter X.env x = pure x := by intro _; rfl) :
    DV X M (.DictComp kx vx [⟨tg, iter, [], 0⟩] scope pos) ds (.dk (xs.map fun x => (kf x, vf x))) :=
  PE.imp (pe_dc (tk := fun σ H Q => ∃ x, x ∈ xs ∧ tD M X.K (u (F x) (wipeD ds (own.map (·.2)))) (Is (kD (kf x))) σ H Q) (tv := fun σ H Q => ∃ x, x ∈ xs ∧ tD M X.K (u (F x) (wipeD ds (own.map (·.2)))) (Is (vf x)) σ H Q) hc hN hi ok hg (fun _ _ _ _ _ => pts_nil)
    (fun s H C cl fp => PE.ex fun x hx => hk s H C cl fp x hx) (fun s H C cl fp => PE.ex fun x hx => he s H C cl fp x hx) hs) fun σ H Q ⟨G, s, ok0, q⟩ => ⟨G, s, ok0, fun J els G1 H1 re g1 wk D' hD => by
    rw [show els = _ from re] at wk
    exact dc_D (u := u) (kf := kf) (vf := vf) (tk := fun σ H Q => ∃ x, x ∈ xs ∧ tD M X.K (u (F x) (wipeD ds (own.map (·.2)))) (Is (kD (kf x))) σ H Q) (tv := fun σ H Q => ∃ x, x ∈ xs ∧ tD M X.K (u (F x) (wipeD ds (own.map (·.2)))) (Is (vf x)) σ H Q) wk g1.ok (s.mono g1.ex) hD tgt his (fun x hx σ H Q z => ⟨x, hx, z⟩) (fun x hx σ H Q z => ⟨x, hx, z⟩) nd hz fun G2 H2 g2 t2 => q _ _ G2 H2 rfl (g1.trans ok0 g2) t2⟩
end
end DL
set_option maxHeartbeats 1000000
namespace DL
open PySem PySem.Spec PyProof.Rows L2 SO
/-! ### bodies that change things of their own: a cell over what was known at the start (G0, H0) -/
structure CellK (M : Mu) (G0 H0 : Hp) {γ : Type} (C : Hp → Hp → γ → Prop) : Prop where
  keep : ∀ G H G' H' c, Gr M G0 H0 G H → C G H c → Gr M G H G' H' → C G' H' c
def tDM (M : Mu) (K : PySem.W.Frag) (G0 H0 : Hp) {γ : Type} (C : Hp → Hp → γ → Prop) (ds : DS) (c : γ) (Nx : DS → γ → Prop) (Rt : D → Prop) : TS := fun Z σ H => ∃ G, Sl K G σ ds ∧ Gr M G0 H0 G H ∧ C G H c ∧
  (∀ ds' c' σ' G' H', Nx ds' c' → Sl K G' σ' ds' → Gr M G0 H0 G' H' → Same G G' → C G' H' c' → Z.nx σ' H') ∧ ∀ d v G' H', Rt d → Gr M G0 H0 G' H' → Dt K G' v d → Z.rt v H'
section
variable {X : Cx} {M : Mu} {G0 H0 : Hp} {γ : Type} {C : Hp → Hp → γ → Prop} {ds : DS} {c : γ} {st : Stmt} {rest sts : List Stmt} {Nx N1 : DS → γ → Prop} {Rt : D → Prop} {e a b tg iter : Expr} {R : D → Prop} {pos : Pos}
abbrev DM (X : Cx) (M : Mu) (G0 H0 : Hp) {γ : Type} (C : Hp → Hp → γ → Prop) (st : Stmt) (ds : DS) (c : γ) (Nx : DS → γ → Prop) (Rt : D → Prop) : Prop := PS X st (tDM M X.K G0 H0 C ds c Nx Rt)
abbrev DMs (X : Cx) (M : Mu) (G0 H0 : Hp) {γ : Type} (C : Hp → Hp → γ → Prop) (sts : List Stmt) (ds : DS) (c : γ) (Nx : DS → γ → Prop) (Rt : D → Prop) : Prop := PSs X sts (tDM M X.K G0 H0 C ds c Nx Rt)
theorem dm_of (ok0 : Ok M G0 H0) (hC : CellK M G0 H0 C) {N : DS → Prop} (h : DP X M st ds N Rt) : DM X M G0 H0 C st ds c (fun ds' c' => N ds' ∧ c' = c) Rt :=
  PS.imp h fun Z σ H ⟨G, s, g, hc, n, q⟩ => ⟨G, s, g.ok, fun ds' σ' G' H' h1 s' g' => n ds' c σ' G' H' ⟨h1, rfl⟩ s' (g.trans ok0 g') g'.ex (hC.keep _ _ _ _ _ g hc g'), fun d v G' H' r g' t => q d v G' H' r (g.trans ok0 g') t⟩
theorem dms_of (ok0 : Ok M G0 H0) (hC : CellK M G0 H0 C) {N : DS → Prop} (h : DPs X M sts ds N Rt) : DMs X M G0 H0 C sts ds c (fun ds' c' => N ds' ∧ c' = c) Rt :=
  PSs.imp h fun Z σ H ⟨G, s, g, hc, n, q⟩ => ⟨G, s, g.ok, fun ds' σ' G' H' h1 s' g' => n ds' c σ' G' H' ⟨h1, rfl⟩ s' (g.trans ok0 g') g'.ex (hC.keep _ _ _ _ _ g hc g'), fun d v G' H' r g' t => q d v G' H' r (g.trans ok0 g') t⟩
theorem dms_nil (h : Nx ds c) : DMs X M G0 H0 C [] ds c Nx Rt := PSs.imp pss_nil fun Z σ H ⟨G, s, g, hc, n, _⟩ => n ds c σ G H h s g (Same.refl G) hc
theorem dms_consR (h : DM X M G0 H0 C st ds c N1 Rt) (r : ∀ ds1 c1, N1 ds1 c1 → DMs X M G0 H0 C rest ds1 c1 Nx Rt) : DMs X M G0 H0 C (st :: rest) ds c Nx Rt :=
  PSs.imp (pss_cons h (PSs.ex (ι := DS × γ) (P := fun z => N1 z.1 z.2) fun z hz => r z.1 z.2 hz)) fun Z σ H ⟨G, s, g, hc, n, q⟩ => ⟨G, s, g, hc, fun ds1 c1 σ1 G1 H1 hn s1 g1 e1 hc1 => ⟨(ds1, c1), hn, G1, s1, g1, hc1, fun ds2 c2 σ2 G2 H2 h2 s2 g2 e2 hc2 => n ds2 c2 σ2 G2 H2 h2 s2 g2 (e1.trans e2) hc2, q⟩, q⟩
theorem dms_cons {ds1 : DS} {c1 : γ} (h : DM X M G0 H0 C st ds c (fun ds' c' => ds' = ds1 ∧ c' = c1) Rt) (r : DMs X M G0 H0 C rest ds1 c1 Nx Rt) : DMs X M G0 H0 C (st :: rest) ds c Nx Rt :=
  dms_consR h fun d k ⟨e1, e2⟩ => by rw [e1, e2]; exact r
/-- a statement without the cell, then the rest -/
theorem dms_pure {ds1 : DS} (ok0 : Ok M G0 H0) (hC : CellK M G0 H0 C) (h : DP X M st ds (Is ds1) Rt) (r : DMs X M G0 H0 C rest ds1 c Nx Rt) : DMs X M G0 H0 C (st :: rest) ds c Nx Rt := dms_consR (dm_of ok0 hC h) fun d k ⟨e1, e2⟩ => by rw [show d = ds1 from e1, e2]; exact r
theorem dms_one (h : DM X M G0 H0 C st ds c Nx Rt) : DMs X M G0 H0 C [st] ds c Nx Rt := PSs.imp (pss_one h) fun _ _ _ q => q
theorem DM.weak {N2 : DS → γ → Prop} (h : DM X M G0 H0 C st ds c Nx Rt) (hn : ∀ x y, Nx x y → N2 x y) : DM X M G0 H0 C st ds c N2 Rt :=
  PS.imp h fun Z σ H ⟨G, s, g, hc, n, q⟩ => ⟨G, s, g, hc, fun x y σ' G' H' h1 => n x y σ' G' H' (hn x y h1), q⟩
theorem DMs.weak {N2 : DS → γ → Prop} (h : DMs X M G0 H0 C sts ds c Nx Rt) (hn : ∀ x y, Nx x y → N2 x y) : DMs X M G0 H0 C sts ds c N2 Rt :=
  PSs.imp h fun Z σ H ⟨G, s, g, hc, n, q⟩ => ⟨G, s, g, hc, fun x y σ' G' H' h1 => n x y σ' G' H' (hn x y h1), q⟩
theorem DM.ret {R2 : D → Prop} (h : DM X M G0 H0 C st ds c Nx Rt) (hr : ∀ d, Rt d → R2 d) : DM X M G0 H0 C st ds c Nx R2 :=
  PS.imp h fun Z σ H ⟨G, s, g, hc, n, q⟩ => ⟨G, s, g, hc, n, fun d v G' H' h1 => q d v G' H' (hr d h1)⟩
theorem DMs.forget {ds1 : DS} (h : DMs X M G0 H0 C sts ds1 c Nx Rt) (hl : ds1.length = ds.length) (hs : ∀ (i : Nat) (d : D), ds1[i]? = some (some d) → ds[i]? = some (some d)) : DMs X M G0 H0 C sts ds c Nx Rt :=
  PSs.imp h fun Z σ H ⟨G, s, g, hc, n, q⟩ => ⟨G, s.forget hl hs, g, hc, n, q⟩
theorem dm_if {p : Bool} {A B : List Stmt} {cc : Expr} (ok0 : Ok M G0 H0) (hC : CellK M G0 H0 C) (hc : DT X M cc ds (Is p)) (ha : p = true → DMs X M G0 H0 C A ds c Nx Rt) (hb : p = false → DMs X M G0 H0 C B ds c Nx Rt) : DM X M G0 H0 C (.If cc A B pos) ds c Nx Rt :=
  PS.imp (ps_if hc (PSs.ex (ι := Unit) (P := fun _ => p = true) fun _ h => ha h) (PSs.ex (ι := Unit) (P := fun _ => p = false) fun _ h => hb h)) fun Z σ H ⟨G, s, g, hc1, n, q⟩ => ⟨G, s, g.ok, fun b G' H' r g' => by
    have r : b = p := r
    subst r
    have z : tDM M X.K G0 H0 C ds c Nx Rt Z σ H' := ⟨G', s.mono g'.ex, g.trans ok0 g', hC.keep _ _ _ _ _ g hc1 g', fun ds2 c2 σ2 G2 H2 h2 s2 g2 e2 => n ds2 c2 σ2 G2 H2 h2 s2 g2 (g'.ex.trans e2), q⟩
    cases b with
    | true => refine iteT ?_; exact ⟨(), rfl, z⟩
    | false => refine iteF ?_; exact ⟨(), rfl, z⟩⟩
theorem dm_for {Re : List D → Prop} {body : List Stmt} {g : TG} {is : List Nat} {u : D → DS → DS} {I : Nat → DS → γ → Prop} (ok0 : Ok M G0 H0) (hC : CellK M G0 H0 C) (hp : PassesOwn (model X.prog X.w) X.A X.env X.xe) (hc : X.calm = true) (hi : DI X M tg iter ds Re) (hg : PG X tg g)
    (tgt : ∀ i d, El Re i d → TgOk X.K g is d (u d)) (h0 : I 0 ds c) (hb : ∀ i d ds1 c1, El Re i d → I i ds1 c1 → DMs X M G0 H0 C body (u d ds1) c1 (I (i + 1)) Rt) (hd : ∀ els ds1 c1, Re els → I els.length ds1 c1 → Nx ds1 c1)
    (hs : ∀ x, foldedSetIterable iter X.env x = pure x := by intro _; rfl) : DM X M G0 H0 C (.For tg iter body [] pos) ds c Nx Rt := by
  refine PS.imp (ps_for (tb := fun Z σ H => ∃ z : Nat × D × DS × γ, (El Re z.1 z.2.1 ∧ I z.1 z.2.2.1 z.2.2.2) ∧ tDM M X.K G0 H0 C (u z.2.1 z.2.2.1) z.2.2.2 (I (z.1 + 1)) Rt Z σ H) hp hc hi hg (PSs.ex fun z hz => hb z.1 z.2.1 z.2.2.1 z.2.2.2 hz.1 hz.2) hs) fun Z σ H ⟨G, s, g0, hc0, n, q⟩ => ⟨G, s, g0.ok, fun J els G1 H1 re g1 wk => ?_⟩
  refine ⟨fun i m σ' H' => m = els.length - i ∧ i ≤ els.length ∧ ∃ ds1 c1 G', I i ds1 c1 ∧ Sl X.K G' σ' ds1 ∧ Gr M G0 H0 G' H' ∧ Same G1 G' ∧ C G' H' c1, ⟨els.length, rfl, Nat.zero_le _, ds, c, G1, h0, s.mono g1.ex, g0.trans ok0 g1, Same.refl G1, hC.keep _ _ _ _ _ g0 hc0 g1⟩, ?_⟩
  rintro i m σ' H' ⟨rfl, hi, ds1, c1, G', hI, s', g', ss, hc1⟩
  by_cases hlt : i < els.length
  · refine .inr ⟨wk.go i G' H' ss g'.ok hlt, fun σ2 H2 => ∃ ds2 c2 G2, I (i + 1) ds2 c2 ∧ Sl X.K G2 σ2 ds2 ∧ Gr M G0 H0 G2 H2 ∧ Same G1 G2 ∧ C G2 H2 c2, fun σ2 H2 hn => ⟨els.length - (i + 1), by omega, rfl, hlt, hn⟩, fun x H2 y => ?_⟩
    have hd' : els[i]? = some els[i] := List.getElem?_eq_getElem hlt
    obtain ⟨G2, g2, tx⟩ := wk.yld i _ G' H' x H2 hd' ss g'.ok y
    refine tgt i _ ⟨els, re, hd'⟩ G2 σ' H2 x _ ds1 (s'.mono g2.ex) g2.ok.sub tx fun σ3 s3 _ => ?_
    refine ⟨(i, els[i], ds1, c1), ⟨⟨els, re, hd'⟩, hI⟩, G2, s3, g'.trans ok0 g2, hC.keep _ _ _ _ _ g' hc1 g2, fun ds3 c3 σ4 G3 H3 hn s4 g3 e3 hc3 => ⟨ds3, c3, G3, hn, s4, g3, (ss.trans g2.ex).trans e3, hc3⟩, q⟩
  · have e : i = els.length := by omega
    subst e
    exact .inl ⟨wk.stop G' H' ss g'.ok, n ds1 c1 σ' G' H' (hd els ds1 c1 re hI) s' g' (g1.ex.trans ss) hc1⟩
end
end DL
set_option maxHeartbeats 1000000
namespace DL
open PySem PySem.Spec PyProof.Rows L2 SO
/-! ### cells: an instance, a list, a dict with tuples as keys -/
def cIns (K : PySem.W.Frag) (p C0 : Addr) : Hp → Hp → List (Str × D) → Prop := fun G H fs => G p = none ∧ ∃ dx gs, H p = some (.ins C0 dx gs) ∧ gs.map (·.1) = fs.map (·.1) ∧ Dts K G (gs.map (·.2)) (fs.map (·.2))
def cLst (K : PySem.W.Frag) (p : Addr) : Hp → Hp → List D → Prop := fun G H l => G p = none ∧ ∃ vs, H p = some (.lst vs) ∧ Dts K G vs l
def cDt (K : PySem.W.Frag) (p : Addr) : Hp → Hp → List (List Key × D) → Prop := fun G H l => G p = none ∧ ∃ gs, H p = some (.dT gs) ∧ gs.map (·.1) = l.map (·.1) ∧ Dts K G (gs.map (·.2)) (l.map (·.2))
theorem imm_ins {C dx : Addr} {fs : List (Str × V)} : ¬ Imm (.ins C dx fs) := by rintro (⟨_, z⟩ | ⟨_, z⟩) <;> cases z
theorem imm_dT {fs : List (List Key × V)} : ¬ Imm (.dT fs) := by rintro (⟨_, z⟩ | ⟨_, z⟩) <;> cases z
section
variable {M : Mu} {G0 H0 : Hp} {K : PySem.W.Frag} {p C0 : Addr}
theorem ck_ins (ok0 : Ok M G0 H0) (hp : H0 p = none) : CellK M G0 H0 (cIns K p C0) := ⟨fun G H G' H' c g ⟨h1, dx, gs, h2, h3, h4⟩ g' => by
  have k := g'.keepD h1 h2 imm_ins (ok0.nbag hp)
  exact ⟨k.1, dx, gs, k.2, h3, h4.mono g'.ex⟩⟩
theorem ck_lst (ok0 : Ok M G0 H0) (hp : H0 p = none) : CellK M G0 H0 (cLst K p) := ⟨fun G H G' H' c g ⟨h1, vs, h2, h4⟩ g' => by
  have k := g'.keepD h1 h2 imm_lst (ok0.nbag hp)
  exact ⟨k.1, vs, k.2, h4.mono g'.ex⟩⟩
theorem ck_dt (ok0 : Ok M G0 H0) (hp : H0 p = none) : CellK M G0 H0 (cDt K p) := ⟨fun G H G' H' c g ⟨h1, gs, h2, h3, h4⟩ g' => by
  have k := g'.keepD h1 h2 imm_dT (ok0.nbag hp)
  exact ⟨k.1, gs, k.2, h3, h4.mono g'.ex⟩⟩
/-- a cell becomes known data -/
def Knw (K : PySem.W.Frag) {γ : Type} (p : Addr) (C : Hp → Hp → γ → Prop) (toD : γ → D) : Prop := ∀ G H c, C G H c → ∃ o, H p = some o ∧ (∀ ps, o ≠ .tbl ps) ∧ G p = none ∧ Dt K (upd G p o) (.ref p) (toD c)
theorem same_upd {G : Hp} {o : HO} (h : G p = none) : Same G (upd G p o) := fun a x e => by rw [upd_ne (ne_of_none e h)]; exact e
theorem kn_lst : Knw K p (cLst K p) D.lst := fun G H c ⟨h1, vs, h2, h4⟩ => ⟨_, h2, (fun ps z => by cases z), h1, .lst upd_same (h4.mono (same_upd h1))⟩
theorem kn_dt : Knw K p (cDt K p) D.dt := fun G H c ⟨h1, gs, h2, h3, h4⟩ => ⟨_, h2, (fun ps z => by cases z), h1, .dt (.inl upd_same) h3 (h4.mono (same_upd h1))⟩
theorem kn_ins : Knw K p (cIns K p C0) (D.ob C0) := fun G H c ⟨h1, dx, gs, h2, h3, h4⟩ => ⟨_, h2, (fun ps z => by cases z), h1, .ob upd_same h3 (h4.mono (same_upd h1))⟩
end
theorem putF_new {f : Str} {v : V} : ∀ {gs : List (Str × V)}, f ∉ gs.map (·.1) → putF f v gs = gs ++ [(f, v)]
  | [], _ => rfl
  | (k, x) :: r, h => by
    rw [List.map_cons, List.mem_cons] at h
    show (if k = f then (k, v) :: r else (k, x) :: putF f v r) = _
    rw [if_neg fun e => h (.inl e.symm), putF_new fun m => h (.inr m)]
    rfl
/-- a dict's store, as data -/
def putD {κ : Type} [DecidableEq κ] (l : List (κ × D)) (k : κ) (d : D) : List (κ × D) := if l.any (fun p => decide (p.1 = k)) = true then l.map (fun p => if p.1 = k then (k, d) else p) else l ++ [(k, d)]
section
variable {X : Cx} {M : Mu} {G0 H0 : Hp} {ds : DS} {e idx value o tg iter : Expr} {R : D → Prop} {Rt : D → Prop} {pos pn pa p2 cpos : Pos} {p C0 : Addr} {i : Nat} {n : Str}
theorem raw_at {K : PySem.W.Frag} {G : Hp} {σ : L2.St} {v : V} (s : Sl K G σ ds) (h : ds[i]? = some (some (.raw v))) : σ[i]? = some (some v) := by
  obtain ⟨w, h1, h2⟩ := s.2 i _ h
  cases h2
  exact h1
/-- self.f = e -/
theorem dm_fld {f : Str} {fs : List (Str × D)} (ok0 : Ok M G0 H0) (hp : H0 p = none) (hi : ds[i]? = some (some (.raw (.ref p)))) (c : Cls X.K C0) (hn : NoAttr X.K C0 f) (he : DX X M e ds R) (hf : f ∉ fs.map (·.1)) (few : fs.length < 1000)
    (hN : X.N[i]? = some n := by rfl) (hv : Vis X.env.scope n := by first | exact Or.inl rfl | exact Or.inr (Or.inl rfl) | exact Or.inr (Or.inr rfl)) (h1 : (n == ("__debug__" : Str)) = false := by decide) (h2 : (n == ("__classdict__" : Str)) = false := by decide)
    (hs : swapsWith e (some (.Attribute (.Name n pn) f pa)) pos.line X.env = pure false := by rfl) :
    DM X M G0 H0 (cIns X.K p C0) (.Assign [.Attribute (.Name n pn) f pa] e pos) ds fs (fun ds' fs' => ds' = ds ∧ ∃ d, R d ∧ fs' = fs ++ [(f, d)]) Rt :=
  PS.imp (ps_fld (pe_var (i := i) hN hv h1 h2) he hs) fun Z σ H ⟨G, s, g, hc, nx, q⟩ => ⟨G, s, g.ok, fun d v G1 H1 r g1 t1 => by
    obtain ⟨a1, dx, gs, a2, a3, a4⟩ := (ck_ins ok0 hp).keep _ _ _ _ _ g hc g1
    have hk : f ∉ gs.map (·.1) := by rw [a3]; exact hf
    have hl : gs.length = fs.length := by
      have := congrArg List.length a3
      rw [List.length_map, List.length_map] at this
      exact this
    refine ⟨.ref p, raw_at s hi, p, C0, dx, gs, rfl, a2, c, hn, by omega, ?_⟩
    have g01 := g.trans ok0 g1
    have gp := g01.poke ok0 hp a1 a2 (fun ps z => by cases z) (fun _ _ z => by unfold LamX.CodeO at z; cases z) (u := .ins C0 dx (putF f v gs))
    refine nx ds _ σ G1 _ ⟨rfl, d, r, rfl⟩ (s.mono g1.ex) gp g1.ex ⟨a1, dx, putF f v gs, upd_same, ?_, ?_⟩
    · rw [putF_new hk, List.map_append, List.map_append, a3]; rfl
    · rw [putF_new hk, List.map_append, List.map_append]
      exact a4.append (.cons t1 .nil)⟩
/-- found.append(e) -/
theorem dm_append {l : List D} (ok0 : Ok M G0 H0) (hp : H0 p = none) (hi : ds[i]? = some (some (.raw (.ref p)))) (he : DX X M e ds R) (hz : l.length < sizeLine) (hN : X.N[i]? = some n := by rfl) (hv : Vis X.env.scope n := by first | exact Or.inl rfl | exact Or.inr (Or.inl rfl) | exact Or.inr (Or.inr rfl)) (h1 : (n == ("__debug__" : Str)) = false := by decide) (h2 : (n == ("__classdict__" : Str)) = false := by decide)
    (hbase : attributeBase (.Name n pn) "append" X.env (eval (.Name n pn) X.env) = eval (.Name n pn) X.env := by rfl)
    (hfew : ((backTo cpos (starEach [e] X.env)).all (fun x => !x.1) && (backToKw cpos (keywordEach [] X.env)).all (fun x => x.1.isSome) && decide ([e].length + ([] : List Keyword).length + (if ([] : List Keyword).isEmpty then 0 else 1) < 30)) = true := by rfl)
    (hline : (pa.endLine == cpos.line) = true := by rfl) (hs : starEach [e] X.env = (false, eval e X.env) :: starEach [] X.env := by rfl) (hpl : (backTo cpos (starEach [] X.env)).any (·.1) = false := by rfl) (hw : swapsWith (.Call (.Attribute (.Name n pn) "append" pa) [e] [] cpos) none pos.line X.env = pure false := by rfl) :
    DM X M G0 H0 (cLst X.K p) (.Expr (.Call (.Attribute (.Name n pn) "append" pa) [e] [] cpos) pos) ds l (fun ds' l' => ds' = ds ∧ ∃ d, R d ∧ l' = l ++ [d]) Rt :=
  PS.imp (ps_expr (pe_bm F.plainAttrs_list F.slot_list_append F.type_list_append mt_append (pe_var (i := i) hN hv h1 h2) (pa_cons he pa_nil hs) hbase hfew hline hs hpl) hw) fun Z σ H ⟨G, s, g, hc, nx, q⟩ => by
    obtain ⟨b1, ws, b2, b3⟩ := hc
    refine ⟨.ref p, raw_at s hi, .inl ⟨rfl, ws, SqL.of b2⟩, G, s, g.ok, fun d v G1 H1 r g1 t1 => ?_⟩
    obtain ⟨a1, vs, a2, a4⟩ := (ck_lst (K := X.K) ok0 hp).keep _ _ _ _ _ g ⟨b1, ws, b2, b3⟩ g1
    refine ⟨p, vs, v, rfl, rfl, a2, by rw [a4.length]; exact hz, ?_⟩
    have g01 := g.trans ok0 g1
    have gp := g01.poke ok0 hp a1 a2 (fun ps z => by cases z) (fun _ _ z => by unfold LamX.CodeO at z; cases z) (u := .lst (vs ++ [v]))
    exact nx ds _ σ G1 _ ⟨rfl, d, r, rfl⟩ (s.mono g1.ex) gp g1.ex ⟨a1, _, upd_same, a4.append (.cons t1 .nil)⟩
/-- found.extend(e), e a list -/
theorem dm_extend {l m : List D} (ok0 : Ok M G0 H0) (hp : H0 p = none) (hi : ds[i]? = some (some (.raw (.ref p)))) (he : DV X M e ds (.lst m)) (hz : l.length + m.length ≤ sizeLine) (hN : X.N[i]? = some n := by rfl) (hv : Vis X.env.scope n := by first | exact Or.inl rfl | exact Or.inr (Or.inl rfl) | exact Or.inr (Or.inr rfl)) (h1 : (n == ("__debug__" : Str)) = false := by decide) (h2 : (n == ("__classdict__" : Str)) = false := by decide)
    (hbase : attributeBase (.Name n pn) "extend" X.env (eval (.Name n pn) X.env) = eval (.Name n pn) X.env := by rfl)
    (hfew : ((backTo cpos (starEach [e] X.env)).all (fun x => !x.1) && (backToKw cpos (keywordEach [] X.env)).all (fun x => x.1.isSome) && decide ([e].length + ([] : List Keyword).length + (if ([] : List Keyword).isEmpty then 0 else 1) < 30)) = true := by rfl)
    (hline : (pa.endLine == cpos.line) = true := by rfl) (hs : starEach [e] X.env = (false, eval e X.env) :: starEach [] X.env := by rfl) (hpl : (backTo cpos (starEach [] X.env)).any (·.1) = false := by rfl) (hw : swapsWith (.Call (.Attribute (.Name n pn) "extend" pa) [e] [] cpos) none pos.line X.env = pure false := by rfl) :
    DM X M G0 H0 (cLst X.K p) (.Expr (.Call (.Attribute (.Name n pn) "extend" pa) [e] [] cpos) pos) ds l (fun ds' l' => ds' = ds ∧ l' = l ++ m) Rt :=
  PS.imp (ps_expr (pe_bm F.plainAttrs_list F.slot_list_extend F.type_list_extend mt_extend (pe_var (i := i) hN hv h1 h2) (pa_cons he pa_nil hs) hbase hfew hline hs hpl) hw) fun Z σ H ⟨G, s, g, hc, nx, q⟩ => by
    obtain ⟨b1, ws, b2, b3⟩ := hc
    refine ⟨.ref p, raw_at s hi, .inl ⟨rfl, ws, SqL.of b2⟩, G, s, g.ok, fun d v G1 H1 r g1 t1 => ?_⟩
    obtain ⟨a1, vs, a2, a4⟩ := (ck_lst (K := X.K) ok0 hp).keep _ _ _ _ _ g ⟨b1, ws, b2, b3⟩ g1
    rw [show d = _ from r] at t1
    cases t1 with
    | lst c1 c2 =>
      rename_i b' zs
      refine ⟨p, _, vs, zs, rfl, rfl, a2, g1.ok.sub _ _ c1, by rw [a4.length, c2.length]; exact hz, ?_⟩
      have g01 := g.trans ok0 g1
      have gp := g01.poke ok0 hp a1 a2 (fun ps z => by cases z) (fun _ _ z => by unfold LamX.CodeO at z; cases z) (u := .lst (vs ++ zs))
      exact nx ds _ σ G1 _ ⟨rfl, rfl⟩ (s.mono g1.ex) gp g1.ex ⟨a1, _, upd_same, a4.append c2⟩
/-- name = [] / {}, one statement on the cell, then it is known -/
theorem dms_phase {γ δ : Type} {C : Hp → Hp → γ → Prop} {c : γ} {C1 : Addr → Hp → Hp → δ → Prop} {c0 : δ} {o0 : HO} {toD : δ → D} {N : Addr → DS → δ → Prop} {Nx : DS → γ → Prop} {st : Stmt} {rest : List Stmt} {x : Str} {px : Pos} (i : Nat) (ok0 : Ok M G0 H0) (hC : CellK M G0 H0 C) (hNd : X.N.Nodup)
    (cre : PE X e (fun σ H Q => ∀ p, H p = none → Q (.ref p) (upd H p o0))) (nt : ∀ ps, o0 ≠ .tbl ps) (ini : ∀ p G H, G p = none → H p = some o0 → C1 p G H c0) (kn : ∀ p, Knw X.K p (C1 p) toD)
    (body : ∀ G1 H1 p, Ok M G1 H1 → H1 p = none → DM X M G1 H1 (C1 p) st (ds.set i (some (.raw (.ref p)))) c0 (N p) Rt) (slot : ∀ p ds' c', N p ds' c' → ds'[i]? = some (some (.raw (.ref p))))
    (next : ∀ p ds' c', N p ds' c' → DMs X M G0 H0 C rest (ds'.set i (some (toD c'))) c Nx Rt) (hx : X.N[i]? = some x := by rfl) (lx : Loc X.env.scope x := by exact .inl rfl) (fx : X.fn x = true ∨ X.env.scope.names.lookup x = some .local := by first | exact .inr rfl | exact .inl rfl)
    (hs : swapsWith e (some (.Name x px)) pos.line X.env = pure false := by rfl) : DMs X M G0 H0 C (.Assign [.Name x px] e pos :: st :: rest) ds c Nx Rt := by
  refine PSs.imp (pss_cons (ps_set hNd hx lx cre hs fx) (pss_cons (t := fun Z σ H => ∃ z : Hp × Hp × Addr, (Ok M z.1 z.2.1 ∧ z.2.1 z.2.2 = none) ∧ tDM M X.K z.1 z.2.1 (C1 z.2.2) (ds.set i (some (.raw (.ref z.2.2)))) c0 (N z.2.2) Rt Z σ H) ⟨fun pins s σ H Z I ⟨z, hz, h⟩ => (body z.1 z.2.1 z.2.2 hz.1 hz.2).run pins s σ H Z I h⟩
    (PSs.ex (ι := Addr × DS × δ) (P := fun z => N z.1 z.2.1 z.2.2) fun z hz => next z.1 z.2.1 z.2.2 hz))) fun Z σ H ⟨G, s, g, hc, nx, q⟩ p hp => ?_
  have gd := Gr.drop (o := o0) g.ok hp nt
  refine ⟨(G, H, p), ⟨g.ok, hp⟩, G, s.set i (.raw _), gd, ini p G _ (g.ok.sub.free hp) upd_same, fun ds1 c1 σ1 G1 H1 hn s1 g1 e1 h1 => ?_, fun d v G1 H1 r g1 t1 => q d v G1 H1 r (g.trans ok0 g1) t1⟩
  obtain ⟨o, k1, k2, k3, k4⟩ := kn p G1 H1 c1 h1
  have gk := g1.know g.ok hp k3 k1 k2
  have hsl : Sl X.K (upd G1 p o) σ1 (ds1.set i (some (toD c1))) := by
    have v := raw_at s1 (slot p ds1 c1 hn)
    have s2 := (s1.mono (same_upd (o := o) k3)).set i k4
    have e : σ1.set i (some (.ref p)) = σ1 := by
      refine List.ext_getElem? fun j => ?_
      by_cases q : i = j
      · subst q
        rw [List.getElem?_set_self (List.getElem?_eq_some_iff.mp v).1, v]
      · rw [List.getElem?_set_ne q]
    rw [e] at s2
    exact s2
  refine ⟨(p, ds1, c1), hn, upd G1 p o, hsl, g.trans ok0 gk, hC.keep _ _ _ _ _ g hc gk, fun ds2 c2 σ2 G2 H2 h2 s2 g2 e2 hc2 => nx ds2 c2 σ2 G2 H2 h2 s2 g2 (gk.ex.trans e2) hc2, q⟩
/-- the same where there is no cell around -/
theorem dps_of_dms {sts : List Stmt} {Nx : DS → Prop} (h : ∀ G0 H0, Ok M G0 H0 → DMs X M G0 H0 (fun _ _ (_ : Unit) => True) sts ds () (fun ds' _ => Nx ds') Rt) : DPs X M sts ds Nx Rt :=
  PSs.imp (PSs.ex (ι := Hp × Hp) (P := fun z => Ok M z.1 z.2) fun z hz => h z.1 z.2 hz) fun Z σ H ⟨G, s, ok, n, q⟩ => ⟨(G, H), ok, G, s, Gr.refl ok, trivial, fun ds' _ σ' G' H' h1 s' g' _ _ => n ds' σ' G' H' h1 s' g', q⟩
theorem ck_unit : CellK M G0 H0 (fun _ _ (_ : Unit) => True) := ⟨fun _ _ _ _ _ _ _ _ => trivial⟩
theorem cre_lst : PE X (.List [] pos) (fun σ H Q => ∀ p, H p = none → Q (.ref p) (upd H p (.lst []))) := PE.imp (pe_lst pa_nil) fun σ H Q h => ⟨by decide, h⟩
theorem cre_dt : PE X (.Dict [] [] pos) (fun σ H Q => ∀ p, H p = none → Q (.ref p) (upd H p (.dT []))) := pe_dnewT
theorem ini_lst {K : PySem.W.Frag} : ∀ p G H, G p = none → H p = some (.lst []) → cLst K p G H [] := fun p G H h1 h2 => ⟨h1, [], h2, .nil⟩
theorem ini_dt {K : PySem.W.Frag} : ∀ p G H, G p = none → H p = some (.dT []) → cDt K p G H [] := fun p G H h1 h2 => ⟨h1, [], h2, rfl, .nil⟩
end
end DL
set_option maxHeartbeats 1000000
namespace DL
open PySem PySem.Spec PyProof.Rows L2 SO
/-! ### making an instance -/
/-- an __init__'s promise -/
def spI (K : PySem.W.Frag) (C0 : Addr) (Pre : Mu → List D → Prop) (F : List D → List (Str × D)) : Sp := fun vs H Q _ => ∃ M G B x dx vs' l, vs = .ref x :: vs' ∧ Ok M G B ∧ B x = none ∧ H = upd B x (.ins C0 dx []) ∧ Dts K G vs' l ∧ Pre M l ∧
  ∀ G' H', Gr M G B G' H' → Dt K G' (.ref x) (.ob C0 (F l)) → Q .non H'
/-- where a class's __init__ stands -/
structure InAt (K : PySem.W.Frag) (C0 : Addr) (qual : Str) (st : Stmt) (dvs : List V) : Prop where
  ex : ∃ f fd, FunD K "__init__" qual (defArgs st) (defBody st) (defScope st) dvs [] f fd ∧ Mk K C0 f
structure MkT (P : Program) (w : World) (K : PySem.W.Frag) (mg : Str → Option Value) (base : Heap) (x : Str) (C0 : Addr) (k : Nat) (dl : List D) (Pre : Mu → List D → Prop) (F : List D → List (Str × D)) : Prop where
  ex : ∃ f fd ps ds dvs, FnOk P w K mg base CX0 k f fd ps (spI K C0 Pre F) ∧ Mk K C0 f ∧ mg x = some (.ref C0) ∧ Binds K fd ps ds ∧ Vals dvs ds ∧ ∀ G, Dts K G dvs dl
theorem MkT.mono {P : Program} {w : World} {K : PySem.W.Frag} {mg : Str → Option Value} {base : Heap} {x : Str} {C0 : Addr} {j k : Nat} {dl : List D} {Pre : Mu → List D → Prop} {F : List D → List (Str × D)} (T : MkT P w K mg base x C0 j dl Pre F) (h : j ≤ k) : MkT P w K mg base x C0 k dl Pre F :=
  let ⟨f, fd, ps, ds, dvs, a, b⟩ := T.ex; ⟨f, fd, ps, ds, dvs, a.mono h, b⟩
theorem ok_init {P : Program} {w : World} {K : PySem.W.Frag} {mg : Str → Option Value} {base : Heap} {k : Nat} {f C0 : Addr} {fd : FuncData} {N ps : List Str} {qual : Str} {params : Arguments} {body : List Stmt} {scope : Scope} {dvs : List V} {Pre : Mu → List D → Prop} {Fs : List D → List (Str × D)}
    (F : FunD K "__init__" qual params body scope dvs [] f fd) (S : FnScope N ps scope) (hl : ∀ M l, Pre M l → l.length + 1 = ps.length)
    (hb : ∀ (cdv : Value) (A : Around) (outer : List Env) (s : Shared) (H : Hp) (E : XK) (M : Mu) (l : List D) (G B : Hp) (x : Addr), Room k (A.deeper (envOfC qual scope s.heap.objs.size f cdv)) → Pre M l → Ok M G B → B x = none →
      DMs (cxOf CX0 P w K mg base N qual scope f cdv A outer s H E).nox M G B (cIns K x C0) body (slots N (.raw (.ref x) :: l)) [] (fun _ fs => fs = Fs l) (fun _ => False)) : FnOk P w K mg base CX0 (k + 1) f fd ps (spI K C0 Pre Fs) := by
  refine F.ok S (fun vs H Q E ⟨M, G, B, x, dx, vs', l, e, ok, hx, eH, t, p, _⟩ => by rw [e, List.length_cons, t.length]; exact hl M l p) fun cdv A outer s H vs Q E hr ⟨M, G, B, x, dx, vs', l, e, ok, hx, eH, t, p, q⟩ => ?_
  subst e eH
  refine ⟨_, PSs.nox (hb cdv A outer s _ E M l G B x hr p ok hx), G, Sl.start (.cons (.raw _) t), Gr.drop ok hx (fun ps z => by cases z), ⟨ok.sub.free hx, dx, [], upd_same, rfl, .nil⟩, fun ds' fs σ' G' H' h1 _ g _ hc => ?_, fun _ _ _ _ h => h.elim⟩
  obtain ⟨o, k1, k2, k3, k4⟩ := kn_ins G' H' fs hc
  rw [h1] at k4
  exact q _ H' (g.know ok hx k3 k1 k2) k4
theorem mk_def {P : Program} {w : World} {K : PySem.W.Frag} {mg : Str → Option Value} {base : Heap} {k : Nat} {C0 : Addr} {N ps : List Str} {x qual : Str} {st : Stmt} {Pre : Mu → List D → Prop} {Fs : List D → List (Str × D)} (hm : mg x = some (.ref C0))
    (F : InAt K C0 qual st []) (S : FnScope N ps (defScope st)) (hbd : ∀ (kV doc pm : Value) (an : Option Addr) (cdv ct : Value) (us : List Value), us.length = ps.length → bindArgs (PySem.W.fnOf "__init__" qual (defArgs st) (defBody st) (defScope st) .none kV doc pm an cdv ct) ⟨us, []⟩ = pure (ps.zip us))
    (hl : ∀ M l, Pre M l → l.length + 1 = ps.length)
    (hb : ∀ (f : Addr) (cdv : Value) (A : Around) (outer : List Env) (s : Shared) (H : Hp) (E : XK) (M : Mu) (l : List D) (G B : Hp) (x : Addr), Room k (A.deeper (envOfC qual (defScope st) s.heap.objs.size f cdv)) → Pre M l → Ok M G B → B x = none →
      DMs (cxOf CX0 P w K mg base N qual (defScope st) f cdv A outer s H E).nox M G B (cIns K x C0) (defBody st) (slots N (.raw (.ref x) :: l)) [] (fun _ fs => fs = Fs l) (fun _ => False)) : MkT P w K mg base x C0 (k + 1) [] Pre Fs := by
  obtain ⟨f, fd, F, mk⟩ := F.ex
  exact ⟨f, fd, ps, [], [], ok_init F S hl (hb f), mk, hm, F.bindsN hbd, .nil, fun _ => .nil⟩
section
variable {X : Cx} {M : Mu} {ds : DS} {e : Expr} {es : List Expr} {R : D → Prop} {x : Str} {k : Nat} {p pos : Pos} {C0 : Addr} {dl : List D} {Pre : Mu → List D → Prop} {F : List D → List (Str × D)}
theorem dx_make {Rl : List D → Prop} (T : MkT X.prog X.w X.K X.mg X.base x C0 k dl Pre F) (hr : Room (k + 1) X.A) (ha : DA X M (e :: es) ds Rl) (h : ∀ l, Rl l → Pre mu0 (l ++ dl) ∧ R (.ob C0 (F (l ++ dl)))) (hg : Gl X x := by rfl) (hdb : (x == ("__debug__" : Str)) = false := by decide)
    (he : starEach (e :: es) X.env = (false, eval e X.env) :: starEach es X.env := by rfl) (hpl : (backTo pos (starEach es X.env)).any (·.1) = false := by rfl) : DX X M (.Call (.Name x p) (e :: es) [] pos) ds R := by
  obtain ⟨f, fd, ps, dvals, dvs, Fo, mk, hm, hb, hv, hd⟩ := T.ex
  refine PE.imp (pe_make mk Fo hr hg hm hb hv pass0 ha hdb he hpl) fun σ H Q ⟨G, s, ok, q⟩ => ⟨G, s, ok, fun l vs G1 H1 r1 g1 t1 x dx hx hdx ne => ?_⟩
  have ok1 := g1.ok
  have g0 := Gr.drop (o := .own x) (ok1.weaken Le.zero) hdx (fun ps z => by cases z)
  have hx2 : upd H1 dx (.own x) x = none := by rw [upd_ne (Ne.symm ne)]; exact hx
  obtain ⟨p1, p2⟩ := h l r1
  refine ⟨mu0, G1, upd H1 dx (.own x), x, dx, vs ++ dvs, l ++ dl, rfl, g0.ok, hx2, rfl, t1.append (hd G1), p1, fun G' H' g' t' => ⟨rfl, ?_⟩⟩
  exact q _ _ G' H' p2 (g1.trans ok ((g0.trans (ok1.weaken Le.zero) g').lift ok1 Le.zero)) t'
theorem d_make {l : List D} (T : MkT X.prog X.w X.K X.mg X.base x C0 k dl Pre F) (hr : Room (k + 1) X.A) (ha : DVs X M (e :: es) ds l) (h : Pre mu0 (l ++ dl)) (hg : Gl X x := by rfl) (hdb : (x == ("__debug__" : Str)) = false := by decide)
    (he : starEach (e :: es) X.env = (false, eval e X.env) :: starEach es X.env := by rfl) (hpl : (backTo pos (starEach es X.env)).any (·.1) = false := by rfl) : DV X M (.Call (.Name x p) (e :: es) [] pos) ds (.ob C0 (F (l ++ dl))) :=
  dx_make T hr ha (fun m hm => by rw [show m = l from hm]; exact ⟨h, rfl⟩) hg hdb he hpl
end
end DL
set_option maxHeartbeats 1000000
namespace DL
open PySem PySem.Spec PyProof.Rows L2 SO
/-! ### dict comprehensions whose keys are tuples -/
/-- the new dict's store at a tracked tuple -/
def StoT (dd : Addr) (y z : V) (H5 : Hp) (N : Hp → Prop) : Prop := ∃ kvs k b, y = .ref b ∧ H5 b = some (.tup (k.map kV)) ∧ H5 dd = some (.dT kvs) ∧ kvs.length < sizeLine ∧ N (upd H5 dd (.dT (putK kvs k z)))
theorem sto_run {X : Cx} {ps : List (Addr × Obj)} {σ : L2.St} {H5 : Hp} {s : Shared} {E : Value → Shared → Prop} {dd : Addr} {y z : V} {u r : Value} {N : Hp → Prop} (room : X.A.units + 1 < cLine) (inv : Inv X ps σ H5 s) (st : StoT dd y z H5 N) (hy : RelV y u) (hz : RelV z r) :
    wpAny (model X.prog X.w) X.A (dictSet dd u r) (fun _ s' => ∃ H6, Inv X ps σ H6 s' ∧ N H6) E s := by
  obtain ⟨kvs, k, b, rfl, eb, ed, few, n⟩ := st
  cases (show u = Value.ref b from hy)
  obtain ⟨len, notSys, xs, rel, isD⟩ := dt_of inv.hok ed
  have few' : xs.length ≤ sizeLine := (Paired.length rel) ▸ len
  refine wpAny_dictSet_heap (hsz := few') (show X.A.units < cLine by omega) (key_of inv.hok eb) isD fun h2 isD2 same => ⟨_, ?_, n⟩
  obtain ⟨ob, es, ep, g1, g2, g3, g4, _, g5⟩ := isD2
  have grown : (putK kvs k z).length ≤ sizeLine := by have := length_putK kvs k z; omega
  refine d_write inv (by rw [ed]; trivial) same ⟨ob, g1⟩ ⟨grown, notSys, _, (rel.put k eb hz).keeps fun c ys ec => ?_, ob, es, ep, g1, g2, g3, g4, g5⟩
  by_cases q : c = dd
  · subst q; rw [ec] at ed; cases ed
  · rw [upd_ne q]; exact ec
section
variable {X : Cx}
abbrev GoT (g : TG) (tk tv : TE) (vs : List Nat) (σ : L2.St) (dd : Addr) (J : It) (i : Nat) (H : Hp) (Nx : Hp → Prop) : Prop :=
  ∀ x H', J.yld i H x H' → g x (wipe σ vs) H' fun σ2 H2 => wipe σ2 vs = wipe σ vs ∧ tk σ2 H2 fun y H3 => tv σ2 H3 fun z H4 => StoT dd y z H4 Nx
def tDcT (wi : TI) (g : TG) (tk tv : TE) (vs : List Nat) : TE := fun σ H Q => wi σ H fun J H1 => ∀ dd, H1 dd = none → ∃ W : Nat → Nat → Hp → Prop, (∃ m, W 0 m (upd H1 dd (.dT []))) ∧ ∀ i m H, W i m H →
  (J.stop i H ∧ Q (.ref dd) H) ∨ (J.go i H ∧ ∃ Nx : Hp → Prop, (∀ H', Nx H' → ∃ m', m' < m ∧ W (i + 1) m' H') ∧ GoT g tk tv vs σ dd J i H Nx)
/-- the block's context -/
abbrev bx (X : Cx) (s : Shared) (H : Hp) (scope : Scope) (fp : List Addr) : Cx := X.blk s H scope (compEnvC scope (cellsFrom (s.heap.objs.size + 1) scope.names (cloFrom X.env.cells scope.names [])) s.heap.objs.size X.env) fp
theorem bx_locals {s : Shared} {H : Hp} {scope : Scope} {fp : List Addr} : (bx X s H scope fp).env.locals = s.heap.objs.size := rfl
theorem pe_dcT {kx vx tg iter : Expr} {scope : Scope} {own : List (Str × Nat)} {pos : Pos} {wi : TI} {g : TG} {tk tv : TE} (room : X.A.units + 1 < cLine) (calm : X.calm = true) (nd : X.N.Nodup) (hi : PI X tg iter wi) (ok : BlkOk X.N X.env.scope scope own)
    (hg : ∀ (s : Shared) (H : Hp) (C : Addr) (cl : List (Str × Addr)) (fp : List Addr), PG (X.blk s H scope (compEnvC scope cl C X.env) fp) tg g)
    (hk : ∀ (s : Shared) (H : Hp) (C : Addr) (cl : List (Str × Addr)) (fp : List Addr), PE (X.blk s H scope (compEnvC scope cl C X.env) fp) kx tk)
    (hv : ∀ (s : Shared) (H : Hp) (C : Addr) (cl : List (Str × Addr)) (fp : List Addr), PE (X.blk s H scope (compEnvC scope cl C X.env) fp) vx tv) (hs : ∀ x, foldedSetIterable iter X.env x = pure x := by intro _; rfl) :
    PE X (.DictComp kx vx [⟨tg, iter, [], 0⟩] scope pos) (tDcT wi g tk tv (own.map (·.2))) := by
  refine ⟨fun ps s σ H Q inv h => ?_⟩
  rw [arm_eval_DictComp]
  have clo : ∀ y ∈ scope.names, y.2 = .free → ∃ c, X.env.cells.lookup y.1 = some c := fun y m e => (ok.free y m e).elim (fun k => inv.ok.has _ (.inl k)) fun k => inv.ok.has _ (.inr k)
  refine wpAny_comprehension_free (use := none) rfl hs (closure_ok clo) ok.kind (fun y m e => by rw [ok.uniq y m, e]) (thn (hi.run ps s σ H _ inv h) fun _ sa ha => thn ha fun _ sb hb => ?_)
  obtain ⟨it, fp, tn, J, Hb, rfl, invb, T, tnb, fpb, q⟩ := hb
  refine wpAny_newObj_type (newEnv_comp ?_)
  obtain ⟨dd, edd⟩ : ∃ dd, sb.heap.objs.size = dd := ⟨_, rfl⟩
  have free : Hb dd = none := invb.hok.fresh (Nat.le_of_eq edd)
  obtain ⟨W, ⟨m0, start⟩, turn⟩ := q dd free
  obtain ⟨sc, esc⟩ : ∃ sc : Shared, ({ sb with heap := sb.heap.push { cls := .type "dict", data := .dict #[] } } : Shared) = sc := ⟨_, rfl⟩
  have hsc : sc.heap = sb.heap.push { cls := .type "dict", data := .dict #[] } := by rw [← esc]
  have invc : Inv X ps σ (upd Hb dd (.dT [])) sc := by
    rw [← esc]
    exact invb.laid (t' := sb.toks) (fun _ _ e => Heap.get?_push_of_some _ e) (Nat.le_of_eq edd) (by rw [← edd]; exact dt_empty sb.heap invb.big)
  have below : ∀ b ∈ fp, b < sb.heap.objs.size := fun b m => let ⟨_, e, _⟩ := T.obj _ _ tnb b m; Heap.lt_size e
  have fpc : ∀ b ∈ fp, FpOk X ps (upd Hb dd (.dT [])) b ∧ b < sc.heap.objs.size := fun b m => by
    refine ⟨⟨?_, (fpb b m).2⟩, by rw [hsc, Heap.size_push]; exact Nat.lt_succ_of_lt (below b m)⟩
    rw [upd_ne (by rw [← edd]; exact Nat.ne_of_lt (below b m))]
    exact (fpb b m).1
  have tnc : tn 0 sc.heap := T.keep _ _ _ tnb fun b _ o e => by rw [hsc]; exact Heap.get?_push_of_some _ e
  have invd := block_start invc ok nd fpc
  obtain ⟨Hc, eHc⟩ : ∃ Hc, upd Hb dd (.dT []) = Hc := ⟨_, rfl⟩
  rw [eHc] at invc invd start fpc
  have gB := hg sc Hc sc.heap.objs.size (cellsFrom (sc.heap.objs.size + 1) scope.names (cloFrom X.env.cells scope.names [])) fp
  have kB := hk sc Hc sc.heap.objs.size (cellsFrom (sc.heap.objs.size + 1) scope.names (cloFrom X.env.cells scope.names [])) fp
  have vB := hv sc Hc sc.heap.objs.size (cellsFrom (sc.heap.objs.size + 1) scope.names (cloFrom X.env.cells scope.names [])) fp
  show codeAny _ _ (.compStart (.DictComp kx vx [⟨tg, iter, [], 0⟩] scope pos) 0 (.ref it) (.ref sb.heap.objs.size) _) _ _
  rw [esc, edd]
  obtain ⟨sd, esd⟩ : ∃ sd : Shared, ({ sc with heap := pushCells (sc.heap.push { cls := .type "dict", data := .dict #[] }) scope.names } : Shared) = sd := ⟨_, rfl⟩
  rw [esd] at invd
  have tnd : tn 0 sd.heap := T.keep _ _ _ tnc fun b _ o e => by rw [← esd]; exact pushCells_keeps _ _ _ _ (Heap.get?_push_of_some _ e)
  have apart : ∀ {τ : L2.St} {H' : Hp} {s' : Shared}, Inv (bx X sc Hc scope fp) [] τ H' s' → (∀ b ∈ fp, H' b = none) → ∀ b ∈ fp, FpOk (bx X sc Hc scope fp) [] H' b := fun {τ H' s'} v n b m =>
    ⟨n b m, (v.ok.exf b m).1, v.ok.exfs b m, .inl m, fun x c e => (v.ok.exf b m).2 x c e, fun p hp => absurd (show p ∈ ([] : List (Addr × Obj)) ++ [] from hp) (by simp)⟩
  have whole : codeAny (model X.prog X.w) X.A (.compLoop (.DictComp kx vx [⟨tg, iter, [], 0⟩] scope pos) 0 (.ref it) (.ref dd) (bx X sc Hc scope fp).env) (compPost (model X.prog X.w) X.A X.xe none (EP X ps σ Q) (.ref dd) sc.heap.objs.size) sd := by
    refine compLoop_anyD (fun n t => ∃ i H', Inv (bx X sc Hc scope fp) [] (wipe σ (own.map (·.2))) H' t ∧ tn i t.heap ∧ (∀ b ∈ fp, H' b = none) ∧ W i n H') ?_ m0 ⟨0, Hc, invd, tnd, fun b m => (fpc b m).1.1, start⟩
    rintro n t ⟨i, Ht, invt, tnt, nt, wt⟩
    rcases turn i n Ht wt with ⟨stop, fin⟩ | ⟨go, Nx, less, step⟩
    · refine thnF (T.done (bx X sc Hc scope fp) rfl rfl rfl calm i [] t _ Ht (fun _ _ => False) invt (apart invt nt) tnt stop) fun r t1 ⟨er, inv1⟩ => ?_
      subst er
      have back : Inv X ps σ Ht t1 := invc.call' (ch := fp) inv1.os inv1.base inv1.hok inv1.bare fun b m => ⟨(fpc b m).1.2.2.2.1, (fpc b m).1.2.1, (fpc b m).1.2.2.2.2.1, (fpc b m).1.2.2.2.2.2⟩
      have own0 : Ht sc.heap.objs.size = none := inv1.free
      obtain ⟨f0, f1, f2, f3, f4, f5⟩ := invc.fpOk (Nat.le_refl _) own0
      obtain ⟨ns, hns, _⟩ := inv1.loc
      exact ⟨ns, hns, fun h2 but => ⟨.ref dd, Ht, back.turned (t' := t1.toks) (fun b o ne e => (but.2 b ne).trans e) f0 f1 f3 f4 f5, rfl, fin⟩⟩
    · refine thnF (T.item (bx X sc Hc scope fp) rfl rfl rfl calm i [] t _ Ht (fun _ _ => False) invt (apart invt nt) tnt go) fun r t1 ⟨u, er, h1⟩ => ?_
      subst er
      refine thnF h1 fun _ t2 ⟨x, H2, inv2, rx, yx, tn2, n2⟩ => ?_
      refine thnF (gB.run _ t2 _ H2 x u _ (inv2.pinned (apart inv2 n2) (T.obj _ _ tn2)) rx (step x H2 yx)) fun _ t3 ⟨σ3, H3, inv3, hw, q3⟩ => ?_
      have pt : PTs (X.blk sc Hc scope (compEnvC scope (cellsFrom (sc.heap.objs.size + 1) scope.names (cloFrom X.env.cells scope.names [])) sc.heap.objs.size X.env) fp) [] tYes := pts_nil
      refine thnF (pt.run _ t3 σ3 H3 (fun b H4 => b = true ∧ H4 = H3) inv3 ?_) fun b t4 ⟨H4, inv4, eb, eH⟩ => ?_
      · exact ⟨rfl, rfl⟩
      subst eb eH
      rw [if_pos rfl]
      refine thnF (kB.run _ t4 σ3 H4 _ inv4 q3) fun ku t5 ⟨yk, H5, inv5, rk, q5⟩ => thnF (vB.run _ t5 σ3 H5 _ inv5 q5) fun vu t6 ⟨yv, H6, inv6, rv, sto⟩ => ?_
      refine thnF (sto_run (X := bx X sc Hc scope fp) room inv6 sto rk rv) fun _ t7 ⟨H7, inv7, nx⟩ => ?_
      obtain ⟨m', lt, w'⟩ := less H7 nx
      have stay : ∀ b ∈ fp, ∀ o, t2.heap.get? b = some o → t7.heap.get? b = some o ∧ H7 b = none := fun b m o e =>
        let z := inv7.pin (b, o) (List.mem_append_right _ (List.mem_append_right _ (mem_pinsAt m e)))
        ⟨z.1, z.2.1⟩
      have hl : (wipe σ (own.map (·.2))).length = σ3.length := by rw [← hw, wipe_length]
      refine ⟨m', lt, i + 1, H7, (inv7.unpinned (pins := [])).weak hl (fun j v e => by rw [← hw] at e; exact (wipe_some e).1), T.keep _ _ _ tn2 fun b m o e => (stay b m o e).1, fun b m => ?_, w'⟩
      obtain ⟨o, e, _⟩ := T.obj _ _ tn2 b m
      exact (stay b m o e).2
  have done := codeAny_compStart_dict whole (T.self X.A 0 _ _ _ tnd whole)
  rw [← esd] at done
  exact done
end
end DL
set_option maxHeartbeats 1000000
namespace DL
open PySem PySem.Spec PyProof.Rows L2 SO
theorem keysV {K : PySem.W.Frag} {G : Hp} : ∀ {k : List Key} {vs : List V}, Dts K G vs (k.map kD) → vs = k.map kV
  | [], vs, t => by cases t; rfl
  | x :: xs, vs, t => by
    cases t with
    | cons t1 t2 =>
      rw [keysV t2, List.map_cons]
      congr 1
      cases x <;> cases t1 <;> rfl
theorem dts_kV {K : PySem.W.Frag} {G : Hp} : ∀ k : List Key, Dts K G (k.map kV) (k.map kD)
  | [] => .nil
  | x :: xs => .cons (dt_kV x) (dts_kV xs)
theorem tup_at {K : PySem.W.Frag} {G : Hp} {v : V} {k : List Key} (hk : k ≠ []) (t : Dt K G v (kT k)) : ∃ b, v = .ref b ∧ G b = some (.tup (k.map kV)) := by
  unfold kT at t
  cases t with
  | tup h s =>
    have e := keysV s
    subst e
    rcases h with h | ⟨h, _⟩
    · exact ⟨_, rfl, h⟩
    · exact absurd (List.map_eq_nil_iff.mp h) hk
/-! ### dict comprehensions with tuple keys, at the level of data -/
theorem imm_dTn (kvs : List (List Key × V)) : ¬ Imm (.dT kvs) := imm_dT
section
variable {X : Cx} {M : Mu} {ds : DS} {tg iter : Expr} {pos : Pos}
theorem dcT_D {K : PySem.W.Frag} {α : Type} {J : It} {G1 H1 : Hp} {xs : List α} {F : α → D} {kf : α → List Key} {vf : α → D} {σ : L2.St} {g : TG} {tk tv : TE} {own is : List Nat} {dd : Addr} {Qd : Hp → Prop} {u : D → DS → DS}
    (wk : Wk M K J G1 (xs.map F)) (ok1 : Ok M G1 H1) (sl : Sl K G1 σ ds) (hD : H1 dd = none) (tgt : ∀ x, x ∈ xs → TgOk K g is (F x) (u (F x))) (his : ∀ i ∈ is, i ∈ own)
    (bk : ∀ x, x ∈ xs → ∀ σ H Q, tD M K (u (F x) (wipeD ds own)) (Is (kT (kf x))) σ H Q → tk σ H Q) (bv : ∀ x, x ∈ xs → ∀ σ H Q, tD M K (u (F x) (wipeD ds own)) (Is (vf x)) σ H Q → tv σ H Q) (k0 : ∀ x ∈ xs, kf x ≠ []) (nd : (xs.map kf).Nodup) (hsz : xs.length ≤ sizeLine)
    (fin : ∀ G2 H2, Gr M G1 H1 G2 H2 → Dt K G2 (.ref dd) (.dt (xs.map fun x => (kf x, vf x))) → Qd H2) :
    ∃ W : Nat → Nat → Hp → Prop, (∃ m, W 0 m (upd H1 dd (.dT []))) ∧ ∀ i m H, W i m H →
      (J.stop i H ∧ Qd H) ∨ (J.go i H ∧ ∃ Nx : Hp → Prop, (∀ H', Nx H' → ∃ m', m' < m ∧ W (i + 1) m' H') ∧ GoT g tk tv own σ dd J i H Nx) := by
  have nb := ok1.nbag hD
  have nt : ∀ (kvs : List (List Key × V)) (ps : Array Value), HO.dT kvs ≠ .tbl ps := fun _ _ z => by cases z
  have nc : ∀ (kvs : List (List Key × V)) (pos : Addr) (cv : Str), HO.dT kvs ≠ LamX.CodeO pos cv := fun _ _ _ z => by unfold LamX.CodeO at z; cases z
  have len : (xs.map F).length = xs.length := List.length_map _
  refine ⟨fun i m H => m = xs.length - i ∧ i ≤ xs.length ∧ ∃ kvs G', H dd = some (.dT kvs) ∧ G' dd = none ∧ Gr M G1 H1 G' H ∧ kvs.map (·.1) = (xs.take i).map kf ∧ Dts K G' (kvs.map (·.2)) ((xs.take i).map vf),
    ⟨xs.length, rfl, Nat.zero_le _, [], G1, upd_same, ok1.sub.free hD, Gr.drop ok1 hD (nt _), rfl, .nil⟩, ?_⟩
  rintro i m H ⟨rfl, le, kvs, G', hH, hG, g1, ek, t1⟩
  rcases Nat.lt_or_ge i xs.length with lt | ge
  · refine .inr ⟨wk.go i G' H g1.ex g1.ok (by rw [len]; exact lt), fun H' => ∃ kvs G', H' dd = some (.dT kvs) ∧ G' dd = none ∧ Gr M G1 H1 G' H' ∧ kvs.map (·.1) = (xs.take (i + 1)).map kf ∧ Dts K G' (kvs.map (·.2)) ((xs.take (i + 1)).map vf),
      fun H' n => ⟨xs.length - (i + 1), by omega, rfl, lt, n⟩, fun x H' y => ?_⟩
    have at_i : xs[i]? = some xs[i] := List.getElem?_eq_getElem lt
    have mem_i : xs[i] ∈ xs := List.getElem_mem lt
    obtain ⟨G2, g2, tx⟩ := wk.yld i (F xs[i]) G' H x H' (by rw [List.getElem?_map, at_i]; rfl) g1.ex g1.ok y
    have k2 := g2.keepD hG hH imm_dT nb
    have g12 := g1.trans ok1 g2
    refine tgt _ mem_i G2 (wipe σ own) H' x _ (wipeD ds own) ((sl.mono g12.ex).wipe own) g2.ok.sub tx fun σ2 s2 hw => ⟨?_, ?_⟩
    · rw [hw own his]
      refine List.ext_getElem? fun j => ?_
      rw [wipe_at, wipe_at, wipe_length]
      by_cases c : j ∈ own ∧ j < σ.length
      · rw [if_pos c, if_pos c]
      · rw [if_neg c, if_neg c]
    · refine bk _ mem_i σ2 H' _ ⟨G2, s2, g2.ok, fun dk vk G3 H3 ed3 g3 t3 => bv _ mem_i σ2 H3 _ ⟨G3, s2.mono g3.ex, g3.ok, fun dv vv G4 H4 ed4 g4 t4 => ?_⟩⟩
      have k3 := g3.keepD k2.1 k2.2 imm_dT nb
      have k4 := g4.keepD k3.1 k3.2 imm_dT nb
      have g14 := (g12.trans ok1 g3).trans ok1 g4
      rw [show dk = _ from ed3] at t3
      obtain ⟨b, eb, hb⟩ := tup_at (k0 _ mem_i) t3
      have takes : xs.take (i + 1) = xs.take i ++ [xs[i]] := by rw [List.take_succ, at_i]; rfl
      have fresh : valV kvs (kf xs[i]) = none := by
        cases q : valV kvs (kf xs[i]) with
        | none => rfl
        | some w =>
          have hm := valV_in q
          rw [ek] at hm
          obtain ⟨z, hz, ez⟩ := List.mem_map.mp hm
          obtain ⟨j, hj, e⟩ := List.mem_iff_getElem.mp hz
          rw [List.length_take] at hj
          rw [List.getElem_take] at e
          have same : (xs.map kf)[j]'(by rw [List.length_map]; omega) = (xs.map kf)[i]'(by rw [List.length_map]; exact lt) := by
            rw [List.getElem_map, List.getElem_map, e, ez]
          have := (List.getElem_inj nd).mp same
          omega
      have hkl : kvs.length = i := by
        have := congrArg List.length ek
        rw [List.length_map, List.length_map, List.length_take] at this
        omega
      refine ⟨kvs, kf xs[i], b, eb, g4.ok.sub _ _ (g4.ex _ _ hb), k4.2, by omega, kvs ++ [(kf xs[i], vv)], G4, ?_, k4.1, ?_, ?_, ?_⟩
      · rw [putK_new _ fresh]; exact upd_same
      · exact g14.poke ok1 hD k4.1 k4.2 (nt _) (nc _)
      · rw [List.map_append, ek, takes, List.map_append]; rfl
      · rw [List.map_append, takes, List.map_append]
        rw [show dv = _ from ed4] at t4
        exact (((t1.mono g2.ex).mono g3.ex).mono g4.ex).append (.cons t4 .nil)
  · have e : i = xs.length := by omega
    subst e
    have ex : Same G' (upd G' dd (.dT kvs)) := fun a x e => by rw [upd_ne (ne_of_none e hG)]; exact e
    rw [List.take_length] at ek t1
    refine .inl ⟨by rw [← len]; exact wk.stop G' H g1.ex g1.ok, fin _ H (g1.know ok1 hD hG hH (nt _)) (.dt (.inl upd_same) ?_ ?_)⟩
    · rw [List.map_map]; exact ek
    · rw [List.map_map]; exact t1.mono ex
/-- {kx: vx for tg in iter}, the keys tuples -/
theorem d_dcT {α : Type} {F vf : α → D} {kf : α → List Key} {xs : List α} {kx vx : Expr} {scope : Scope} {own : List (Str × Nat)} {is : List Nat} {g : TG} {u : D → DS → DS} (room : X.A.units + 1 < cLine) (hc : X.calm = true) (hN : X.N.Nodup) (hi : DI X M tg iter ds (Is (xs.map F))) (ok : BlkOk X.N X.env.scope scope own)
    (hg : ∀ (s : Shared) (H : Hp) (C : Addr) (cl : List (Str × Addr)) (fp : List Addr), PG (X.blk s H scope (compEnvC scope cl C X.env) fp) tg g)
    (tgt : ∀ x ∈ xs, TgOk X.K g is (F x) (u (F x))) (his : ∀ i ∈ is, i ∈ own.map (·.2))
    (hk : ∀ (s : Shared) (H : Hp) (C : Addr) (cl : List (Str × Addr)) (fp : List Addr) (x : α), x ∈ xs → DV (X.blk s H scope (compEnvC scope cl C X.env) fp) M kx (u (F x) (wipeD ds (own.map (·.2)))) (kT (kf x)))
    (he : ∀ (s : Shared) (H : Hp) (C : Addr) (cl : List (Str × Addr)) (fp : List Addr) (x : α), x ∈ xs → DV (X.blk s H scope (compEnvC scope cl C X.env) fp) M vx (u (F x) (wipeD ds (own.map (·.2)))) (vf x))
    (k0 : ∀ x ∈ xs, kf x ≠ []) (nd : (xs.map kf).Nodup) (hz : xs.length ≤ sizeLine) (hs : ∀ x, foldedSetIterable iter X.env x = pure x := by intro _; rfl) :
    DV X M (.DictComp kx vx [⟨tg, iter, [], 0⟩] scope pos) ds (.dt (xs.map fun x => (kf x, vf x))) :=
  PE.imp (pe_dcT (tk := fun σ H Q => ∃ x, x ∈ xs ∧ tD M X.K (u (F x) (wipeD ds (own.map (·.2)))) (Is (kT (kf x))) σ H Q) (tv := fun σ H Q => ∃ x, x ∈ xs ∧ tD M X.K (u (F x) (wipeD ds (own.map (·.2)))) (Is (vf x)) σ H Q) room hc hN hi ok hg
    (fun s H C cl fp => PE.ex fun x hx => hk s H C cl fp x hx) (fun s H C cl fp => PE.ex fun x hx => he s H C cl fp x hx) hs) fun σ H Q ⟨G, s, ok0, q⟩ => ⟨G, s, ok0, fun J els G1 H1 re g1 wk dd hD => by
    rw [show els = _ from re] at wk
    exact dcT_D (u := u) (kf := kf) (vf := vf) (tk := fun σ H Q => ∃ x, x ∈ xs ∧ tD M X.K (u (F x) (wipeD ds (own.map (·.2)))) (Is (kT (kf x))) σ H Q) (tv := fun σ H Q => ∃ x, x ∈ xs ∧ tD M X.K (u (F x) (wipeD ds (own.map (·.2)))) (Is (vf x)) σ H Q) wk g1.ok (s.mono g1.ex) hD tgt his (fun x hx σ H Q z => ⟨x, hx, z⟩) (fun x hx σ H Q z => ⟨x, hx, z⟩) k0 nd hz fun G2 H2 g2 t2 => q _ _ G2 H2 rfl (g1.trans ok0 g2) t2⟩
end
/-! ### for k, v in d.items(), the keys tuples -/
def ItiT (d : Addr) (o : Obj) (kvs : List (List Key × V)) : It :=
  ⟨fun i H => H d = some (.frz o (.dT kvs)) ∧ i < kvs.length, fun i H x H' => ∃ T q k v, kvs[i]? = some (k, v) ∧ x = .ref T ∧ H q = some (.tup (k.map kV)) ∧ H T = none ∧ H' = upd H T (.tup [.ref q, v]), fun i H => H d = some (.frz o (.dT kvs)) ∧ kvs.length ≤ i⟩
theorem frz_ent {X : Cx} {ps : List (Addr × Obj)} {σ : L2.St} {H : Hp} {s : Shared} {d : Addr} {o : Obj} {kvs : List (List Key × V)} (inv : Inv X ps σ H s) (h : H d = some (.frz o (.dT kvs))) :
    (d == sysModules) = false ∧ ∃ (es : Array DictEntry) (ep : Nat), s.heap.DictRaw d es ep ∧ o.data = .dict es ep ∧ es.size = kvs.length ∧
      ∀ (i : Nat) (k : List Key) (v : V), kvs[i]? = some (k, v) → ∃ (hi : i < es.size) (q : Addr), es[i].key = .ref q ∧ H q = some (.tup (k.map kV)) ∧ RelV v es[i].val := by
  obtain ⟨hd, z, hs, xs, pr, o', es, ep, ho, hx, hdt, he, _⟩ := inv.hok d _ h
  rw [hd] at ho
  cases ho
  have l1 : es.size = xs.length := size_of_entries he
  have l2 : kvs.length = xs.length := Paired.length pr
  refine ⟨hs, es, ep, ⟨o, hd, hx, hdt⟩, hdt, by omega, fun i k v e => ?_⟩
  obtain ⟨b, hb, e1, e2, e3⟩ := paired_get pr e
  have q := entry_at he i
  rw [hb] at q
  have hi : i < es.size := by
    have := (List.getElem?_eq_some_iff.mp e).1
    omega
  have q2 : es[i]? = some es[i] := Array.getElem?_eq_getElem hi
  rw [q2] at q
  refine ⟨hi, b.2.1, ?_, e2, ?_⟩
  · rw [Option.some.inj q]; rfl
  · rw [Option.some.inj q]; exact e3
theorem turn_itT {P : Program} {w : World} {K : PySem.W.Frag} {elts : List Expr} {kk : Nat} {tpos : Pos} {d : Addr} {o : Obj} {kvs : List (List Key × V)} {ep : Nat} {es : Array DictEntry} (it : Addr) (hod : o.data = .dict es ep) (hsz : es.size = kvs.length) :
    Turn P w K (.Tuple elts kk tpos) (ItiT d o kvs) [it] it (fun i h => ∃ a b, PySem.IsItemIter h it d i es.size ep a b) where
  mem := List.mem_cons_self
  obj := fun i h ⟨a, b, e⟩ c m => by
    have q : c = it := by simpa using m
    subst q
    exact ⟨_, e, fun v z => nomatch z⟩
  keep := fun i h h' ⟨a, b, e⟩ k => ⟨a, b, k it List.mem_cons_self _ e⟩
  item := by
    intro X e1 e2 e3 calm i ps s σ H E inv fp ⟨a, b, st⟩ ⟨hd, lt⟩
    subst e1 e2 e3
    obtain ⟨_, es', ep', raw, dat, _, ent⟩ := frz_ent inv hd
    obtain ⟨rfl, rfl⟩ := dict_ep hod dat
    obtain ⟨⟨k, v⟩, at_i⟩ : ∃ p, kvs[i]? = some p := ⟨_, List.getElem?_eq_getElem lt⟩
    obtain ⟨hi, q, ek, hq, rv⟩ := ent i k v at_i
    have old : it < s.heap.objs.size := Heap.lt_size st
    refine PySem.wpAny_pyNext_items_item_raw st raw hi fun h' out made _ kept => ⟨_, rfl, wpAny_letOwnedTupleGo_items (s := { s with heap := h' }) out fun h2 st2 but => ?_⟩
    have made2 : h2.get? s.heap.objs.size = some { cls := .type "tuple", data := .seq #[es'[i].key, es'[i].val] } := (but.2 _ (Nat.ne_of_gt old)).trans made
    have obj : ObjOk X.prog X.w (upd H s.heap.objs.size (.tup [.ref q, v])) h2 s.heap.objs.size (.tup [.ref q, v]) :=
      ⟨show 2 ≤ sizeLine by decide, [es'[i].key, es'[i].val], .cons ek (.cons rv .nil), _, made2, rfl, _, rfl⟩
    have inv2 : Inv X ps σ (upd H s.heap.objs.size (.tup [.ref q, v])) { s with heap := h2 } :=
      inv.turnedNew (t' := s.toks) (ch := [it]) (fun c ob nc e => (but.2 c (by simpa using nc)).trans (kept c ob (by simpa using nc) e)) fp (Nat.le_refl _) obj
    refine ⟨.ref s.heap.objs.size, _, inv2, rfl, ⟨_, q, k, v, at_i, rfl, hq, inv.hok.fresh (Nat.le_refl _), rfl⟩, ⟨_, _, st2⟩, fun c m => ?_⟩
    have e : c = it := by simpa using m
    rw [e, upd_ne (Nat.ne_of_lt old)]
    exact (fp it List.mem_cons_self).1
  done := by
    intro X e1 e2 e3 calm i ps s σ H E inv fp ⟨a, b, st⟩ ⟨hd, ge⟩
    subst e1 e2 e3
    obtain ⟨f0, f1, f2, f3, f4, f5⟩ := fp it List.mem_cons_self
    obtain ⟨_, es', ep', raw, dat, sz, _⟩ := frz_ent inv hd
    obtain ⟨rfl, rfl⟩ := dict_ep hod dat
    exact PySem.wpAny_pyNext_items_end_raw (inv.ok.hd calm) st raw (by omega) fun h' eb => ⟨rfl, inv.turned (t' := s.toks) (fun c ob nc e => eb c ob nc e) f0 f1 f3 f4 f5⟩
  self := fun A i s Q E ⟨_, _, e⟩ h => PySem.W.kcp_self e h
def iItT (td : TE) : TI := fun σ H R => td σ H fun x H1 => ∃ d o kvs, x = .ref d ∧ H1 d = some (.frz o (.dT kvs)) ∧ R (ItiT d o kvs) H1
theorem pi_itT {X : Cx} {e : Expr} {td : TE} {apos cpos tpos : Pos} {elts : List Expr} {kk : Nat} (he : PE X e td) (hbase : attributeBase e "items" X.env (eval e X.env) = eval e X.env) (hline : (apos.endLine == cpos.line) = true) :
    PI X (.Tuple elts kk tpos) (.Call (.Attribute e "items" apos) [] [] cpos) (iItT td) := by
  refine ⟨fun ps s σ H R inv h => ?_⟩
  refine wpAny_Call_method (T := "dict") (id := "dict.items") hbase rfl hline F.plainAttrs_dict F.slot_dict_items F.type_dict_items (thn (he.run ps s σ H _ inv h) fun u s1 ⟨x, H1, inv1, rx, d, o, kvs, ex, hd, q⟩ => ?_)
  subst ex
  cases (show u = Value.ref d from rx)
  obtain ⟨hs, es, ep, raw, dat, sz, _⟩ := frz_ent inv1 hd
  obtain ⟨ob, hob, hcl, _⟩ := id raw
  refine ⟨raw.typeIs, fun b z => by cases z; exact ⟨ob, hob, hcl.2.1⟩, ?_⟩
  have inv2 : Inv X ps σ H1 { s1 with heap := s1.heap.push { cls := .type "dict_items", data := .fields #[.ref d] } } := inv1.kept (t' := s1.toks) fun b c z => Heap.get?_push_of_some _ z
  show wpAny _ _ (callWith cpos (.builtin "dict.items") [.ref d] [] []) _ X.xe s1
  refine method_meetsIn F.slot_dict_items F.entry_dict_items rfl (PySem.evalArgs_none ⟨rfl, raw.typeIs, F.args_dict_items_1 _, _, DT.meetsItems (es := es) (ep := ep) hs, raw, ?_⟩)
  exact PySem.wpAny_pyIter_items_raw (v := s1.heap.objs.size) ⟨_, Heap.get?_push_size _ rfl, rfl, rfl⟩ (raw.at fun c z => Heap.get?_push_of_some _ z) (pi_one (tk := s1.toks) inv2 _ (turn_itT _ dat sz) ⟨.none, .none, Heap.get?_push_size _ rfl⟩ q)
section
variable {M : Mu} {K : PySem.W.Frag} {G1 : Hp} {d : Addr} {o : Obj}
theorem wk_itT {kvs : List (List Key × V)} {ds : List (List Key × D)} (h : G1 d = some (.frz o (.dT kvs))) (hk : kvs.map (·.1) = ds.map (·.1)) (t : Dts K G1 (kvs.map (·.2)) (ds.map (·.2))) : Wk M K (ItiT d o kvs) G1 (ds.map fun p => .tup [kT p.1, p.2]) := by
  have len : kvs.length = ds.length := by
    have e := congrArg List.length hk
    rwa [List.length_map, List.length_map] at e
  refine ⟨fun i G' H' ss ok hi => ⟨ok.sub _ _ (ss _ _ h), by rw [List.length_map] at hi; omega⟩, fun G' H' ss ok => ⟨ok.sub _ _ (ss _ _ h), by rw [List.length_map]; omega⟩, fun i p G' H' x H'' hd ss ok y => ?_⟩
  obtain ⟨T, q, k, v, hi, rfl, hq, hT, rfl⟩ := y
  rw [List.getElem?_map] at hd
  cases e : ds[i]? with
  | none => rw [e] at hd; cases hd
  | some r =>
    rw [e] at hd
    cases hd
    obtain ⟨v', hv', td⟩ := t.get (i := i) (d := r.2) (by rw [List.getElem?_map, e]; rfl)
    rw [List.getElem?_map, hi] at hv'
    cases hv'
    have hk' : k = r.1 := by
      have e2 := congrArg (fun l => l[i]?) hk
      simp only [List.getElem?_map, hi, e, Option.map_some, Option.some.injEq] at e2
      exact e2
    subst hk'
    have g0 := Gr.tups ok
    have kq := knowT_tup ok.sub hq
    have g := Gr.new (o := .tup [.ref q, v]) g0.ok hT (fun ps z => by cases z)
    have tk : Dt K (upd (knowT G' H') T (.tup [.ref q, v])) (.ref q) (kT r.1) := (Dt.tup (.inl kq) (dts_kV r.1)).mono g.ex
    exact ⟨_, g0.trans ok g, .tup (.inl upd_same) (.cons tk (.cons (((td.mono ss).mono g0.ex).mono g.ex) .nil))⟩
end
section
variable {X : Cx} {M : Mu} {ds : DS} {e a tg : Expr} {pos : Pos}
theorem di_itT {elts : List Expr} {kk : Nat} {tpos apos cpos : Pos} {kvs : List (List Key × D)} (h : DV X M e ds (.dt kvs))
    (hbase : attributeBase e "items" X.env (eval e X.env) = eval e X.env := by rfl) (hline : (apos.endLine == cpos.line) = true := by rfl) :
    DIF X M (.Tuple elts kk tpos) (.Call (.Attribute e "items" apos) [] [] cpos) ds (Is (kvs.map (fun p => .tup [kT p.1, p.2]))) :=
  PI.imp (pi_itT (pe_frz h) hbase hline) fun σ H R ⟨G, s, ok, k⟩ => ⟨G, s, ok, fun d v G1 H1 e1 g t => by
    rw [show d = _ from e1] at t
    cases t with
    | dt h1 hk t1 =>
      rcases h1 with h1 | ⟨o', h1⟩
      · refine .inl ⟨_, _, rfl, g.ok.sub _ _ h1, trivial, fun o hf => ⟨_, o, _, rfl, upd_same, ?_⟩⟩
        have rr := rr_frz (K := X.K) (o := o) h1 (.inr ⟨_, rfl⟩)
        exact (k _ _ G1 H1 rfl g).2 _ _ o h1 (.inr ⟨_, rfl⟩) hf (wk_itT upd_same hk (t1.rr rr))
      · exact .inr ⟨_, o', _, rfl, g.ok.sub _ _ h1, (k _ _ G1 H1 rfl g).1 (wk_itT h1 hk t1)⟩⟩
end
end DL
set_option maxHeartbeats 1000000
namespace DL
open PySem PySem.Spec PyProof.Rows L2 SO
/-! ### what does not hang on instances -/
def del (G : Hp) (p : Addr) : Hp := fun a => if a = p then none else G a
theorem del_ne {G : Hp} {p a : Addr} (h : a ≠ p) : del G p a = G a := if_neg h
theorem del_same {G : Hp} {p : Addr} : del G p p = none := if_pos rfl
def NoOb (K : PySem.W.Frag) (d : D) : Prop := ∀ (G : Hp) (p C dx : Addr) (fs : List (Str × V)) (v : V), G p = some (.ins C dx fs) → Dt K G v d → Dt K (del G p) v d
def NoObs (K : PySem.W.Frag) (l : List D) : Prop := ∀ (G : Hp) (p C dx : Addr) (fs : List (Str × V)) (vs : List V), G p = some (.ins C dx fs) → Dts K G vs l → Dts K (del G p) vs l
section
variable {K : PySem.W.Frag} {G : Hp} {p C dx : Addr} {fs : List (Str × V)}
theorem del_keep {a : Addr} {o : HO} (h : G p = some (.ins C dx fs)) (ho : ∀ C dx fs, o ≠ .ins C dx fs) (e : G a = some o) : del G p a = some o := by
  rw [del_ne]; exact e
  rintro rfl
  rw [h] at e
  exact ho _ _ _ (Option.some.inj e).symm
theorem noob_str {z : Str} : NoOb K (.str z) := fun _ _ _ _ _ _ _ t => by cases t; exact .str _
theorem noob_int {z : Int} : NoOb K (.int z) := fun _ _ _ _ _ _ _ t => by cases t; exact .int _
theorem noob_bl {z : Bool} : NoOb K (.bl z) := fun _ _ _ _ _ _ _ t => by cases t; exact .bl _
theorem noob_nil : NoObs K [] := fun _ _ _ _ _ _ _ t => by cases t; exact .nil
theorem noob_cons {d : D} {l : List D} (h1 : NoOb K d) (h2 : NoObs K l) : NoObs K (d :: l) := fun _ _ _ _ _ _ e t => by
  cases t with
  | cons t1 t2 => exact .cons (h1 _ _ _ _ _ _ e t1) (h2 _ _ _ _ _ _ e t2)
theorem noob_map {α : Type} {f : α → D} (h : ∀ x, NoOb K (f x)) : ∀ xs : List α, NoObs K (xs.map f)
  | [] => noob_nil
  | x :: xs => noob_cons (h x) (noob_map h xs)
theorem noob_tup {l : List D} (h : NoObs K l) : NoOb K (.tup l) := fun _ _ _ _ _ _ e t => by
  cases t with
  | tup h1 s1 =>
    refine .tup ?_ (h _ _ _ _ _ _ e s1)
    rcases h1 with h1 | ⟨r, (h1 | ⟨o, h1⟩) | h1⟩
    · exact .inl (del_keep e (fun _ _ _ z => by cases z) h1)
    · exact .inr ⟨r, .inl (.inl (del_keep e (fun _ _ _ z => by cases z) h1))⟩
    · exact .inr ⟨r, .inl (.inr ⟨o, del_keep e (fun _ _ _ z => by cases z) h1⟩)⟩
    · exact .inr ⟨r, .inr h1⟩
theorem noob_lst {l : List D} (h : NoObs K l) : NoOb K (.lst l) := fun _ _ _ _ _ _ e t => by
  cases t with
  | lst h1 s1 => exact .lst (del_keep e (fun _ _ _ z => by cases z) h1) (h _ _ _ _ _ _ e s1)
end
section
variable {M : Mu} {K : PySem.W.Frag} {G0 H0 G H : Hp} {p : Addr}
theorem Gr.unknow (ok0 : Ok M G0 H0) (hp : H0 p = none) (g : Gr M G0 H0 G H) : Gr M G0 H0 (del G p) H := by
  have h0 : G0 p = none := ok0.sub.free hp
  have sub : ∀ a o, del G p a = some o → G a = some o := fun a o e => by
    by_cases q : a = p
    · subst q; rw [del_same] at e; cases e
    · rwa [del_ne q] at e
  refine ⟨fun a o e => by rw [del_ne (ne_of_none e h0)]; exact g.ex a o e, ⟨fun a o e => g.ok.sub a o (sub a o e), fun b hb => ?_, g.ok.tab, fun a ps e => g.ok.ntb a ps (sub a _ e)⟩, g.fr, fun a ha => g.nw a fun z => ha ?_⟩
  · obtain ⟨h1, h2⟩ := g.ok.bag b hb
    refine ⟨?_, h2⟩
    by_cases q : b = p
    · rw [q]; exact del_same
    · rw [del_ne q]; exact h1
  · by_cases q : a = p
    · rw [q]; exact del_same
    · rw [del_ne q]; exact z
end
section
variable {X : Cx} {M : Mu} {G0 H0 : Hp} {ds : DS} {e k d b idx value : Expr} {R : D → Prop} {Rt : D → Prop} {pos cp pn pa p2 cpos : Pos} {p C0 : Addr} {i : Nat} {n : Str} {rest sts : List Stmt}
/-- self.f = e, e reading what self has so far -/
theorem dm_fldK {f : Str} {fs : List (Str × D)} (ok0 : Ok M G0 H0) (hp : H0 p = none) (hi : ds[i]? = some (some (.raw (.ref p)))) (c : Cls X.K C0) (hn : NoAttr X.K C0 f) (he : DX X M e (ds.set i (some (.ob C0 fs))) R) (hno : ∀ d, R d → NoOb X.K d) (hf : f ∉ fs.map (·.1)) (few : fs.length < 1000)
    (hN : X.N[i]? = some n := by rfl) (hv : Vis X.env.scope n := by first | exact Or.inl rfl | exact Or.inr (Or.inl rfl) | exact Or.inr (Or.inr rfl)) (h1 : (n == ("__debug__" : Str)) = false := by decide) (h2 : (n == ("__classdict__" : Str)) = false := by decide)
    (hs : swapsWith e (some (.Attribute (.Name n pn) f pa)) pos.line X.env = pure false := by rfl) :
    DM X M G0 H0 (cIns X.K p C0) (.Assign [.Attribute (.Name n pn) f pa] e pos) ds fs (fun ds' fs' => ds' = ds ∧ ∃ d, R d ∧ fs' = fs ++ [(f, d)]) Rt :=
  PS.imp (ps_fld (pe_var (i := i) hN hv h1 h2) he hs) fun Z σ H ⟨G, s, g, ⟨a1, dx, gs, a2, a3, a4⟩, nx, q⟩ => by
    have gk := g.know ok0 hp a1 a2 (fun ps z => by cases z)
    have ex : Same G (upd G p (.ins C0 dx gs)) := same_upd a1
    have at0 := raw_at s hi
    have sk : Sl X.K (upd G p (.ins C0 dx gs)) σ (ds.set i (some (.ob C0 fs))) := by
      have s2 := (s.mono ex).set i (Dt.ob (K := X.K) (upd_same (H := G) (a := p) (o := .ins C0 dx gs)) a3 (a4.mono ex))
      have e : σ.set i (some (.ref p)) = σ := by
        refine List.ext_getElem? fun j => ?_
        by_cases q : i = j
        · subst q
          rw [List.getElem?_set_self (List.getElem?_eq_some_iff.mp at0).1, at0]
        · rw [List.getElem?_set_ne q]
      rw [e] at s2
      exact s2
    refine ⟨_, sk, gk.ok, fun d v G1 H1 r g1 t1 => ?_⟩
    have hk : f ∉ gs.map (·.1) := by rw [a3]; exact hf
    have hl : gs.length = fs.length := by
      have := congrArg List.length a3
      rwa [List.length_map, List.length_map] at this
    have kn : G1 p = some (.ins C0 dx gs) := g1.ex _ _ upd_same
    have g2 := (gk.trans ok0 g1).unknow ok0 hp
    have ex2 : Same G (del G1 p) := fun a o e => by
      rw [del_ne (ne_of_none e a1)]
      exact g1.ex _ _ (ex _ _ e)
    refine ⟨.ref p, at0, p, C0, dx, gs, rfl, g1.ok.sub _ _ kn, c, hn, by omega, ?_⟩
    have gp := g2.poke ok0 hp del_same (g1.ok.sub _ _ kn) (fun ps z => by cases z) (fun _ _ z => by unfold LamX.CodeO at z; cases z) (u := .ins C0 dx (putF f v gs))
    refine nx ds _ σ _ _ ⟨rfl, d, r, rfl⟩ (s.mono ex2) gp ex2 ⟨del_same, dx, putF f v gs, upd_same, ?_, ?_⟩
    · rw [putF_new hk, List.map_append, List.map_append, a3]; rfl
    · rw [putF_new hk, List.map_append, List.map_append]
      exact (a4.mono ex2).append (.cons (hno d r _ _ _ _ _ _ kn t1) .nil)
/-- the last statements of an __init__, self known -/
theorem dms_last {fs : List (Str × D)} (ok0 : Ok M G0 H0) (hp : H0 p = none) (hi : ds[i]? = some (some (.raw (.ref p)))) (h : DPs X M sts (ds.set i (some (.ob C0 fs))) (fun _ => True) (fun _ => False)) :
    DMs X M G0 H0 (cIns X.K p C0) sts ds fs (fun _ fs' => fs' = fs) (fun _ => False) :=
  PSs.imp h fun Z σ H ⟨G, s, g, ⟨a1, dx, gs, a2, a3, a4⟩, nx, q⟩ => by
    have gk := g.know ok0 hp a1 a2 (fun ps z => by cases z)
    have ex : Same G (upd G p (.ins C0 dx gs)) := same_upd a1
    have at0 := raw_at s hi
    have sk : Sl X.K (upd G p (.ins C0 dx gs)) σ (ds.set i (some (.ob C0 fs))) := by
      have s2 := (s.mono ex).set i (Dt.ob (K := X.K) (upd_same (H := G) (a := p) (o := .ins C0 dx gs)) a3 (a4.mono ex))
      have e : σ.set i (some (.ref p)) = σ := by
        refine List.ext_getElem? fun j => ?_
        by_cases q : i = j
        · subst q
          rw [List.getElem?_set_self (List.getElem?_eq_some_iff.mp at0).1, at0]
        · rw [List.getElem?_set_ne q]
      rw [e] at s2
      exact s2
    refine ⟨_, sk, gk.ok, fun ds' σ' G' H' _ s' g' => ?_, fun _ _ _ _ z => z.elim⟩
    have kn : G' p = some (.ins C0 dx gs) := g'.ex _ _ upd_same
    have ex2 : Same G (del G' p) := fun a o e => by
      rw [del_ne (ne_of_none e a1)]
      exact g'.ex _ _ (ex _ _ e)
    refine nx (List.replicate σ'.length none) fs σ' _ H' rfl ⟨by rw [List.length_replicate], fun j d e => ?_⟩ ((gk.trans ok0 g').unknow ok0 hp) ex2 ⟨del_same, dx, gs, g'.ok.sub _ _ kn, a3, a4.mono ex2⟩
    rw [List.getElem?_replicate] at e
    split at e <;> simp at e
/-- if name.get(k, d) != b: raise ..: it is the same -/
theorem dm_clash {l : List (List Key × D)} {ks : List Key} {x y : Bool} {A : List Stmt} (hu : X.A.units + 1 < cLine) (ok0 : Ok M G0 H0) (hp : H0 p = none) (hi : ds[i]? = some (some (.raw (.ref p)))) (h0 : ks ≠ []) (hk : DV X M k ds (kT ks)) (hd : DV X M d ds (.bl x)) (hb : DV X M b ds (.bl y)) (same : (lookD l ks).getD (.bl x) = .bl y)
    (hN : X.N[i]? = some n := by rfl) (hv : Vis X.env.scope n := by first | exact Or.inl rfl | exact Or.inr (Or.inl rfl) | exact Or.inr (Or.inr rfl)) (h1 : (n == ("__debug__" : Str)) = false := by decide) (h2 : (n == ("__classdict__" : Str)) = false := by decide)
    (m : M2 X (.Name n pn) "get" pa k d cpos := by exact ⟨rfl, rfl, rfl, rfl⟩) :
    DM X M G0 H0 (cDt X.K p) (.If (.Compare (.Call (.Attribute (.Name n pn) "get" pa) [k, d] [] cpos) [.NotEq] [b] cp) A [] pos) ds l (fun ds' l' => ds' = ds ∧ l' = l) Rt :=
  PS.imp (ps_if (pt_cmpR op_ne (pe_dget2 hu (pe_var (i := i) hN hv h1 h2) hk hd m) hb (nomark _)) (PSs.ex (ι := Unit) (P := fun _ => False) (t := fun _ => tNext) fun _ h => h.elim) pss_nil) fun Z σ H ⟨G, s, g, hc, nx, q⟩ => by
    obtain ⟨b1, gs0, b2, b3, b4⟩ := hc
    refine ⟨.ref p, raw_at s hi, p, rfl, .inr ⟨gs0, .inl b2⟩, G, s, g.ok, fun d1 v1 G1 H1 r1 g1 t1 => ⟨G1, s.mono g1.ex, g1.ok, fun d2 v2 G2 H2 r2 g2 t2 => ?_⟩⟩
    have g12 := g1.trans g.ok g2
    obtain ⟨a1, gs, a2, a3, a4⟩ := (ck_dt (K := X.K) ok0 hp).keep _ _ _ _ _ g ⟨b1, gs0, b2, b3, b4⟩ g12
    rw [show d1 = _ from r1] at t1
    rw [show d2 = _ from r2] at t2
    obtain ⟨q1, rfl, hq⟩ := tup_at h0 t1
    cases t2
    refine ⟨valV gs ks, .inr ⟨gs, ks, q1, .inl a2, rfl, g2.ok.sub _ _ (g2.ex _ _ hq), rfl⟩, G2, s.mono g12.ex, g2.ok, fun d3 v3 G3 H3 r3 g3 t3 => ?_⟩
    rw [show d3 = _ from r3] at t3
    cases t3
    have e : (valV gs ks).getD (.bl x) = .bl y := by
      rcases look_both (k := ks) a3 a4 with ⟨e1, e2⟩ | ⟨dd, vv, e1, e2, t⟩
      · rw [e1] at same
        rw [e2]
        have : D.bl x = D.bl y := same
        cases this
        rfl
      · rw [e1] at same
        rw [e2]
        have : dd = D.bl y := same
        subst this
        cases t
        rfl
    rw [e]
    have gF := (g.trans ok0 g12).trans ok0 g3
    refine ⟨rfl, false, (by simp), ?_⟩
    refine iteF ?_
    exact nx ds l σ G3 H3 ⟨rfl, rfl⟩ (s.mono (g12.ex.trans g3.ex)) gF (g12.ex.trans g3.ex) ((ck_dt (K := X.K) ok0 hp).keep _ _ _ _ _ (g.trans ok0 g12) ⟨a1, gs, a2, a3, a4⟩ g3)
end
section
variable {κ : Type} [DecidableEq κ] {K : PySem.W.Frag} {G : Hp}
theorem any_keys {k : κ} : ∀ {gs : List (κ × V)} {l : List (κ × D)}, gs.map (·.1) = l.map (·.1) → gs.any (fun kv => decide (kv.1 = k)) = l.any (fun p => decide (p.1 = k))
  | [], [], _ => rfl
  | [], _ :: _, h => by cases h
  | _ :: _, [], h => by cases h
  | a :: gs, b :: l, h => by
    rw [List.map_cons, List.map_cons] at h
    injection h with e1 e2
    rw [List.any_cons, List.any_cons, any_keys e2, show a.1 = b.1 from e1]
theorem put_repl {k : κ} {v : V} {d : D} (t : Dt K G v d) : ∀ {gs : List (κ × V)} {l : List (κ × D)}, gs.map (·.1) = l.map (·.1) → Dts K G (gs.map (·.2)) (l.map (·.2)) →
    (gs.map fun kv => if kv.1 = k then (kv.1, v) else kv).map (·.1) = (l.map fun p => if p.1 = k then (k, d) else p).map (·.1) ∧ Dts K G ((gs.map fun kv => if kv.1 = k then (kv.1, v) else kv).map (·.2)) ((l.map fun p => if p.1 = k then (k, d) else p).map (·.2))
  | [], [], _, _ => ⟨rfl, .nil⟩
  | [], _ :: _, h, _ => by cases h
  | _ :: _, [], h, _ => by cases h
  | a :: gs, b :: l, h, s => by
    rw [List.map_cons, List.map_cons] at h
    injection h with e1 e2
    have e1 : a.1 = b.1 := e1
    cases s with
    | cons s1 s2 =>
      obtain ⟨h1, h2⟩ := put_repl t e2 s2
      by_cases q : a.1 = k
      · simp only [List.map_cons, if_pos q, if_pos (e1 ▸ q)]
        exact ⟨by rw [h1, q], .cons t h2⟩
      · simp only [List.map_cons, if_neg q, if_neg (fun z => q (e1.trans z))]
        exact ⟨by rw [h1, e1], .cons s1 h2⟩
theorem put_both {k : κ} {v : V} {d : D} (t : Dt K G v d) {gs : List (κ × V)} {l : List (κ × D)} (h : gs.map (·.1) = l.map (·.1)) (s : Dts K G (gs.map (·.2)) (l.map (·.2))) :
    (putK gs k v).map (·.1) = (putD l k d).map (·.1) ∧ Dts K G ((putK gs k v).map (·.2)) ((putD l k d).map (·.2)) := by
  have e : gs.any (fun kv => decide (kv.1 = k)) = l.any (fun p => decide (p.1 = k)) := any_keys h
  unfold putK putD
  rw [e]
  by_cases q : l.any (fun p => decide (p.1 = k)) = true
  · rw [if_pos q, if_pos q]; exact put_repl t h s
  · rw [if_neg q, if_neg q]
    exact ⟨by rw [List.map_append, List.map_append, h]; rfl, by rw [List.map_append, List.map_append]; exact s.append (.cons t .nil)⟩
end
section
variable {X : Cx} {M : Mu} {G0 H0 : Hp} {ds : DS} {e k : Expr} {Rt : D → Prop} {pos pn p2 : Pos} {p : Addr} {i : Nat} {n : Str}
/-- name[k] = e, k a tuple -/
theorem dm_putT {l : List (List Key × D)} {ks : List Key} {d : D} (hu : X.A.units + 1 < cLine) (ok0 : Ok M G0 H0) (hp : H0 p = none) (hi : ds[i]? = some (some (.raw (.ref p)))) (h0 : ks ≠ []) (hk : DV X M k ds (kT ks)) (he : DV X M e ds d) (hz : l.length < sizeLine)
    (hN : X.N[i]? = some n := by rfl) (hv : Vis X.env.scope n := by first | exact Or.inl rfl | exact Or.inr (Or.inl rfl) | exact Or.inr (Or.inr rfl)) (h1 : (n == ("__debug__" : Str)) = false := by decide) (h2 : (n == ("__classdict__" : Str)) = false := by decide)
    (hs : swapsWith e (some (.Subscript (.Name n pn) k p2)) pos.line X.env = pure false := by rfl) :
    DM X M G0 H0 (cDt X.K p) (.Assign [.Subscript (.Name n pn) k p2] e pos) ds l (fun ds' l' => ds' = ds ∧ l' = putD l ks d) Rt :=
  PS.imp (ps_dput hu (pe_var (i := i) hN hv h1 h2) hk he hs) fun Z σ H ⟨G, s, g, hc, nx, q⟩ => ⟨G, s, g.ok, fun d1 v1 G1 H1 r1 g1 t1 => by
    refine ⟨.ref p, raw_at s hi, G1, s.mono g1.ex, g1.ok, fun d2 v2 G2 H2 r2 g2 t2 => ?_⟩
    have g12 := g1.trans g.ok g2
    obtain ⟨a1, gs, a2, a3, a4⟩ := (ck_dt (K := X.K) ok0 hp).keep _ _ _ _ _ g hc g12
    rw [show d1 = _ from r1] at t1
    rw [show d2 = _ from r2] at t2
    obtain ⟨q1, rfl, hq⟩ := tup_at h0 t2
    have hl : gs.length = l.length := by
      have := congrArg List.length a3
      rwa [List.length_map, List.length_map] at this
    refine ⟨p, _, rfl, .inr ⟨gs, ks, q1, a2, rfl, g2.ok.sub _ _ hq, by omega, rfl⟩, ?_⟩
    obtain ⟨b1, b2⟩ := put_both (k := ks) (t1.mono g2.ex) a3 a4
    have gp := (g.trans ok0 g12).poke ok0 hp a1 a2 (fun ps z => by cases z) (fun _ _ z => by unfold LamX.CodeO at z; cases z) (u := .dT (putK gs ks v1))
    exact nx ds _ σ _ _ ⟨rfl, rfl⟩ (s.mono g12.ex) gp g12.ex ⟨a1, _, upd_same, b1, b2⟩⟩
end
end DL
set_option maxHeartbeats 1000000
namespace DL
open PySem PySem.Spec PyProof.Rows L2 SO
/-! ### loops whose own names are forgotten -/
/-- a knows no more than b -/
def WkS (a b : DS) : Prop := a.length = b.length ∧ ∀ (i : Nat) (d : D), a[i]? = some (some d) → b[i]? = some (some d)
theorem WkS.refl (a : DS) : WkS a a := ⟨rfl, fun _ _ h => h⟩
theorem WkS.trans {a b c : DS} (h : WkS a b) (k : WkS b c) : WkS a c := ⟨h.1.trans k.1, fun i d e => k.2 i d (h.2 i d e)⟩
theorem WkS.set {a b : DS} (h : WkS a b) (i : Nat) (x : Option D) : WkS (a.set i x) (b.set i x) := by
  refine ⟨by rw [List.length_set, List.length_set]; exact h.1, fun j d e => ?_⟩
  by_cases q : i = j
  · subst q
    by_cases l : i < a.length
    · rw [List.getElem?_set_self l] at e
      rw [List.getElem?_set_self (h.1 ▸ l)]
      exact e
    · rw [List.getElem?_eq_none (by rw [List.length_set]; omega)] at e
      cases e
  · rw [List.getElem?_set_ne q] at e ⊢
    exact h.2 j d e
/-- a slot of which nothing is known is stored -/
theorem WkS.put {a b : DS} {i : Nat} {x : Option D} (h : WkS a b) (hn : a[i]? = some none) : WkS a (b.set i x) := by
  refine ⟨by rw [List.length_set]; exact h.1, fun j d e => ?_⟩
  have q : i ≠ j := fun q => by subst q; rw [hn] at e; cases e
  rw [List.getElem?_set_ne q]
  exact h.2 j d e
def UM (u : D → DS → DS) : Prop := ∀ d a b, WkS a b → WkS (u d a) (u d b)
theorem um1 {i : Nat} : UM fun d ds => ds.set i (some d) := fun d a b h => h.set i _
def u2 (i j : Nat) : D → DS → DS
  | .tup [a, b], ds => (ds.set i (some a)).set j (some b)
  | _, ds => ds
def u3 (i j k : Nat) : D → DS → DS
  | .tup [a, b, c], ds => ((ds.set i (some a)).set j (some b)).set k (some c)
  | _, ds => ds
theorem um2 {i j : Nat} : UM (u2 i j) := fun d a b h => by
  unfold u2
  split
  · exact (h.set _ _).set _ _
  · exact h
theorem um3 {i j k : Nat} : UM (u3 i j k) := fun d a b h => by
  unfold u3
  split
  · exact ((h.set _ _).set _ _).set _ _
  · exact h
section
variable {X : Cx} {M : Mu} {ds : DS} {st : Stmt} {sts body : List Stmt} {Nx : DS → Prop} {Rt : D → Prop} {tg iter : Expr} {pos : Pos} {Re : List D → Prop} {g : TG} {is : List Nat} {u : D → DS → DS}
theorem DP.post (h : DP X M st ds (WkS ds) Rt) : DP X M st ds (Is ds) Rt := PS.imp h fun Z σ H ⟨G, s, ok, n, q⟩ => ⟨G, s, ok, fun x σ' G' H' w s' g => n ds σ' G' H' rfl (s'.forget w.1 w.2) g, q⟩
theorem dp_forW (hp : PassesOwn (model X.prog X.w) X.A X.env X.xe) (hc : X.calm = true) (hi : DI X M tg iter ds Re) (hg : PG X tg g) (um : UM u)
    (tgt : ∀ i d, El Re i d → TgOk X.K g is d (u d)) (hb : ∀ i d, El Re i d → DPs X M body (u d ds) (WkS ds) Rt)
    (hs : ∀ x, foldedSetIterable iter X.env x = pure x := by intro _; rfl) : DP X M (.For tg iter body [] pos) ds (Is ds) Rt :=
  DP.post (dp_forI (I := fun _ => WkS ds) hp hc hi hg tgt (WkS.refl ds) (fun i d ds1 h w => (hb i d h).forget (um d _ _ w).1 (um d _ _ w).2) (fun _ _ _ w => w) hs)
variable {G0 H0 : Hp} {γ : Type} {C : Hp → Hp → γ → Prop} {c : γ}
theorem DM.post {N : γ → Prop} (h : DM X M G0 H0 C st ds c (fun x y => WkS ds x ∧ N y) Rt) : DM X M G0 H0 C st ds c (fun x y => x = ds ∧ N y) Rt := PS.imp h fun Z σ H ⟨G, s, g, hc, n, q⟩ => ⟨G, s, g, hc, fun x y σ' G' H' w s' g' => n ds y σ' G' H' ⟨rfl, w.2⟩ (s'.forget w.1.1 w.1.2) g', q⟩
theorem dm_forW {I : Nat → γ → Prop} (ok0 : Ok M G0 H0) (hC : CellK M G0 H0 C) (hp : PassesOwn (model X.prog X.w) X.A X.env X.xe) (hc : X.calm = true) (hi : DI X M tg iter ds Re) (hg : PG X tg g) (um : UM u)
    (tgt : ∀ i d, El Re i d → TgOk X.K g is d (u d)) (h0 : I 0 c) (hb : ∀ i d c1, El Re i d → I i c1 → DMs X M G0 H0 C body (u d ds) c1 (fun x y => WkS ds x ∧ I (i + 1) y) Rt)
    (hs : ∀ x, foldedSetIterable iter X.env x = pure x := by intro _; rfl) : DM X M G0 H0 C (.For tg iter body [] pos) ds c (fun x y => x = ds ∧ ∃ els, Re els ∧ I els.length y) Rt :=
  DM.post (dm_for (I := fun i x y => WkS ds x ∧ I i y) ok0 hC hp hc hi hg tgt ⟨WkS.refl ds, h0⟩ (fun i d ds1 c1 h w => (hb i d c1 h w.2).forget (um d _ _ w.1).1 (um d _ _ w.1).2) (fun els _ _ r w => ⟨w.1, els, r, w.2⟩) hs)
end
/-! ### defaults -/
theorem mk_def1 {P : Program} {w : World} {K : PySem.W.Frag} {mg : Str → Option Value} {base : Heap} {k : Nat} {C0 : Addr} {N ps : List Str} {x qual : Str} {st : Stmt} {Pre : Mu → List D → Prop} {Fs : List D → List (Str × D)} {dvs : List V} {dl : List D} (n j : Nat) (hm : mg x = some (.ref C0))
    (F : InAt K C0 qual st dvs) (S : FnScope N ps (defScope st)) (hd : dvs ≠ []) (hn : n + (dvs.length - j) = ps.length) (hdl : ∀ G, Dts K G (dvs.drop j) dl)
    (hbd : ∀ (T : Addr) (kV doc pm : Value) (an : Option Addr) (cdv ct : Value) (us its : List Value), us.length = n → its.length = dvs.length → ∃ k, bindArgs (PySem.W.fnOf "__init__" qual (defArgs st) (defBody st) (defScope st) (.ref T) kV doc pm an cdv ct) ⟨us, []⟩ = seqItems? (.ref T) >>= k ∧ k (some its.toArray) = pure (ps.zip (us ++ its.drop j)))
    (hl : ∀ M l, Pre M l → l.length + 1 = ps.length)
    (hb : ∀ (f : Addr) (cdv : Value) (A : Around) (outer : List Env) (s : Shared) (H : Hp) (E : XK) (M : Mu) (l : List D) (G B : Hp) (x : Addr), Room k (A.deeper (envOfC qual (defScope st) s.heap.objs.size f cdv)) → Pre M l → Ok M G B → B x = none →
      DMs (cxOf CX0 P w K mg base N qual (defScope st) f cdv A outer s H E).nox M G B (cIns K x C0) (defBody st) (slots N (.raw (.ref x) :: l)) [] (fun _ fs => fs = Fs l) (fun _ => False)) : MkT P w K mg base x C0 (k + 1) dl Pre Fs := by
  obtain ⟨f, fd, F, mk⟩ := F.ex
  obtain ⟨ds, hv, hbi⟩ := F.binds1 (ps := ps) n j hd hn hbd
  exact ⟨f, fd, ps, ds, dvs.drop j, ok_init F S hl (hb f), mk, hm, hbi, hv, hdl⟩
end DL
set_option maxHeartbeats 1000000
namespace BB
open PySem PySem.Spec PyProof.Rows L2 DL

def top (i : Nat) : Stmt := PySem.Challenge.pw_barelybetter_k91_whole_read_back.main.body.getD i (.Pass ⟨0, 0, 0, 0⟩)
def mth (i j : Nat) : Stmt := inClass (top i) j
/-- the built-in names are the module's too -/
structure Bn (mg : Str → Option Value) : Prop where
  isi : mg "isinstance" = none
  int : mg "int" = none
  bool : mg "bool" = none
  str : mg "str" = none
  list : mg "list" = none
  tuple : mg "tuple" = none
  dict : mg "dict" = none
  set : mg "set" = none
  len : mg "len" = none
  all : mg "all" = none
  sorted : mg "sorted" = none
  range : mg "range" = none
  enum : mg "enumerate" = none
  abs : mg "abs" = none
  repr : mg "repr" = none
structure Cn (mg : Str → Option Value) : Prop where
  letters : ∃ t, mg "LETTERS" = some (.str "abcdefghijklmnopqrstuvwxyz" t)
  longest : ∃ t, mg "LONGEST" = some (.int 8 t)
def letter (c : Nat) : Bool := decide (97 ≤ c ∧ c ≤ 122)
structure Nm (x : Str) : Prop where
  pos : 1 ≤ x.length
  short : x.length ≤ 8
  sg : ∀ c ∈ x.cps.toList, letter c = true
variable {P : Program} {w : World} {K : PySem.W.Frag} {mg : Str → Option Value} {base : Heap}
theorem sc_integer : FnScope ["thing"] ["thing"] (defScope (top 13)) := ⟨rfl, rfl, rfl, by decide +kernel, rfl, by decide +kernel, by decide +kernel⟩
theorem fn_integer (b : Bn mg) (F : FnAt K mg "is_integer" (top 13)) : FnT P w K mg base "is_integer" 2 (fun M l => ∃ i, l = [.int i]) (fun _ => Is (.bl true)) := by
  refine fn_def F sc_integer (fun _ _ _ _ _ _ us hl => match us, hl with | [_], _ => rfl) (fun M l ⟨i, e⟩ => by rw [e]; rfl) fun f cdv A outer s H E M l hr ⟨i, e⟩ => ?_
  subst e
  refine dps_one (dp_ret ?_)
  exact DV.to (d_and2 (d_isi (T := "int") (r := true) (dv 0) rfl (by decide +kernel) b.isi b.int) fun _ => d_not (d_isi (T := "bool") (r := false) (dv 0) rfl (by decide +kernel) b.isi b.bool)) rfl
theorem sc_name : FnScope ["thing", "sign"] ["thing"] (defScope (top 14)) := ⟨rfl, rfl, rfl, by decide +kernel, rfl, by decide +kernel, by decide +kernel⟩
theorem letters_in {c : Nat} (h : letter c = true) : c ∈ (Str.ofString "abcdefghijklmnopqrstuvwxyz").cps.toList := by
  have h : 97 ≤ c ∧ c ≤ 122 := of_decide_eq_true h
  have e : ∀ i : Fin 26, (97 + i.val) ∈ (Str.ofString "abcdefghijklmnopqrstuvwxyz").cps.toList := by decide +kernel
  have q := e ⟨c - 97, by omega⟩
  have z : 97 + (c - 97) = c := by omega
  simpa [z] using q
theorem fn_name (b : Bn mg) (cn : Cn mg) (F : FnAt K mg "is_name" (top 14)) : FnT P w K mg base "is_name" 2 (fun M l => ∃ x, l = [.str x] ∧ Nm x) (fun _ => Is (.bl true)) := by
  refine fn_def F sc_name (fun _ _ _ _ _ _ us hl => match us, hl with | [_], _ => rfl) (fun M l ⟨x, e, _⟩ => by rw [e]; rfl) fun f cdv A outer s H E M l hr ⟨x, e, n⟩ => ?_
  subst e
  obtain ⟨t1, e1⟩ := cn.letters
  obtain ⟨t2, e2⟩ := cn.longest
  have hx : x.length ≤ sizeLine := Nat.le_trans n.short (by decide)
  refine dps_cons (dp_if (p := false) (DT.to (dt_or (dt_not (dt_v (d_isi (T := "str") (r := true) (dv 0) rfl (by decide +kernel) b.isi b.str))) fun _ =>
    dt_not (dt_chain_le d_int (d_len (m := x.length) (dv 0) (.inr (.inr ⟨x, rfl, rfl, hx⟩)) b.len) (d_gint e2))) ?_) (fun h => nomatch h) fun _ => dps_nil rfl) (dps_one (dp_ret ?_))
  · have h1 := n.pos
    have h2 := n.short
    rw [decide_eq_true (show (1 : Int) ≤ (x.length : Int) by omega), decide_eq_true (show (x.length : Int) ≤ 8 by omega)]
    rfl
  · refine DV.to (d_all (bs := x.cps.toList.map fun _ => true) rfl ?_ b.all) (by simp)
    rw [List.map_map]
    refine d_lc (F := fun c => .str ⟨#[c]⟩) (own := [("sign", 1)]) (is := [1]) (u := fun d ds => ds.set 1 (some d)) rfl sc_name.nd (.inl (di_str (dv 0))) (blkOk_by (by rfl)) (fun _ _ _ _ _ => pg_name (i := 1) sc_name.nd rfl (Or.inl rfl)) (fun _ _ => tg1) (by decide)
      (fun _ _ _ _ _ c hc => DV.to (d_sign (dv 1) (d_gstr e1)) ?_) (by simpa [Str.length] using hx)
    rw [decide_eq_true (letters_in (n.sg c hc))]
    rfl
theorem sc_names : FnScope ["thing", "one"] ["thing"] (defScope (top 15)) := ⟨rfl, rfl, rfl, by decide +kernel, rfl, by decide +kernel, by decide +kernel⟩
/-- names, all different -/
structure Nms (xs : List Str) : Prop where
  all : ∀ x ∈ xs, Nm x
  nd : xs.Nodup
  few : xs.length < 1000
theorem map_true {α : Type} (xs : List α) : (xs.map fun _ => true).map D.bl = xs.map fun _ => D.bl true := by rw [List.map_map]; rfl
def seqOf (l : D) (xs : List D) : Prop := l = .lst xs ∨ l = .tup xs
theorem fn_names (b : Bn mg) (cn : Cn mg) (F : FnAt K mg "are_names" (top 15)) (F1 : FnAt K mg "is_name" (top 14)) : FnT P w K mg base "are_names" 3 (fun M l => ∃ x xs, l = [x] ∧ seqOf x (dNs xs) ∧ Nms xs) (fun _ => Is (.bl true)) := by
  refine fn_def F sc_names (fun _ _ _ _ _ _ us hl => match us, hl with | [_], _ => rfl) (fun M l ⟨x, xs, e, _⟩ => by rw [e]; rfl) fun f cdv A outer s H E M l hr ⟨x, xs, e, hx, n⟩ => ?_
  subst e
  have few := n.few
  have hz : xs.length ≤ sizeLine := Nat.le_trans (Nat.le_of_lt few) (by decide)
  have isi : ∃ t r1 r2, tyD x = some t ∧ kitB t "list" = some r1 ∧ kitB t "tuple" = some r2 ∧ (r1 || r2) = true := by
    rcases hx with rfl | rfl
    · exact ⟨"list", true, false, rfl, by decide +kernel, by decide +kernel, rfl⟩
    · exact ⟨"tuple", false, true, rfl, by decide +kernel, by decide +kernel, rfl⟩
  obtain ⟨t, r1, r2, i1, i2, i3, i4⟩ := isi
  refine dps_cons (dp_if (p := false) (DT.to (dt_or (p := false) (q := false) (DT.to (dt_not (dt_v (DV.to (d_isi2 (dv 0) i1 i2 i3 b.isi b.list b.tuple) (congrArg D.bl i4)))) rfl) fun _ => DT.to (dt_not (p := true) (dt_v (DV.to (d_all (bs := xs.map fun _ => true) rfl ?_ b.all) (by simp)))) rfl) rfl) (fun h => nomatch h) fun _ => dps_nil rfl) (dps_one (dp_ret ?_))
  · rw [map_true]
    refine d_lc (F := .str) (own := [("one", 1)]) (is := [1]) (u := fun d ds => ds.set 1 (some d)) rfl sc_names.nd (.inl (di_seqV (dv 0) hx)) (blkOk_by (by rfl)) (fun _ _ _ _ _ => pg_name (i := 1) sc_names.nd rfl (Or.inl rfl)) (fun _ _ => tg1) (by decide)
      (fun _ _ _ _ _ y hy => d_call (fn_name b cn F1) hr (da_1 (dv 1)) ⟨y, rfl, n.all y hy⟩ fun z hz => hz) hz
  · refine DV.to (d_eqI (d_lenSet rfl b.len b.set (dv 0) hx n.nd (by omega)) (d_len (m := xs.length) (dv 0) ?_ b.len)) (by simp)
    rcases hx with rfl | rfl
    · exact .inl ⟨_, rfl, by simp⟩
    · exact .inr (.inl ⟨_, rfl, by simp⟩)
end BB
set_option maxHeartbeats 1000000
namespace BB
open PySem PySem.Spec PyProof.Rows L2 DL
structure PrOk (p : Pr) : Prop where
  n1 : Nm p.1
  n2 : Nm p.2
  ne : p.1 ≠ p.2
abbrev AnOk (a : An) : Prop := PrOk (a.1, a.2.1)
abbrev anP (a : An) : Pr := (a.1, a.2.1)
theorem PrOk.nms {p : Pr} (h : PrOk p) : Nms [p.1, p.2] := ⟨fun x hx => by
  rcases List.mem_cons.mp hx with rfl | hx
  · exact h.n1
  · rw [List.mem_singleton.mp hx]; exact h.n2, by simp [h.ne], by simp⟩
/-- the facts of the kinds' module -/
structure Fk (K : PySem.W.Frag) (mg : Str → Option Value) : Prop where
  b : Bn mg
  cn : Cn mg
  integer : FnAt K mg "is_integer" (top 13)
  name : FnAt K mg "is_name" (top 14)
  names : FnAt K mg "are_names" (top 15)
  pair : FnAt K mg "is_pair" (top 16)
  answer : FnAt K mg "is_answer" (top 17)
  answers : FnAt K mg "are_answers" (top 18)
  pairOf : FnAt K mg "pair_of" (top 19)
variable {P : Program} {w : World} {K : PySem.W.Frag} {mg : Str → Option Value} {base : Heap}
theorem sc_pair : FnScope ["thing"] ["thing"] (defScope (top 16)) := ⟨rfl, rfl, rfl, by decide +kernel, rfl, by decide +kernel, by decide +kernel⟩
theorem fn_pair (T : Fk K mg) : FnT P w K mg base "is_pair" 4 (fun M l => ∃ p, l = [dPr p] ∧ PrOk p) (fun _ => Is (.bl true)) := by
  refine fn_def T.pair sc_pair (fun _ _ _ _ _ _ us hl => match us, hl with | [_], _ => rfl) (fun M l ⟨x, e, _⟩ => by rw [e]; rfl) fun f cdv A outer s H E M l hr ⟨p, e, hp⟩ => ?_
  subst e
  refine dps_one (dp_ret (DV.to (d_and3 (p := true) (q := true) (r := true) (d_isi (T := "tuple") (dv 0) rfl (by decide +kernel) T.b.isi T.b.tuple) (fun _ => ?_) (fun _ _ => ?_)) rfl))
  · exact DV.to (d_eqI (d_len (m := 2) (dv 0) (.inr (.inl ⟨_, rfl, rfl⟩)) T.b.len) d_int) rfl
  · exact d_call (fn_names T.b T.cn T.names T.name) hr (da_1 (dv 0)) ⟨_, [p.1, p.2], rfl, .inr rfl, hp.nms⟩ fun z hz => hz
theorem sc_answer : FnScope ["thing"] ["thing"] (defScope (top 17)) := ⟨rfl, rfl, rfl, by decide +kernel, rfl, by decide +kernel, by decide +kernel⟩
theorem cut2 (a b c : D) : cutG [a, b, c] none (some 2) = [a, b] := cut_upto [a, b, c] 2
theorem fn_answer (T : Fk K mg) : FnT P w K mg base "is_answer" 5 (fun M l => ∃ a, l = [dAn a] ∧ AnOk a) (fun _ => Is (.bl true)) := by
  refine fn_def T.answer sc_answer (fun _ _ _ _ _ _ us hl => match us, hl with | [_], _ => rfl) (fun M l ⟨x, e, _⟩ => by rw [e]; rfl) fun f cdv A outer s H E M l hr ⟨a, e, ha⟩ => ?_
  subst e
  refine dps_one (dp_ret (DV.to (d_and4 (p := true) (q := true) (r := true) (t := true) (d_isi (T := "tuple") (dv 0) rfl (by decide +kernel) T.b.isi T.b.tuple) (fun _ => ?_) (fun _ _ => ?_) (fun _ _ _ => ?_)) rfl))
  · exact DV.to (d_eqI (d_len (m := 3) (dv 0) (.inr (.inl ⟨_, rfl, rfl⟩)) T.b.len) d_int) rfl
  · exact d_call (fn_pair T) hr (da_1 (DV.to (d_slT (dv 0) do_none (do_some d_int)) (congrArg D.tup (cut2 _ _ _)))) ⟨anP a, rfl, ha⟩ fun z hz => hz
  · exact d_isi (T := "bool") (x := .bl a.2.2) (d_ixT (dv 0) d_int rfl) rfl (by decide +kernel) T.b.isi T.b.bool
theorem sc_answers : FnScope ["thing", "one"] ["thing"] (defScope (top 18)) := ⟨rfl, rfl, rfl, by decide +kernel, rfl, by decide +kernel, by decide +kernel⟩
theorem isi_seq {x : D} {xs : List D} (h : seqOf x xs) : ∃ t r1 r2, tyD x = some t ∧ kitB t "list" = some r1 ∧ kitB t "tuple" = some r2 ∧ (r1 || r2) = true := by
  rcases h with rfl | rfl
  · exact ⟨"list", true, false, rfl, by decide +kernel, by decide +kernel, rfl⟩
  · exact ⟨"tuple", false, true, rfl, by decide +kernel, by decide +kernel, rfl⟩
theorem fn_answers (T : Fk K mg) : FnT P w K mg base "are_answers" 6 (fun M l => ∃ (x : D) (as : List An), l = [x] ∧ seqOf x (as.map dAn) ∧ (∀ a ∈ as, AnOk a) ∧ as.length ≤ sizeLine) (fun _ => Is (.bl true)) := by
  refine fn_def T.answers sc_answers (fun _ _ _ _ _ _ us hl => match us, hl with | [_], _ => rfl) (fun M l ⟨x, xs, e, _⟩ => by rw [e]; rfl) fun f cdv A outer s H E M l hr ⟨x, as, e, hx, ha, hz⟩ => ?_
  subst e
  obtain ⟨t, r1, r2, i1, i2, i3, i4⟩ := isi_seq hx
  refine dps_one (dp_ret (DV.to (d_and2 (p := true) (q := true) (DV.to (d_isi2 (dv 0) i1 i2 i3 T.b.isi T.b.list T.b.tuple) (congrArg D.bl i4)) fun _ => DV.to (d_all (bs := as.map fun _ => true) rfl ?_ T.b.all) (by simp)) rfl))
  rw [map_true]
  exact d_lc (F := dAn) (own := [("one", 1)]) (is := [1]) (u := fun d ds => ds.set 1 (some d)) rfl sc_answers.nd (.inl (di_seqV (dv 0) hx)) (blkOk_by (by rfl)) (fun _ _ _ _ _ => pg_name (i := 1) sc_answers.nd rfl (Or.inl rfl)) (fun _ _ => tg1) (by decide)
      (fun _ _ _ _ _ y hy => d_call (fn_answer T) hr (da_1 (dv 1)) ⟨y, rfl, ha y hy⟩ fun z hz => hz) hz
theorem sc_pairOf : FnScope ["answer"] ["answer"] (defScope (top 19)) := ⟨rfl, rfl, rfl, by decide +kernel, rfl, by decide +kernel, by decide +kernel⟩
theorem fn_pairOf (T : Fk K mg) (a : An) : FnT P w K mg base "pair_of" 1 (fun M l => l = [dAn a]) (fun _ => Is (dPr (anP a))) := by
  refine fn_def T.pairOf sc_pairOf (fun _ _ _ _ _ _ us hl => match us, hl with | [_], _ => rfl) (fun M l e => by rw [e]; rfl) fun f cdv A outer s H E M l hr e => ?_
  subst e
  exact dps_one (dp_ret (DV.to (d_slT (dv 0) do_none (do_some d_int)) (congrArg D.tup (cut2 _ _ _))))
end BB
set_option maxHeartbeats 1000000
namespace BB
open PySem PySem.Spec PyProof.Rows L2 DL
/-! ### the texts that the program shows -/
abbrev yesW : Str := "better"
abbrev noW : Str := "not"
def wordOf (b : Bool) : Str := pickW b where pickW (b : Bool) : Str := if b = true then yesW else noW
def ansText (a : An) : Str := Txt.join " " [a.1, wordOf a.2.2, a.2.1]
def walkText (as : List An) : Str := if as = [] then "-" else Txt.join ", " (as.map ansText)
def linesText (ls : List Str) : Str := Txt.join "" (ls.map fun l => l ++ ("\n" : Str))
def thingsLine (xs : List Str) : Str := Txt.join " " (("things" : Str) :: xs)
def bookText (xs : List Str) (as : List An) : Str := linesText (thingsLine xs :: as.map ansText)
def prAn (p : Pr) : An := (p.1, p.2, true)
def tableText (xs : List Str) (ps : List Pr) : Str := linesText (thingsLine xs :: ps.map fun p => ansText (prAn p))
def num (i : Int) : Str := (toString i : String)
def worthLine (p : Str × Int) : Str := p.1 ++ (" " : Str) ++ num p.2
def scaleText (ws : List (Str × Int)) (step : Int) : Str := linesText ((("step " : Str) ++ num step) :: ws.map worthLine)
/-! ### lengths -/
theorem len_app (x y : Str) : (x ++ y).length = x.length + y.length := by
  show (x ++ y).cps.size = _
  rw [show (x ++ y).cps = x.cps ++ y.cps from rfl, Array.size_append]
  rfl
theorem joinL_len (S : List Nat) (m : Nat) : ∀ ls : List (List Nat), (∀ l ∈ ls, l.length ≤ m) → (TL.joinL S ls).length ≤ ls.length * (m + S.length)
  | [], _ => by simp [TL.joinL]
  | [l], h => by
    have := h l (by simp)
    simp [TL.joinL]
    omega
  | l :: k :: r, h => by
    have h1 := h l (by simp)
    have h2 := joinL_len S m (k :: r) fun x hx => h x (List.mem_cons_of_mem _ hx)
    show (l ++ (S ++ TL.joinL S (k :: r))).length ≤ _
    rw [List.length_append, List.length_append]
    have e : (l :: k :: r).length * (m + S.length) = (k :: r).length * (m + S.length) + (m + S.length) := by rw [List.length_cons, Nat.succ_mul]
    omega
theorem join_len {y : Str} {parts : List Str} {m : Nat} (h : ∀ p ∈ parts, p.length ≤ m) : (Txt.join y parts).length ≤ parts.length * (m + y.length) := by
  rw [TL.join_eq, TL.len_tl, TL.tl_join]
  have := joinL_len (TL.tl y) m (parts.map TL.tl) fun l hl => by
    obtain ⟨p, hp, rfl⟩ := List.mem_map.mp hl
    rw [← TL.len_tl]
    exact h p hp
  rw [List.length_map, ← TL.len_tl] at this
  exact this
theorem sum_len {parts : List Str} {m : Nat} (h : ∀ p ∈ parts, p.length ≤ m) : (parts.map (·.length)).sum ≤ parts.length * m := by
  induction parts with
  | nil => simp
  | cons p r ih =>
    have h1 := h p (by simp)
    have h2 := ih fun q hq => h q (List.mem_cons_of_mem _ hq)
    rw [List.map_cons, List.sum_cons, List.length_cons, Nat.succ_mul]
    omega
/-- what join asks -/
theorem join_fits {y : Str} {parts : List Str} {m k : Nat} (h : ∀ p ∈ parts, p.length ≤ m) (hk : parts.length ≤ k) (hz : k * (m + y.length) ≤ 16777216) : (parts.map (·.length)).sum + parts.length * y.length ≤ 16777216 := by
  have h1 := sum_len h
  have h2 : parts.length * (m + y.length) ≤ k * (m + y.length) := Nat.mul_le_mul_right _ hk
  rw [Nat.mul_add] at h2
  omega
theorem word_len (b : Bool) : (wordOf b).length ≤ 6 := by cases b <;> decide
theorem ans_len {a : An} (h : AnOk a) : (ansText a).length ≤ 27 := by
  refine Nat.le_trans (join_len (m := 8) fun p hp => ?_) (show 3 * (8 + 1) ≤ 27 by decide)
  rcases List.mem_cons.mp hp with rfl | hp
  · exact h.n1.short
  rcases List.mem_cons.mp hp with rfl | hp
  · exact Nat.le_trans (word_len _) (by decide)
  · rw [List.mem_singleton.mp hp]; exact h.n2.short
theorem things_len {xs : List Str} (h : Nms xs) : (thingsLine xs).length ≤ 9009 := by
  have hf := h.few
  refine Nat.le_trans (join_len (m := 8) fun p hp => ?_) (Nat.le_trans (Nat.mul_le_mul_right _ (show (("things" : Str) :: xs).length ≤ 1001 by rw [List.length_cons]; omega)) (by decide))
  rcases List.mem_cons.mp hp with rfl | hp
  · decide
  · exact (h.all p hp).short
end BB
set_option maxHeartbeats 1000000
namespace BB
open PySem PySem.Spec PyProof.Rows L2 DL TL
/-! ### cutting texts -/
theorem six_m1 {n d : Nat} (h : 1 ≤ n) : HT.sIx n d (some (-1)) = n - 1 := by
  show (if (-1 : Int) < 0 then ((-1 : Int) + (n : Int)).toNat else min (-1 : Int).toNat n) = n - 1
  rw [if_pos (by decide)]
  omega
theorem cut_last {x y : Str} (hy : y.length = 1) : cutS (x ++ y) (some (-1)) none = y := by
  refine ext_tl ?_
  have hl : (x ++ y).length = x.length + 1 := by rw [len_app, hy]
  show ((tl (x ++ y)).drop (HT.sIx (x ++ y).length 0 (some (-1)))).take ((x ++ y).length - HT.sIx (x ++ y).length 0 (some (-1))) = tl y
  rw [six_m1 (by omega), hl, tl_append, show x.length + 1 - 1 = (tl x).length by rw [← len_tl]; omega, List.drop_left]
  rw [len_tl] at hy
  exact List.take_of_length_le (by rw [← len_tl x]; omega)
theorem cut_init {x y : Str} (hy : y.length = 1) : cutS (x ++ y) none (some (-1)) = x := by
  refine ext_tl ?_
  have hl : (x ++ y).length = x.length + 1 := by rw [len_app, hy]
  show ((tl (x ++ y)).drop 0).take (HT.sIx (x ++ y).length (x ++ y).length (some (-1)) - 0) = tl x
  rw [six_m1 (by omega), hl, tl_append, List.drop_zero, show x.length + 1 - 1 - 0 = (tl x).length by rw [← len_tl]; omega, List.take_left]
theorem cutS_from (z : Str) (n : Nat) : tl (cutS z (some (n : Int)) none) = (tl z).drop n := by
  show ((tl z).drop (HT.sIx z.length 0 (some (n : Int)))).take (z.length - HT.sIx z.length 0 (some (n : Int))) = _
  rw [HT.sIx_nat, len_tl]
  by_cases h : n ≤ (tl z).length
  · rw [Nat.min_eq_left h, List.take_of_length_le (by rw [List.length_drop]; exact Nat.le_refl _)]
  · rw [Nat.min_eq_right (by omega), List.drop_eq_nil_of_le (Nat.le_refl _), List.drop_eq_nil_of_le (by omega)]
    simp
theorem cutS_upto (z : Str) (n : Nat) : tl (cutS z none (some (n : Int))) = (tl z).take n := by
  show ((tl z).drop 0).take (HT.sIx z.length z.length (some (n : Int)) - 0) = _
  rw [HT.sIx_nat, len_tl, List.drop_zero, Nat.sub_zero]
  by_cases h : n ≤ (tl z).length
  · rw [Nat.min_eq_left h]
  · rw [Nat.min_eq_right (by omega), List.take_of_length_le (Nat.le_refl _), List.take_of_length_le (by omega)]
/-! ### lines -/
theorem joinL_nl : ∀ ls : List (List Nat), ls ≠ [] → joinL [] (ls.map fun l => l ++ [10]) = joinL [10] ls ++ [10]
  | [], h => absurd rfl h
  | [l], _ => by simp [joinL]
  | l :: k :: r, _ => by
    have ih := joinL_nl (k :: r) (by simp)
    show (l ++ [10]) ++ ([] ++ joinL [] ((k :: r).map fun l => l ++ [10])) = (l ++ ([10] ++ joinL [10] (k :: r))) ++ [10]
    rw [ih]
    simp
theorem lines_eq {ls : List Str} (h : ls ≠ []) : linesText ls = Txt.join "\n" ls ++ ("\n" : Str) := by
  refine ext_tl ?_
  unfold linesText
  rw [join_eq, join_eq, tl_append, tl_join, tl_join, List.map_map]
  have e : (ls.map (tl ∘ fun l => l ++ ("\n" : Str))) = (ls.map tl).map fun l => l ++ [10] := by
    rw [List.map_map]
    refine List.map_congr_left fun l _ => ?_
    show tl (l ++ ("\n" : Str)) = tl l ++ [10]
    rw [tl_append]
    rfl
  rw [e]
  exact joinL_nl _ (by simpa using h)
theorem lines_read {ls : List Str} (h : ls ≠ []) (hf : ∀ l ∈ ls, 10 ∉ tl l) : Txt.split (Txt.join "\n" ls) "\n" = ls := split_join (s := 10) (S := []) rfl (by decide +kernel) h hf
theorem words_read {ws : List Str} (h : ws ≠ []) (hf : ∀ l ∈ ws, 32 ∉ tl l) : Txt.split (Txt.join " " ws) " " = ws := split_join (s := 32) (S := []) rfl (by decide +kernel) h hf
theorem parts_read {ws : List Str} (h : ws ≠ []) (hf : ∀ l ∈ ws, 44 ∉ tl l) : Txt.split (Txt.join ", " ws) ", " = ws := split_join (s := 44) (S := [32]) rfl (by decide +kernel) h hf
/-! ### names, words hold letters only -/
theorem Nm.free {x : Str} (h : Nm x) {c : Nat} (hc : letter c = false) : c ∉ tl x := fun m => by
  rw [h.sg c m] at hc; cases hc
theorem word_free (b : Bool) {c : Nat} (hc : letter c = false) : c ∉ tl (wordOf b) := by
  have e : ∀ b : Bool, (tl (wordOf b)).all letter = true := by decide
  intro m
  have := List.all_eq_true.mp (e b) c m
  rw [this] at hc; cases hc
theorem joinL_free {c : Nat} {S : List Nat} (hS : c ∉ S) : ∀ {ls : List (List Nat)}, (∀ l ∈ ls, c ∉ l) → c ∉ joinL S ls
  | [], _ => by simp [joinL]
  | [l], h => h l (by simp)
  | l :: k :: r, h => by
    show c ∉ l ++ (S ++ joinL S (k :: r))
    intro m
    rcases List.mem_append.mp m with m | m
    · exact h l (by simp) m
    · rcases List.mem_append.mp m with m | m
      · exact hS m
      · exact joinL_free hS (fun z hz => h z (List.mem_cons_of_mem _ hz)) m
theorem join_free {c : Nat} {y : Str} (hy : c ∉ tl y) {ls : List Str} (h : ∀ l ∈ ls, c ∉ tl l) : c ∉ tl (Txt.join y ls) := by
  rw [join_eq, tl_join]
  refine joinL_free hy fun l hl => ?_
  obtain ⟨z, hz, rfl⟩ := List.mem_map.mp hl
  exact h z hz
theorem ans_words {a : An} (h : AnOk a) : ∀ l ∈ [a.1, wordOf a.2.2, a.2.1], ∀ c, letter c = false → c ∉ tl l := fun l hl c hc => by
  rcases List.mem_cons.mp hl with rfl | hl
  · exact h.n1.free hc
  rcases List.mem_cons.mp hl with rfl | hl
  · exact word_free _ hc
  · rw [List.mem_singleton.mp hl]; exact h.n2.free hc
theorem ans_free {a : An} (h : AnOk a) {c : Nat} (hc : letter c = false) (h32 : c ≠ 32) : c ∉ tl (ansText a) := join_free (by show c ∉ [32]; simp [h32]) fun l hl => ans_words h l hl c hc
theorem ans_read {a : An} (h : AnOk a) : Txt.split (ansText a) " " = [a.1, wordOf a.2.2, a.2.1] := words_read (by simp) fun l hl => ans_words h l hl 32 (by decide)
theorem things_free {xs : List Str} (h : Nms xs) {c : Nat} (hc : letter c = false) (h32 : c ≠ 32) : c ∉ tl (thingsLine xs) := join_free (by show c ∉ [32]; simp [h32]) fun l hl => by
  rcases List.mem_cons.mp hl with rfl | hl
  · intro m
    have e : (tl ("things" : Str)).all letter = true := by decide
    have := List.all_eq_true.mp e c m
    rw [this] at hc; cases hc
  · exact (h.all l hl).free hc
theorem things_read {xs : List Str} (h : Nms xs) : Txt.split (thingsLine xs) " " = ("things" : Str) :: xs := words_read (by simp) fun l hl => by
  rcases List.mem_cons.mp hl with rfl | hl
  · decide
  · exact (h.all l hl).free (by decide)
/-! ### numbers -/
theorem tl_numN {i : Int} (h : 0 ≤ i) : tl (num i) = numL i.toNat := by
  have e : i = ((i.toNat : Nat) : Int) := by omega
  unfold num
  rw [e]
  exact tl_num _
theorem tl_numZ {i : Int} (h : i < 0) : tl (num i) = 45 :: numL (-i).toNat := by
  have e : (0 : Int) - i = (((-i).toNat : Nat) : Int) := by omega
  have z : tl (Str.ofString (toString (0 - i))) = numL (-i).toNat := by rw [e]; exact tl_num _
  unfold num
  show tl (Str.ofString (toString i)) = _
  rw [toString_neg h, tl_ofString, String.toList_append, List.map_append]
  rw [tl_ofString] at z
  rw [z]
  rfl
theorem pow40 : (10 : Nat) ^ 40 = 10000000000000000000000000000000000000000 := by decide
theorem numL_40 {n : Nat} (h : n < 10 ^ 40) : (numL n).length ≤ 40 := numL_len (by decide) h
theorem num_len {i : Int} (h : i.natAbs < 10 ^ 40) : (num i).length ≤ 41 := by
  rw [len_tl]
  by_cases h0 : 0 ≤ i
  · rw [tl_numN h0]
    have := numL_40 (n := i.toNat) (by have : i.toNat = i.natAbs := by omega
                                       omega)
    omega
  · rw [tl_numZ (by omega), List.length_cons]
    have := numL_40 (n := (-i).toNat) (by have : (-i).toNat = i.natAbs := by omega
                                          omega)
    omega
theorem num_read {i : Int} (h : i.natAbs < 10 ^ 40) : PySem.intText? (num i) = some i := by
  have hl := num_len h
  by_cases h0 : 0 ≤ i
  · have e : i = ((i.toNat : Nat) : Int) := by omega
    have q := int_num (n := i.toNat) (by rw [← tl_num, ← len_tl, ← e]; exact Nat.le_trans hl (by decide))
    rw [← e] at q
    exact q
  · have q := intText_neg (x := num i) (tl_numZ (by omega)) (numL_digits _) (numL_ne _) (Nat.le_trans hl (by decide))
    rw [numL_val] at q
    have e : (-(((-i).toNat : Nat) : Int)) = i := by omega
    rw [e] at q
    exact q
theorem numL_head (n : Nat) : ∃ d r, numL n = d :: r ∧ (d ≠ 48 ∨ n = 0) := by
  induction n using Nat.strongRecOn with
  | _ n ih =>
    by_cases h : n < 10
    · refine ⟨48 + n, [], numL_lt h, ?_⟩
      omega
    · obtain ⟨d, r, e, hd⟩ := ih (n / 10) (by omega)
      refine ⟨d, r ++ [48 + n % 10], by rw [numL_step (by omega), e]; rfl, .inl ?_⟩
      rcases hd with hd | hd
      · exact hd
      · omega
theorem num_free {i : Int} {c : Nat} (hc : c < 48 ∨ 57 < c) (h45 : c ≠ 45) : c ∉ tl (num i) := by
  by_cases h0 : 0 ≤ i
  · rw [tl_numN h0]; exact numL_free hc
  · rw [tl_numZ (by omega)]
    intro m
    rcases List.mem_cons.mp m with m | m
    · exact h45 m
    · exact numL_free hc m
end BB
set_option maxHeartbeats 1000000
namespace BB
open PySem PySem.Spec PyProof.Rows L2 DL
/-- the facts of the notation's module -/
structure Fw (K : PySem.W.Frag) (mg : Str → Option Value) : Prop where
  words : ∃ wa, mg "WORDS" = some (.ref wa) ∧ DictB K wa yesW noW
  empty : ∃ t, mg "EMPTY" = some (.str "-" t)
  showAnswer : FnAt K mg "show_answer" (top 26)
  showWalk : FnAt K mg "show_walk" (top 27)
  linesText : FnAt K mg "lines_text" (top 28)
  thingsLine : FnAt K mg "things_line" (top 29)
variable {P : Program} {w : World} {K : PySem.W.Frag} {mg : Str → Option Value} {base : Heap}
theorem sc_showAnswer : FnScope ["answer", "x", "y", "truth"] ["answer"] (defScope (top 26)) := ⟨rfl, rfl, rfl, by decide +kernel, rfl, by decide +kernel, by decide +kernel⟩
theorem fn_showAnswer (T : Fk K mg) (W : Fw K mg) (a : An) (ha : AnOk a) : FnT P w K mg base "show_answer" 1 (fun M l => l = [dAn a]) (fun _ => Is (.str (ansText a))) := by
  refine fn_def W.showAnswer sc_showAnswer (fun _ _ _ _ _ _ us hl => match us, hl with | [_], _ => rfl) (fun M l e => by rw [e]; rfl) fun f cdv A outer s H E M l hr e => ?_
  subst e
  obtain ⟨wa, hw, W1⟩ := W.words
  refine dps_cons (dp_tup3 (i := 1) (j := 2) (k := 3) rfl sc_showAnswer.nd (dv 0)) (dps_one (dp_ret ?_))
  refine d_join (ys := [a.1, wordOf a.2.2, a.2.1]) d_str (d_lst (da_cons (dv 1) (da_cons (d_words W1 hw (dv 3)) (da_1 (dv 2)))) (by simp)) ?_
  refine join_fits (m := 8) (k := 3) (fun p hp => ?_) (Nat.le_refl _) (by decide)
  rcases List.mem_cons.mp hp with rfl | hp
  · exact ha.n1.short
  rcases List.mem_cons.mp hp with rfl | hp
  · exact Nat.le_trans (word_len _) (by decide)
  · rw [List.mem_singleton.mp hp]; exact ha.n2.short
theorem sc_showWalk : FnScope ["walk", "answer"] ["walk"] (defScope (top 27)) := ⟨rfl, rfl, rfl, by decide +kernel, rfl, by decide +kernel, by decide +kernel⟩
theorem cps_le {x : Str} (h : Nm x) : sOk x := by
  show PyData.canLay0 (.str x) = true
  rw [PyData.canLay0]
  show x.cps.all _ = true
  rw [Array.all_eq_true_iff_forall_mem]
  intro c hc
  have := h.sg c (Array.mem_toList_iff.mpr hc)
  have h2 : 97 ≤ c ∧ c ≤ 122 := of_decide_eq_true this
  exact decide_eq_true (by omega)
theorem shp_anOk {a : An} (h : AnOk a) : Shp 1 (dAn a) := shp_an (cps_le h.n1) (cps_le h.n2)
theorem shp_prOk {p : Pr} (h : PrOk p) : Shp 1 (dPr p) := shp_pr (cps_le h.n1) (cps_le h.n2)
theorem shp_nil : Shp 1 (.lst []) := shp_lst (n := 0) fun _ h => by cases h
theorem hu64 {k : Nat} {A : Around} (h : Room k A) : A.units + 64 < cLine := h.units
theorem hu65 {k : Nat} {A : Around} (h : Room k A) : A.units + 65 < cLine := by have := h.un; omega
theorem fn_showWalk (T : Fk K mg) (W : Fw K mg) (as : List An) (ha : ∀ a ∈ as, AnOk a) (hl : as.length ≤ 1000) : FnT P w K mg base "show_walk" 2 (fun M l => l = [.lst (as.map dAn)]) (fun _ => Is (.str (walkText as))) := by
  refine fn_def W.showWalk sc_showWalk (fun _ _ _ _ _ _ us hl => match us, hl with | [_], _ => rfl) (fun M l e => by rw [e]; rfl) fun f cdv A outer s H E M l hr e => ?_
  subst e
  obtain ⟨t, he⟩ := W.empty
  refine dps_one (dp_ret ?_)
  refine d_if (p := !(as.map dAn).isEmpty) (c_neD (n := 2) (hu64 hr) (dv 0) (d_lst da_nil) (shp_lst (shp_mapd fun a h => shp_anOk (ha a h))) (shp_nil.mono (by decide)) (by decide) (eqv_nil _)).t (fun h => ?_) (fun h => ?_)
  · have hne : as ≠ [] := fun z => by rw [z] at h; cases h
    refine DV.to (d_join (ys := as.map ansText) d_str ?_ ?_) (by unfold walkText; rw [if_neg hne])
    · rw [List.map_map]
      exact d_lc (F := dAn) (f := D.str ∘ ansText) (own := [("answer", 1)]) (is := [1]) (u := fun d ds => ds.set 1 (some d)) rfl sc_showWalk.nd (.inl (di_lstV (dv 0))) (blkOk_by (by rfl)) (fun _ _ _ _ _ => pg_name (i := 1) sc_showWalk.nd rfl (Or.inl rfl)) (fun _ _ => tg1) (by decide)
        (fun _ _ _ _ _ y hy => d_call (fn_showAnswer T W y (ha y hy)) hr (da_1 (dv 1)) rfl fun z hz => hz) (Nat.le_trans hl (by decide))
    · refine join_fits (m := 27) (k := 1000) (fun p hp => ?_) (by rw [List.length_map]; exact hl) (by decide)
      obtain ⟨a, h1, rfl⟩ := List.mem_map.mp hp
      exact ans_len (ha a h1)
  · have he0 : as = [] := by
      cases as with
      | nil => rfl
      | cons _ _ => cases h
    exact DV.to (d_gstr he) (by rw [he0]; rfl)
theorem sc_linesText : FnScope ["lines", "line"] ["lines"] (defScope (top 28)) := ⟨rfl, rfl, rfl, by decide +kernel, rfl, by decide +kernel, by decide +kernel⟩
theorem fn_linesText (W : Fw K mg) (T : Fk K mg) (ls : List Str) (hm : ∀ l ∈ ls, l.length ≤ 10000) (hl : ls.length ≤ 1001) : FnT P w K mg base "lines_text" 1 (fun M l => l = [.lst (dNs ls)]) (fun _ => Is (.str (linesText ls))) := by
  refine fn_def W.linesText sc_linesText (fun _ _ _ _ _ _ us hl => match us, hl with | [_], _ => rfl) (fun M l e => by rw [e]; rfl) fun f cdv A outer s H E M l hr e => ?_
  subst e
  refine dps_one (dp_ret (d_join (ys := ls.map fun l => l ++ ("\n" : Str)) d_str ?_ ?_))
  · rw [List.map_map]
    exact d_lc (F := .str) (f := D.str ∘ fun l => l ++ ("\n" : Str)) (own := [("line", 1)]) (is := [1]) (u := fun d ds => ds.set 1 (some d)) rfl sc_linesText.nd (.inl (di_lstV (dv 0))) (blkOk_by (by rfl)) (fun _ _ _ _ _ => pg_name (i := 1) sc_linesText.nd rfl (Or.inl rfl)) (fun _ _ => tg1) (by decide)
        (fun _ _ _ _ _ y hy => d_cat (dv 1) d_str (Nat.le_trans (Nat.add_le_add_right (hm y hy) _) (by decide))) (Nat.le_trans hl (by decide))
  · refine join_fits (m := 10001) (k := 1001) (fun p hp => ?_) (by rw [List.length_map]; exact hl) (by decide)
    obtain ⟨a, h1, rfl⟩ := List.mem_map.mp hp
    rw [len_app]
    exact Nat.add_le_add_right (hm a h1) 1
theorem sc_thingsLine : FnScope ["things"] ["things"] (defScope (top 29)) := ⟨rfl, rfl, rfl, by decide +kernel, rfl, by decide +kernel, by decide +kernel⟩
theorem fn_thingsLine (W : Fw K mg) (xs : List Str) (hx : Nms xs) : FnT P w K mg base "things_line" 1 (fun M l => l = [.lst (dNs xs)]) (fun _ => Is (.str (thingsLine xs))) := by
  refine fn_def W.thingsLine sc_thingsLine (fun _ _ _ _ _ _ us hl => match us, hl with | [_], _ => rfl) (fun M l e => by rw [e]; rfl) fun f cdv A outer s H E M l hr e => ?_
  subst e
  have hf := hx.few
  refine dps_one (dp_ret (d_join (ys := ("things" : Str) :: xs) d_str (DV.to (d_lstL (da_cons d_str (da_star (dv 0) (.inl rfl) da_nil)) ?_) ?_) ?_))
  · rw [List.append_nil, List.length_cons, List.length_map]
    exact Nat.le_trans (show xs.length + 1 ≤ 1000 by omega) (by decide)
  · rw [List.append_nil]; rfl
  · refine join_fits (m := 8) (k := 1001) (fun p hp => ?_) (by rw [List.length_cons]; omega) (by decide)
    rcases List.mem_cons.mp hp with rfl | hp
    · decide
    · exact (hx.all p hp).short
end BB
set_option maxHeartbeats 1000000
namespace DL
open PySem PySem.Spec PyProof.Rows L2
/-- where a method stands -/
structure MtAt (K : PySem.W.Frag) (C : Addr) (m qual : Str) (st : Stmt) : Prop where
  ex : ∃ f fd, FunD K m qual (defArgs st) (defBody st) (defScope st) [] [] f fd ∧ Meth K C m f
theorem mt_def {P : Program} {w : World} {K : PySem.W.Frag} {mg : Str → Option Value} {base : Heap} {k : Nat} {N ps : List Str} {C : Addr} {m qual : Str} {Pre : Mu → List D → Prop} {Rt : List D → D → Prop} {st : Stmt} (F : MtAt K C m qual st) (S : FnScope N ps (defScope st))
    (hbd : ∀ (kV doc pm : Value) (an : Option Addr) (cdv ct : Value) (us : List Value), us.length = ps.length → bindArgs (PySem.W.fnOf m qual (defArgs st) (defBody st) (defScope st) .none kV doc pm an cdv ct) ⟨us, []⟩ = pure (ps.zip us)) (hl : ∀ M l, Pre M l → l.length = ps.length)
    (hb : ∀ (f : Addr) (cdv : Value) (A : Around) (outer : List Env) (s : Shared) (H : Hp) (E : XK) (M : Mu) (l : List D), Room k (A.deeper (envOfC qual (defScope st) s.heap.objs.size f cdv)) → Pre M l →
      DPs (cxOf CX0 P w K mg base N qual (defScope st) f cdv A outer s H E).nox M (defBody st) (slots N l) (fun _ => Rt l .non) (Rt l)) : MtT P w K mg base C m (k + 1) Pre Rt := by
  obtain ⟨f, fd, F, hm⟩ := F.ex
  exact ⟨f, fd, ps, ok_def F S hl (hb f), hm, F.bindsN hbd⟩
end DL
namespace BB
open PySem PySem.Spec PyProof.Rows L2 DL
/-- the facts of a class -/
structure Fb (K : PySem.W.Frag) (C : Addr) : Prop where
  cls : Cls K C
  f1 : NoAttr K C "its_things"
  f2 : NoAttr K C "its_truths"
  f3 : NoAttr K C "its_answers"
  things : MtAt K C "things" "Book.things" (mth 22 1)
  answers : MtAt K C "answers" "Book.answers" (mth 22 2)
structure Ft (K : PySem.W.Frag) (C : Addr) : Prop where
  cls : Cls K C
  f1 : NoAttr K C "kept_things"
  f2 : NoAttr K C "kept_betters"
  things : MtAt K C "things" "Table.things" (mth 41 1)
  betters : MtAt K C "betters" "Table.betters" (mth 41 2)
structure Fs (K : PySem.W.Frag) (C : Addr) : Prop where
  cls : Cls K C
  f1 : NoAttr K C "its_worths"
  f2 : NoAttr K C "its_step"
  worths : MtAt K C "worths" "Scale.worths" (mth 35 3)
abbrev kS (x : Str) : Key := .inr x
def dTr (as : List An) : D := .dt (as.map fun a => ([kS a.1, kS a.2.1], .bl a.2.2))
def bookF (xs : List Str) (as : List An) : List (Str × D) := [("its_things", .tup (dNs xs)), ("its_truths", dTr as), ("its_answers", .tup (as.map dAn))]
def dBook (C : Addr) (xs : List Str) (as : List An) : D := .ob C (bookF xs as)
def tableF (xs : List Str) (ps : List Pr) : List (Str × D) := [("kept_things", .tup (dNs xs)), ("kept_betters", .tup (ps.map dPr))]
def dTable (C : Addr) (xs : List Str) (ps : List Pr) : D := .ob C (tableF xs ps)
abbrev Wt := Str × Int
def dWk (p : Wt) : Key × D := (kS p.1, .int p.2)
def dWs (ws : List Wt) : D := .dk (ws.map dWk)
def scaleF (ws : List Wt) (step : Int) : List (Str × D) := [("its_worths", dWs ws), ("its_step", .int step)]
def dScale (C : Addr) (ws : List Wt) (step : Int) : D := .ob C (scaleF ws step)
variable {P : Program} {w : World} {K : PySem.W.Frag} {mg : Str → Option Value} {base : Heap} {CB CT CS : Addr}
theorem sc_bThings : FnScope ["self"] ["self"] (defScope (mth 22 1)) := ⟨rfl, rfl, rfl, by decide +kernel, rfl, by decide +kernel, by decide +kernel⟩
theorem mt_bThings (T : Fk K mg) (B : Fb K CB) (xs : List Str) (as : List An) : MtT P w K mg base CB "things" 1 (fun M l => l = [dBook CB xs as]) (fun _ => Is (.lst (dNs xs))) := by
  refine mt_def B.things sc_bThings (fun _ _ _ _ _ _ us hl => match us, hl with | [_], _ => rfl) (fun M l e => by rw [e]; rfl) fun f cdv A outer s H E M l hr e => ?_
  subst e
  exact dps_one (dp_ret (d_listOf (DX.weak (d_fld (dv 0) B.cls B.f1 rfl) fun d h => .inr h) T.b.list))
theorem sc_bAnswers : FnScope ["self"] ["self"] (defScope (mth 22 2)) := ⟨rfl, rfl, rfl, by decide +kernel, rfl, by decide +kernel, by decide +kernel⟩
theorem mt_bAnswers (T : Fk K mg) (B : Fb K CB) (xs : List Str) (as : List An) : MtT P w K mg base CB "answers" 1 (fun M l => l = [dBook CB xs as]) (fun _ => Is (.lst (as.map dAn))) := by
  refine mt_def B.answers sc_bAnswers (fun _ _ _ _ _ _ us hl => match us, hl with | [_], _ => rfl) (fun M l e => by rw [e]; rfl) fun f cdv A outer s H E M l hr e => ?_
  subst e
  exact dps_one (dp_ret (d_listOf (DX.weak (d_fld (dv 0) B.cls B.f3 rfl) fun d h => .inr h) T.b.list))
theorem sc_tThings : FnScope ["self"] ["self"] (defScope (mth 41 1)) := ⟨rfl, rfl, rfl, by decide +kernel, rfl, by decide +kernel, by decide +kernel⟩
theorem mt_tThings (T : Fk K mg) (B : Ft K CT) (xs : List Str) (ps : List Pr) : MtT P w K mg base CT "things" 1 (fun M l => l = [dTable CT xs ps]) (fun _ => Is (.lst (dNs xs))) := by
  refine mt_def B.things sc_tThings (fun _ _ _ _ _ _ us hl => match us, hl with | [_], _ => rfl) (fun M l e => by rw [e]; rfl) fun f cdv A outer s H E M l hr e => ?_
  subst e
  exact dps_one (dp_ret (d_listOf (DX.weak (d_fld (dv 0) B.cls B.f1 rfl) fun d h => .inr h) T.b.list))
theorem sc_tBetters : FnScope ["self"] ["self"] (defScope (mth 41 2)) := ⟨rfl, rfl, rfl, by decide +kernel, rfl, by decide +kernel, by decide +kernel⟩
theorem mt_tBetters (T : Fk K mg) (B : Ft K CT) (xs : List Str) (ps : List Pr) : MtT P w K mg base CT "betters" 1 (fun M l => l = [dTable CT xs ps]) (fun _ => Is (.lst (ps.map dPr))) := by
  refine mt_def B.betters sc_tBetters (fun _ _ _ _ _ _ us hl => match us, hl with | [_], _ => rfl) (fun M l e => by rw [e]; rfl) fun f cdv A outer s H E M l hr e => ?_
  subst e
  exact dps_one (dp_ret (d_listOf (DX.weak (d_fld (dv 0) B.cls B.f2 rfl) fun d h => .inr h) T.b.list))
/-- the facts of showing -/
structure Fsh (K : PySem.W.Frag) (mg : Str → Option Value) : Prop where
  book : FnAt K mg "show_book" (top 30)
  table : FnAt K mg "show_table" (top 31)
  scale : FnAt K mg "show_scale" (top 32)
theorem sc_showBook : FnScope ["book", "answer"] ["book"] (defScope (top 30)) := ⟨rfl, rfl, rfl, by decide +kernel, rfl, by decide +kernel, by decide +kernel⟩
theorem lines_fit {xs : List Str} {ls : List Str} (hx : Nms xs) (hl : ∀ l ∈ ls, l.length ≤ 10000) : ∀ l ∈ thingsLine xs :: ls, l.length ≤ 10000 := fun l h => by
  rcases List.mem_cons.mp h with rfl | h
  · exact Nat.le_trans (things_len hx) (by decide)
  · exact hl l h
theorem fn_showBook (T : Fk K mg) (W : Fw K mg) (B : Fb K CB) (S : Fsh K mg) (xs : List Str) (as : List An) (hx : Nms xs) (ha : ∀ a ∈ as, AnOk a) (hl : as.length ≤ 1000) : FnT P w K mg base "show_book" 3 (fun M l => l = [dBook CB xs as]) (fun _ => Is (.str (bookText xs as))) := by
  refine fn_def S.book sc_showBook (fun _ _ _ _ _ _ us hl => match us, hl with | [_], _ => rfl) (fun M l e => by rw [e]; rfl) fun f cdv A outer s H E M l hr e => ?_
  subst e
  have hr1 : Room 1 _ := hr.mono (by decide)
  refine dps_one (dp_ret (d_call (fn_linesText W T (thingsLine xs :: as.map ansText) (lines_fit hx fun l h => ?_) (by rw [List.length_cons, List.length_map]; omega)) hr1 (da_1 ?_) rfl fun z hz => hz))
  · obtain ⟨a, h1, rfl⟩ := List.mem_map.mp h
    exact Nat.le_trans (ans_len (ha a h1)) (by decide)
  · refine DV.to (d_lstL (da_cons (d_call (fn_thingsLine W xs hx) hr1 (da_1 (d_meth0 (mt_bThings T B xs as) hr1 (dv 0) B.cls rfl rfl fun z hz => hz)) rfl fun z hz => hz)
      (da_star (xs := as.map fun a => D.str (ansText a)) (d_lc (F := dAn) (own := [("answer", 1)]) (is := [1]) (u := fun d ds => ds.set 1 (some d)) rfl sc_showBook.nd (.inl (di_lstV (d_meth0 (mt_bAnswers T B xs as) hr1 (dv 0) B.cls rfl rfl fun z hz => hz))) (blkOk_by (by rfl)) (fun _ _ _ _ _ => pg_name (i := 1) sc_showBook.nd rfl (Or.inl rfl)) (fun _ _ => tg1) (by decide)
        (fun _ _ _ _ _ y hy => d_call (fn_showAnswer T W y (ha y hy)) hr1 (da_1 (dv 1)) rfl fun z hz => hz) (Nat.le_trans hl (by decide))) (.inl rfl) da_nil)) ?_) ?_
    · rw [List.append_nil, List.length_cons, List.length_map]
      exact Nat.le_trans (Nat.succ_le_succ hl) (by decide)
    · rw [List.append_nil, dNs, List.map_cons, List.map_map]; rfl
end BB
set_option maxHeartbeats 1000000
namespace BB
open PySem PySem.Spec PyProof.Rows L2 DL
variable {P : Program} {w : World} {K : PySem.W.Frag} {mg : Str → Option Value} {base : Heap} {CB CT CS : Addr}
theorem sc_showTable : FnScope ["table", "pair"] ["table"] (defScope (top 31)) := ⟨rfl, rfl, rfl, by decide +kernel, rfl, by decide +kernel, by decide +kernel⟩
theorem fn_showTable (T : Fk K mg) (W : Fw K mg) (B : Ft K CT) (S : Fsh K mg) (xs : List Str) (ps : List Pr) (hx : Nms xs) (ha : ∀ p ∈ ps, PrOk p) (hl : ps.length ≤ 1000) : FnT P w K mg base "show_table" 3 (fun M l => l = [dTable CT xs ps]) (fun _ => Is (.str (tableText xs ps))) := by
  refine fn_def S.table sc_showTable (fun _ _ _ _ _ _ us hl => match us, hl with | [_], _ => rfl) (fun M l e => by rw [e]; rfl) fun f cdv A outer s H E M l hr e => ?_
  subst e
  have hr1 : Room 1 _ := hr.mono (by decide)
  refine dps_one (dp_ret (d_call (fn_linesText W T (thingsLine xs :: ps.map fun p => ansText (prAn p)) (lines_fit hx fun l h => ?_) (by rw [List.length_cons, List.length_map]; omega)) hr1 (da_1 ?_) rfl fun z hz => hz))
  · obtain ⟨a, h1, rfl⟩ := List.mem_map.mp h
    exact Nat.le_trans (ans_len (a := prAn a) (ha a h1)) (by decide)
  · refine DV.to (d_lstL (da_cons (d_call (fn_thingsLine W xs hx) hr1 (da_1 (d_meth0 (mt_tThings T B xs ps) hr1 (dv 0) B.cls rfl rfl fun z hz => hz)) rfl fun z hz => hz)
      (da_star (xs := ps.map fun p => D.str (ansText (prAn p))) (d_lc (F := dPr) (own := [("pair", 1)]) (is := [1]) (u := fun d ds => ds.set 1 (some d)) rfl sc_showTable.nd (.inl (di_lstV (d_meth0 (mt_tBetters T B xs ps) hr1 (dv 0) B.cls rfl rfl fun z hz => hz))) (blkOk_by (by rfl)) (fun _ _ _ _ _ => pg_name (i := 1) sc_showTable.nd rfl (Or.inl rfl)) (fun _ _ => tg1) (by decide)
        (fun _ _ _ _ _ y hy => d_call (fn_showAnswer T W (prAn y) (ha y hy)) hr1 (da_1 (d_tup (da_star (dv 1) (.inr rfl) (da_1 d_bl)) (by simp))) rfl fun z hz => hz) (Nat.le_trans hl (by decide))) (.inl rfl) da_nil)) ?_) ?_
    · rw [List.append_nil, List.length_cons, List.length_map]
      exact Nat.le_trans (Nat.succ_le_succ hl) (by decide)
    · rw [List.append_nil, dNs, List.map_cons, List.map_map]; rfl
/-! ### scales -/
structure Fs2 (K : PySem.W.Frag) (C : Addr) : Prop where
  step : PrAt K C "step" "Scale.step" (mth 35 1)
theorem sc_step : FnScope ["self"] ["self"] (defScope (mth 35 1)) := ⟨rfl, rfl, rfl, by decide +kernel, rfl, by decide +kernel, by decide +kernel⟩
theorem pr_step (B : Fs K CS) (B2 : Fs2 K CS) (ws : List Wt) (st : Int) : PrT P w K mg base CS "step" 1 (fun M l => l = [dScale CS ws st]) (fun _ => Is (.int st)) := by
  refine pr_def B2.step sc_step (fun _ _ _ _ _ _ us hl => match us, hl with | [_], _ => rfl) (fun M l e => by rw [e]; rfl) fun f cdv A outer s H E M l hr e => ?_
  subst e
  exact dps_one (dp_ret (d_fld (dv 0) B.cls B.f2 rfl))
theorem sc_worths : FnScope ["self"] ["self"] (defScope (mth 35 3)) := ⟨rfl, rfl, rfl, by decide +kernel, rfl, by decide +kernel, by decide +kernel⟩
theorem mt_worths (T : Fk K mg) (B : Fs K CS) (ws : List Wt) (st : Int) : MtT P w K mg base CS "worths" 1 (fun M l => l = [dScale CS ws st]) (fun _ => Is (dWs ws)) := by
  refine mt_def B.worths sc_worths (fun _ _ _ _ _ _ us hl => match us, hl with | [_], _ => rfl) (fun M l e => by rw [e]; rfl) fun f cdv A outer s H E M l hr e => ?_
  subst e
  exact dps_one (dp_ret (d_dictOf (kvs := ws.map dWk) (d_fld (dv 0) B.cls B.f1 rfl) T.b.dict))
structure WtOk (p : Wt) : Prop where
  nm : Nm p.1
  small : p.2.natAbs < 10 ^ 40
theorem log_small {i : Int} (h : i.natAbs < 10 ^ 40) : i.natAbs.log2 < 1920 := by
  by_cases h0 : i.natAbs = 0
  · rw [h0]; decide
  · refine (Nat.log2_lt h0).mpr (Nat.lt_of_lt_of_le h ?_)
    decide +kernel
theorem worth_len {p : Wt} (h : WtOk p) : (worthLine p).length ≤ 50 := by
  unfold worthLine
  rw [len_app, len_app]
  have h1 := h.nm.short
  have h2 := num_len h.small
  have h3 : (" " : Str).length = 1 := rfl
  omega
theorem sc_showScale : FnScope ["scale", "rows", "thing", "worth"] ["scale"] (defScope (top 32)) := ⟨rfl, rfl, rfl, by decide +kernel, rfl, by decide +kernel, by decide +kernel⟩
theorem fn_showScale (T : Fk K mg) (W : Fw K mg) (B : Fs K CS) (B2 : Fs2 K CS) (S : Fsh K mg) (ws : List Wt) (st : Int) (hw : ∀ p ∈ ws, WtOk p) (hl : ws.length ≤ 1000) (hs : st.natAbs < 10 ^ 40) : FnT P w K mg base "show_scale" 4 (fun M l => l = [dScale CS ws st]) (fun _ => Is (.str (scaleText ws st))) := by
  refine fn_def S.scale sc_showScale (fun _ _ _ _ _ _ us hl => match us, hl with | [_], _ => rfl) (fun M l e => by rw [e]; rfl) fun f cdv A outer s H E M l hr e => ?_
  subst e
  have hr1 : Room 1 _ := hr.mono (by decide)
  have hr2 : Room 2 _ := hr.mono (by decide)
  refine dps_cons (dp_setLc (F := fun p : Wt => .tup [.str p.1, .int p.2]) (f := fun p => .str (worthLine p)) (xs := ws) (own := [("thing", 2), ("worth", 3)]) (is := [2, 3]) (u := fun d ds => match d with | .tup [a, b] => (ds.set 2 (some a)).set 3 (some b) | _ => ds) 1 rfl sc_showScale.nd
    (.inr (PI.imp (di_items (Rk := Is (ws.map dWk)) (DX.weak (d_meth0 (mt_worths T B ws st) hr1 (dv 0) B.cls rfl rfl fun z hz => hz) fun d r => ⟨_, r, rfl⟩)) fun σ H R ⟨G, s, ok, k⟩ => ⟨G, s, ok, fun J els G1 H1 ⟨kvs, e, r⟩ => k J els G1 H1 (by rw [e, show kvs = _ from r, List.map_map]; rfl)⟩)) (blkOk_by (by rfl))
    (fun _ _ _ _ _ => pg_tup rfl (pgs_cons (pg_name (i := 2) sc_showScale.nd rfl (Or.inl rfl)) (pgs_cons (pg_name (i := 3) sc_showScale.nd rfl (Or.inl rfl)) pgs_nil))) (fun p _ => tg2) (by decide)
    (fun _ _ _ _ _ p hp => d_cat (d_cat (dv 2) d_str ?_) (d_strI (dv 3) (log_small (hw p hp).small) T.b.str) ?_) (Nat.le_trans hl (by decide))) (dps_one (dp_ret (d_call (fn_linesText W T ((("step " : Str) ++ num st) :: ws.map worthLine) (fun l h => ?_) (by rw [List.length_cons, List.length_map]; omega)) hr1 (da_1 ?_) rfl fun z hz => hz)))
  · exact Nat.le_trans (Nat.add_le_add_right (hw p hp).nm.short _) (by decide)
  · have h1 := (hw p hp).nm.short
    have h2 := num_len (hw p hp).small
    rw [len_app]
    have h3 : (" " : Str).length = 1 := rfl
    refine Nat.le_trans (Nat.add_le_add (Nat.add_le_add_right h1 _) h2) ?_
    rw [h3]
    decide
  · rcases List.mem_cons.mp h with rfl | h
    · rw [len_app]
      have := num_len hs
      have h3 : ("step " : Str).length = 5 := by decide
      omega
    · obtain ⟨p, hp, rfl⟩ := List.mem_map.mp h
      exact Nat.le_trans (worth_len (hw p hp)) (by decide)
  · refine DV.to (d_lstL (da_cons (d_cat d_str (d_strI (d_prop (pr_step B B2 ws st) hr2 (dv 0) B.cls rfl fun z hz => hz) (log_small hs) T.b.str) ?_) (da_star (xs := ws.map fun p => D.str (worthLine p)) (dv 1) (.inl rfl) da_nil)) ?_) ?_
    · have := num_len hs
      refine Nat.le_trans (Nat.add_le_add_left (show (num st).length ≤ 41 from this) _) ?_
      decide
    · rw [List.append_nil, List.length_cons, List.length_map]
      exact Nat.le_trans (Nat.succ_le_succ hl) (by decide)
    · rw [List.append_nil, dNs, List.map_cons, List.map_map]; rfl
end BB
set_option maxHeartbeats 1000000
namespace DL
open PySem PySem.Spec PyProof.Rows L2
theorem d_neg {X : Cx} {M : Mu} {ds : DS} {e : Expr} {i : Int} {pos : Pos} (h : DV X M e ds (.int i)) : DV X M (.UnaryOp .USub e pos) ds (.int (-i)) :=
  PE.imp (pe_un un_neg h) fun σ H Q ⟨G, s, ok, k⟩ => ⟨G, s, ok, fun d v G' H' r g t => by
    rw [show d = _ from r] at t
    cases t
    exact ⟨i, rfl, k _ _ G' H' rfl g (.int _)⟩⟩
theorem d_negI {X : Cx} {M : Mu} {ds : DS} (i : Int) {j} {p pos : Pos} : DV X M (.UnaryOp .USub (.Constant (.int i) j p) pos) ds (.int (-i)) := d_neg d_int
end DL
namespace BB
open PySem PySem.Spec PyProof.Rows L2 DL TL
/-- the facts of the readers' module -/
structure Fr (K : PySem.W.Frag) (w : World) (mg : Str → Option Value) : Prop where
  digits : ∃ t, mg "DIGITS" = some (.str "0123456789" t)
  most : ∃ t, mg "MOST_DIGITS" = some (.int 40 t)
  truths : ∃ ta, mg "TRUTHS" = some (.ref ta) ∧ DictT K w ta yesW noW
  need : FnAt K mg "need" (top 46)
  numberIn : FnAt K mg "number_in" (top 47)
  linesOf : FnAt K mg "lines_of" (top 48)
  thingsIn : FnAt K mg "things_in" (top 49)
  readAnswer : FnAt K mg "read_answer" (top 51)
  readWalk : FnAt K mg "read_walk" (top 52)
variable {P : Program} {w : World} {K : PySem.W.Frag} {mg : Str → Option Value} {base : Heap} {CB CT CS : Addr}
theorem sc_need : FnScope ["holds"] ["holds"] (defScope (top 46)) := ⟨rfl, rfl, rfl, by decide +kernel, rfl, by decide +kernel, by decide +kernel⟩
theorem fn_need (Dr : Fr K w mg) : FnT P w K mg base "need" 1 (fun M l => l = [.bl true]) (fun _ => Is .non) := by
  refine fn_def Dr.need sc_need (fun _ _ _ _ _ _ us hl => match us, hl with | [_], _ => rfl) (fun M l e => by rw [e]; rfl) fun f cdv A outer s H E M l hr e => ?_
  subst e
  exact dps_one (dp_if (p := false) (DT.to (dt_not (p := true) (dt_v (dv 0))) rfl) (fun h => nomatch h) fun _ => dps_nil rfl)
theorem dp_need {X : Cx} {M : Mu} {ds : DS} {e : Expr} {p pos pos2 : Pos} {Rt : D → Prop} (Dr : Fr X.K X.w X.mg) (hr : Room 1 X.A) (he : DV X M e ds (.bl true)) (hg : Gl X "need" := by rfl)
    (hs : starEach [e] X.env = (false, eval e X.env) :: starEach [] X.env := by rfl) (hpl : (backTo pos (starEach [] X.env)).any (·.1) = false := by rfl) (hw : swapsWith (.Call (.Name "need" p) [e] [] pos) none pos2.line X.env = pure false := by rfl) :
    DP X M (.Expr (.Call (.Name "need" p) [e] [] pos) pos2) ds (Is ds) Rt := dp_expr (d_call (d := .non) (fn_need Dr) hr (da_1 he hs) rfl (fun z hz => hz) hg (by decide) hs hpl) rfl hw
theorem sc_numberIn : FnScope ["word", "digits", "sign"] ["word"] (defScope (top 47)) := ⟨rfl, rfl, rfl, by decide +kernel, rfl, by decide +kernel, by decide +kernel⟩
def digs (i : Int) : Str := ⟨(numL i.natAbs).toArray⟩
theorem tl_digs (i : Int) : tl (digs i) = numL i.natAbs := rfl
theorem digit_in {c : Nat} (h : 48 ≤ c ∧ c ≤ 57) : c ∈ (Str.ofString "0123456789").cps.toList := by
  have e : ∀ i : Fin 10, (48 + i.val) ∈ (Str.ofString "0123456789").cps.toList := by decide +kernel
  have q := e ⟨c - 48, by omega⟩
  have z : 48 + (c - 48) = c := by omega
  simpa [z] using q
theorem first_neg {i : Int} (h : i < 0) : cutS (num i) none (some 1) = ("-" : Str) ∧ cutS (num i) (some 1) none = digs i := by
  have e : (-i).toNat = i.natAbs := by omega
  refine ⟨ext_tl ?_, ext_tl ?_⟩
  · have := cutS_upto (num i) 1
    rw [show (some ((1 : Nat) : Int)) = some (1 : Int) from rfl] at this
    rw [this, tl_numZ h]
    rfl
  · have := cutS_from (num i) 1
    rw [show (some ((1 : Nat) : Int)) = some (1 : Int) from rfl] at this
    rw [this, tl_numZ h, e]
    rfl
theorem first_pos {i : Int} (h : 0 ≤ i) : cutS (num i) none (some 1) ≠ ("-" : Str) ∧ num i = digs i := by
  have e : i.toNat = i.natAbs := by omega
  refine ⟨fun z => ?_, ext_tl (by rw [tl_numN h, tl_digs, e])⟩
  have := cutS_upto (num i) 1
  rw [show (some ((1 : Nat) : Int)) = some (1 : Int) from rfl, z, tl_numN h] at this
  have m : 45 ∈ numL i.toNat := by
    refine List.mem_of_mem_take (i := 1) ?_
    rw [← this]
    decide
  exact numL_free (by decide) m
theorem fn_numberIn (T : Fk K mg) (Dr : Fr K w mg) (i : Int) (hi : i.natAbs < 10 ^ 40) : FnT P w K mg base "number_in" 2 (fun M l => l = [.str (num i)]) (fun _ => Is (.int i)) := by
  refine fn_def Dr.numberIn sc_numberIn (fun _ _ _ _ _ _ us hl => match us, hl with | [_], _ => rfl) (fun M l e => by rw [e]; rfl) fun f cdv A outer s H E M l hr e => ?_
  subst e
  obtain ⟨t1, e1⟩ := Dr.digits
  obtain ⟨t2, e2⟩ := Dr.most
  have hlen := num_len hi
  have hz : (num i).length ≤ sizeLine := Nat.le_trans hlen (by decide)
  have hd40 := numL_40 hi
  have hdl : (digs i).length = (numL i.natAbs).length := by rw [len_tl, tl_digs]
  have hdz : (digs i).length ≤ sizeLine := by rw [hdl]; exact Nat.le_trans hd40 (by decide)
  obtain ⟨d, r, hdr, hd0⟩ := numL_head i.natAbs
  refine dps_cons (dp_set (d := .str (digs i)) 1 sc_numberIn.nd ?_) (dps_cons (dp_need Dr hr ?_) (dps_cons (dp_need Dr hr ?_) (dps_one (dp_ret (d_intS (dv 0) (num_read hi) (Nat.le_trans hlen (by decide)) T.b.int)))))
  · by_cases h0 : i < 0
    · obtain ⟨a, b⟩ := first_neg h0
      exact d_if (p := true) ((c_eqS (d_slS (dv 0) do_none (do_some d_int) hz) d_str).to (by rw [a]; rfl)).t (fun _ => DV.to (d_slS (dv 0) (do_some d_int) do_none hz) (by rw [b])) fun h => nomatch h
    · obtain ⟨a, b⟩ := first_pos (i := i) (by omega)
      exact d_if (p := false) ((c_eqS (d_slS (dv 0) do_none (do_some d_int) hz) d_str).to (decide_eq_false a)).t (fun h => nomatch h) fun _ => DV.to (dv 0) (congrArg D.str b)
  · have hpos : 1 ≤ (numL i.natAbs).length := by rw [hdr]; simp
    refine DV.to (d_and2 (p := true) (q := true) (DV.to (d_chain_le d_int (d_len (m := (digs i).length) (dv 1) (.inr (.inr ⟨_, rfl, rfl, hdz⟩)) T.b.len) (d_gint e2)) ?_) fun _ => DV.to (d_all (bs := (tl (digs i)).map fun _ => true) rfl ?_ T.b.all) (by simp)) rfl
    · rw [decide_eq_true (show (1 : Int) ≤ ((digs i).length : Int) by omega), decide_eq_true (show ((digs i).length : Int) ≤ 40 by omega)]
      rfl
    · rw [map_true]
      refine d_lc (F := fun c => .str ⟨#[c]⟩) (own := [("sign", 2)]) (is := [2]) (u := fun d ds => ds.set 2 (some d)) rfl sc_numberIn.nd (.inl (di_str (dv 1))) (blkOk_by (by rfl)) (fun _ _ _ _ _ => pg_name (i := 2) sc_numberIn.nd rfl (Or.inl rfl)) (fun _ _ => tg1) (by decide)
        (fun _ _ _ _ _ c hc => DV.to (d_sign (dv 2) (d_gstr e1)) ?_) (by rw [← len_tl]; exact hdz)
      rw [decide_eq_true (digit_in (numL_digits _ c (by rw [tl_digs] at hc; exact hc)))]
  · have hat : atI (digs i).cps.toList 0 = some d := by
      rw [show (digs i).cps.toList = numL i.natAbs from rfl, hdr]
      exact atI_nat (j := 0) rfl
    rcases hd0 with hd0 | hd0
    · exact DV.to (d_or2 (p := true) (q := true) ((c_neS (d_ixS (dv 1) d_int hat hdz) d_str).to (by
        rw [decide_eq_false (fun z => hd0 (by
          have := congrArg tl z
          exact (List.cons.inj this).1))]; rfl)).v (fun h => nomatch h)) rfl
    · have hi0 : i = 0 := by omega
      subst hi0
      have hd : d = 48 := by
        have : numL 0 = [48] := numL_lt (by decide)
        rw [show (0 : Int).natAbs = 0 from rfl, this] at hdr
        exact (List.cons.inj hdr).1.symm
      subst hd
      exact DV.to (d_or2 (p := false) (q := true) ((c_neS (d_ixS (dv 1) d_int hat hdz) d_str).to (by decide)).v (fun _ => ((c_eqS (dv 0) d_str).to (by decide)).v)) rfl
theorem sc_linesOf : FnScope ["text"] ["text"] (defScope (top 48)) := ⟨rfl, rfl, rfl, by decide +kernel, rfl, by decide +kernel, by decide +kernel⟩
theorem fn_linesOf (T : Fk K mg) (Dr : Fr K w mg) (ls : List Str) (h0 : ls ≠ []) (hf : ∀ l ∈ ls, 10 ∉ tl l) (hz : (linesText ls).length + 2 ≤ sizeLine) : FnT P w K mg base "lines_of" 2 (fun M l => l = [.str (linesText ls)]) (fun _ => Is (.lst (dNs ls))) := by
  refine fn_def Dr.linesOf sc_linesOf (fun _ _ _ _ _ _ us hl => match us, hl with | [_], _ => rfl) (fun M l e => by rw [e]; rfl) fun f cdv A outer s H E M l hr e => ?_
  subst e
  have hz1 : (linesText ls).length ≤ sizeLine := by omega
  have hn : ("\n" : Str).length = 1 := rfl
  have e1 : cutS (linesText ls) (some (-1)) none = "\n" := by rw [lines_eq h0]; exact cut_last hn
  have e2 : cutS (linesText ls) none (some (-1)) = Txt.join "\n" ls := by rw [lines_eq h0]; exact cut_init hn
  have hj : (Txt.join "\n" ls).length + 2 ≤ sizeLine := by
    have := hz
    rw [lines_eq h0, len_app] at this
    omega
  refine dps_cons (dp_need Dr hr (DV.to (d_and2 (p := true) (q := true) (d_isi (T := "str") (dv 0) rfl (by decide +kernel) T.b.isi T.b.str) fun _ => ((c_eqS (d_slS (dv 0) (do_some (d_negI 1)) do_none hz1) d_str).to (by rw [e1]; rfl)).v) rfl)) (dps_one (dp_ret (DV.to (d_split (DV.to (d_slS (dv 0) do_none (do_some (d_negI 1)) hz1) (congrArg D.str e2)) d_str rfl hj) ?_)))
  rw [lines_read h0 hf]
theorem sc_thingsIn : FnScope ["line", "words"] ["line"] (defScope (top 49)) := ⟨rfl, rfl, rfl, by decide +kernel, rfl, by decide +kernel, by decide +kernel⟩
theorem fn_thingsIn (T : Fk K mg) (Dr : Fr K w mg) (xs : List Str) (hx : Nms xs) : FnT P w K mg base "things_in" 2 (fun M l => l = [.str (thingsLine xs)]) (fun _ => Is (.lst (dNs xs))) := by
  refine fn_def Dr.thingsIn sc_thingsIn (fun _ _ _ _ _ _ us hl => match us, hl with | [_], _ => rfl) (fun M l e => by rw [e]; rfl) fun f cdv A outer s H E M l hr e => ?_
  subst e
  have hz : (thingsLine xs).length + 2 ≤ sizeLine := Nat.le_trans (Nat.add_le_add_right (things_len hx) 2) (by decide)
  refine dps_cons (dp_set (d := .lst (dNs (("things" : Str) :: xs))) 1 sc_thingsIn.nd (DV.to (d_split (dv 0) d_str rfl hz) (by rw [things_read hx]))) (dps_cons (dp_need Dr hr (DV.to ((c_eqS (z := "things") (d_ixL (dv 1) d_int (atI_nat (j := 0) rfl)) d_str).v) rfl)) (dps_one (dp_ret (DV.to (d_slL (dv 1) (do_some d_int) do_none) ?_))))
  exact congrArg D.lst (cut_from (dNs (("things" : Str) :: xs)) 1)
theorem sc_readAnswer : FnScope ["text", "words", "answer"] ["text"] (defScope (top 51)) := ⟨rfl, rfl, rfl, by decide +kernel, rfl, by decide +kernel, by decide +kernel⟩
theorem fn_readAnswer (T : Fk K mg) (Dr : Fr K w mg) (a : An) (ha : AnOk a) : FnT P w K mg base "read_answer" 6 (fun M l => l = [.str (ansText a)]) (fun _ => Is (dAn a)) := by
  refine fn_def Dr.readAnswer sc_readAnswer (fun _ _ _ _ _ _ us hl => match us, hl with | [_], _ => rfl) (fun M l e => by rw [e]; rfl) fun f cdv A outer s H E M l hr e => ?_
  subst e
  obtain ⟨ta, ht, W⟩ := Dr.truths
  have hr1 : Room 1 _ := hr.mono (by decide)
  have hz : (ansText a).length + 2 ≤ sizeLine := Nat.le_trans (Nat.add_le_add_right (ans_len ha) 2) (by decide)
  refine dps_cons (dp_need Dr hr1 (d_isi (T := "str") (dv 0) rfl (by decide +kernel) T.b.isi T.b.str))
    (dps_cons (dp_set (d := .lst [.str a.1, .str (wordOf a.2.2), .str a.2.1]) 1 sc_readAnswer.nd (DV.to (d_split (dv 0) d_str rfl hz) (by rw [ans_read ha]; rfl)))
    (dps_cons (dp_need Dr hr1 (DV.to (d_and2 (p := true) (q := true) (DV.to ((c_eqI (d_len (m := 3) (dv 1) (.inl ⟨_, rfl, rfl⟩) T.b.len) d_int).v) rfl) fun _ => d_inTruths W ht a.2.2 (d_ixL (dv 1) d_int (atI_nat (j := 1) rfl))) rfl))
    (dps_cons (dp_set (d := dAn a) 2 sc_readAnswer.nd (d_tup (da_cons (d_ixL (dv 1) d_int (atI_nat (j := 0) rfl)) (da_cons (d_ixL (dv 1) d_int (atI_nat (j := 2) rfl)) (da_1 (d_truths W ht a.2.2 (d_ixL (dv 1) d_int (atI_nat (j := 1) rfl)))))) (by simp)))
    (dps_cons (dp_need Dr hr1 (d_call (fn_answer T) hr (da_1 (dv 2)) ⟨a, rfl, ha⟩ fun z hz => hz)) (dps_one (dp_ret (dv 2)))))))
theorem sc_readWalk : FnScope ["text", "part"] ["text"] (defScope (top 52)) := ⟨rfl, rfl, rfl, by decide +kernel, rfl, by decide +kernel, by decide +kernel⟩
theorem walk_len {as : List An} (ha : ∀ a ∈ as, AnOk a) (hl : as.length ≤ 1000) : (walkText as).length + 2 ≤ sizeLine := by
  unfold walkText
  split
  · decide
  · have h1 := join_len (y := (", " : Str)) (parts := as.map ansText) (m := 27) fun p hp => by
      obtain ⟨a, h1, rfl⟩ := List.mem_map.mp hp
      exact ans_len (ha a h1)
    rw [List.length_map] at h1
    have h2 : as.length * (27 + (", " : Str).length) ≤ 1000 * 29 := Nat.mul_le_mul hl (by decide)
    exact Nat.le_trans (Nat.add_le_add_right (Nat.le_trans h1 h2) 2) (by decide)
theorem ans_ne {a : An} (h : AnOk a) : 45 ∉ tl (ansText a) ∧ ansText a ≠ ("-" : Str) := by
  have f := ans_free h (c := 45) (by decide) (by decide)
  exact ⟨f, fun z => f (by rw [z]; decide)⟩
theorem walk_empty {as : List An} (ha : ∀ a ∈ as, AnOk a) : walkText as = ("-" : Str) ↔ as = [] := by
  unfold walkText
  constructor
  · intro h
    by_cases e : as = []
    · exact e
    · rw [if_neg e] at h
      exact absurd (show 45 ∈ tl (Txt.join ", " (as.map ansText)) by rw [h]; decide) (join_free (by decide) fun l hl => by
        obtain ⟨a, h1, rfl⟩ := List.mem_map.mp hl
        exact (ans_ne (ha a h1)).1)
  · rintro rfl; rfl
theorem fn_readWalk (T : Fk K mg) (W : Fw K mg) (Dr : Fr K w mg) (as : List An) (ha : ∀ a ∈ as, AnOk a) (hl : as.length ≤ 1000) : FnT P w K mg base "read_walk" 7 (fun M l => l = [.str (walkText as)]) (fun _ => Is (.lst (as.map dAn))) := by
  refine fn_def Dr.readWalk sc_readWalk (fun _ _ _ _ _ _ us hl => match us, hl with | [_], _ => rfl) (fun M l e => by rw [e]; rfl) fun f cdv A outer s H E M l hr e => ?_
  subst e
  obtain ⟨t, he⟩ := W.empty
  have hr1 : Room 1 _ := hr.mono (by decide)
  refine dps_cons (dp_need Dr hr1 (d_isi (T := "str") (dv 0) rfl (by decide +kernel) T.b.isi T.b.str)) (dps_one (dp_ret ?_))
  refine d_if (c_neS (dv 0) (d_gstr he)).t (fun h => ?_) fun h => ?_
  · have hne : as ≠ [] := fun z => by
      have := (walk_empty ha).mpr z
      rw [this] at h
      simp at h
    have es : Txt.split (walkText as) ", " = as.map ansText := by
      unfold walkText
      rw [if_neg hne]
      exact parts_read (by simpa using hne) fun l hl => by
        obtain ⟨a, h1, rfl⟩ := List.mem_map.mp hl
        exact ans_free (ha a h1) (by decide) (by decide)
    exact d_lc (F := fun a : An => .str (ansText a)) (own := [("part", 1)]) (is := [1]) (u := fun d ds => ds.set 1 (some d)) rfl sc_readWalk.nd (.inl (di_lstV (DV.to (d_split (dv 0) d_str rfl (walk_len ha hl)) (by rw [es, List.map_map]; rfl)))) (blkOk_by (by rfl)) (fun _ _ _ _ _ => pg_name (i := 1) sc_readWalk.nd rfl (Or.inl rfl)) (fun _ _ => tg1) (by decide)
        (fun _ _ _ _ _ y hy => d_call (fn_readAnswer T Dr y (ha y hy)) hr (da_1 (dv 1)) rfl fun z hz => hz) (Nat.le_trans hl (by decide))
  · have h0 : as = [] := (walk_empty ha).mp (by simpa using h)
    subst h0
    exact d_lst da_nil
end BB
set_option maxHeartbeats 1000000
namespace BB
open PySem PySem.Spec PyProof.Rows L2 DL SO PySem.W
/-! ### sorting -/
section
variable {α : Type} {f : α → D} {xs ys : List α}
def tkF (f : α → D) (a : α) : List (Int ⊕ List Nat) := keyToks (py (f a))
def leF (f : α → D) : α → α → Bool := dataLe false fun a => py (f a)
theorem leF_eq (a b : α) : leF f a b = !(lexLt itemOrd (tkF f b) (tkF f a)) := rfl
theorem leF_tot : TotalLe (leF f) := show TotalLe (sortLe (listOrd itemOrd) false fun a => keyToks (py (f a))) from sortLe_total _ _ _
def srtF (f : α → D) (xs : List α) : List α := xs.mergeSort (leF f)
theorem srtD_map : srtD (xs.map f) = (srtF f xs).map f := (sort_maps f fun _ _ _ _ => rfl).symm
theorem srt_perm : (srtF f xs).Perm xs := List.mergeSort_perm _ _
theorem srt_pw : (srtF f xs).Pairwise fun a b => leF f a b = true := sort_pairwise leF_tot xs
theorem srt_id (h : xs.Pairwise fun a b => leF f a b = true) : srtF f xs = xs := List.mergeSort_of_pairwise h
theorem srt_srt : srtF f (srtF f xs) = srtF f xs := srt_id srt_pw
theorem srt_mem {a : α} : a ∈ srtF f xs ↔ a ∈ xs := srt_perm.mem_iff
theorem srt_len : (srtF f xs).length = xs.length := srt_perm.length_eq
theorem srt_nd (h : xs.Nodup) : (srtF f xs).Nodup := srt_perm.nodup_iff.mpr h
theorem leF_anti (inj : ∀ a b, tkF f a = tkF f b → a = b) {a b : α} (h1 : leF f a b = true) (h2 : leF f b a = true) : a = b := by
  rw [leF_eq, Bool.not_eq_true'] at h1 h2
  exact inj a b (lex_total (O := itemOrd) _ _ h2 h1)
theorem srt_eq (inj : ∀ a b, tkF f a = tkF f b → a = b) (h : xs.Perm ys) : srtF f xs = srtF f ys :=
  List.Perm.eq_of_pairwise (le := fun a b => leF f a b = true) (fun a b _ _ h1 h2 => leF_anti inj h1 h2) srt_pw srt_pw (srt_perm.trans (h.trans srt_perm.symm))
end
theorem tk_str (x : Str) : tkF D.str x = [.inr x.cps.toList] := by unfold tkF; rw [py, keyToks]
theorem tk_pr (p : Pr) : tkF dPr p = [.inl 1, .inr p.1.cps.toList, .inl 1, .inr p.2.cps.toList, .inl 0] := by
  unfold tkF dPr
  rw [py, pys, pys, pys, py, py, keyToks, keyToksAll, keyToksAll, keyToksAll, keyToks, keyToks]
  rfl
theorem tk_an (a : An) : tkF dAn a = [.inl 1, .inr a.1.cps.toList, .inl 1, .inr a.2.1.cps.toList, .inl 1, .inl (if a.2.2 = true then 1 else 0), .inl 0] := by
  unfold tkF dAn
  rw [py, pys, pys, pys, pys, py, py, py, keyToks, keyToksAll, keyToksAll, keyToksAll, keyToksAll, keyToks, keyToks, keyToks]
  rfl
theorem inj_str (a b : Str) (h : tkF D.str a = tkF D.str b) : a = b := by
  rw [tk_str, tk_str] at h
  exact TL.ext_tl (Sum.inr.inj (List.cons.inj h).1)
theorem inj_pr (a b : Pr) (h : tkF dPr a = tkF dPr b) : a = b := by
  rw [tk_pr, tk_pr] at h
  simp only [List.cons.injEq, Sum.inr.injEq, and_true, true_and] at h
  exact Prod.ext (TL.ext_tl h.1) (TL.ext_tl h.2)
theorem inj_an (a b : An) (h : tkF dAn a = tkF dAn b) : a = b := by
  rw [tk_an, tk_an] at h
  simp only [List.cons.injEq, Sum.inr.injEq, Sum.inl.injEq, and_true, true_and] at h
  obtain ⟨h1, h2, h3⟩ := h
  obtain ⟨x, y, t⟩ := a
  obtain ⟨z, w, u⟩ := b
  refine Prod.ext (TL.ext_tl h1) (Prod.ext (TL.ext_tl h2) ?_)
  cases t <;> cases u <;> simp at h3 ⊢
theorem ne_cps {x y : Str} (h : x ≠ y) : (Sum.inr x.cps.toList : Int ⊕ List Nat) ≠ .inr y.cps.toList := fun e => h (TL.ext_tl (Sum.inr.inj e))
theorem le_str_ne {x y : Str} (h : x ≠ y) : leF D.str x y = !(itemOrd.blt (.inr y.cps.toList) (.inr x.cps.toList)) := by
  rw [leF_eq, tk_str, tk_str, lex_diff (O := itemOrd) (ne_cps h.symm)]
theorem le_pr (x y z w : Str) : leF dPr (x, y) (z, w) = if x = z then leF D.str y w else leF D.str x z := by
  rw [leF_eq, tk_pr, tk_pr, lex_self (O := itemOrd)]
  by_cases h : x = z
  · subst h
    rw [if_pos rfl, lex_self (O := itemOrd), lex_self (O := itemOrd)]
    by_cases h2 : y = w
    · subst h2
      rw [lex_self (O := itemOrd), lex_self (O := itemOrd)]
      exact (leF_tot.refl y).symm
    · rw [lex_diff (O := itemOrd) (ne_cps (Ne.symm h2)), le_str_ne h2]
  · rw [if_neg h, lex_diff (O := itemOrd) (ne_cps (Ne.symm h)), le_str_ne h]
theorem le_an {a b : An} (h : anP a ≠ anP b) : leF dAn a b = leF dPr (anP a) (anP b) := by
  obtain ⟨x, y, t⟩ := a
  obtain ⟨z, w, u⟩ := b
  rw [leF_eq, leF_eq, tk_an, tk_an, tk_pr, tk_pr]
  show (!lexLt itemOrd (.inl 1 :: .inr z.cps.toList :: .inl 1 :: .inr w.cps.toList :: _) (.inl 1 :: .inr x.cps.toList :: .inl 1 :: .inr y.cps.toList :: _)) = !lexLt itemOrd (.inl 1 :: .inr z.cps.toList :: .inl 1 :: .inr w.cps.toList :: _) (.inl 1 :: .inr x.cps.toList :: .inl 1 :: .inr y.cps.toList :: _)
  rw [lex_self (O := itemOrd), lex_self (O := itemOrd)]
  by_cases h1 : x = z
  · subst h1
    have h2 : y ≠ w := fun e => h (by rw [show y = w from e])
    rw [lex_self (O := itemOrd), lex_self (O := itemOrd), lex_self (O := itemOrd), lex_self (O := itemOrd), lex_diff (O := itemOrd) (ne_cps (Ne.symm h2)), lex_diff (O := itemOrd) (ne_cps (Ne.symm h2))]
  · rw [lex_diff (O := itemOrd) (ne_cps (Ne.symm h1)), lex_diff (O := itemOrd) (ne_cps (Ne.symm h1))]
/-- the pairs of things in order -/
def pairsOf (xs : List Str) : List Pr := xs.flatMap fun x => (xs.filter fun y => decide (y ≠ x)).map fun y => (x, y)
theorem pairs_mem {xs : List Str} {p : Pr} : p ∈ pairsOf xs ↔ p.1 ∈ xs ∧ p.2 ∈ xs ∧ p.1 ≠ p.2 := by
  unfold pairsOf
  rw [List.mem_flatMap]
  constructor
  · rintro ⟨x, hx, h⟩
    obtain ⟨y, hy, rfl⟩ := List.mem_map.mp h
    obtain ⟨h1, h2⟩ := List.mem_filter.mp hy
    exact ⟨hx, h1, Ne.symm (of_decide_eq_true h2)⟩
  · rintro ⟨h1, h2, h3⟩
    exact ⟨p.1, h1, List.mem_map.mpr ⟨p.2, List.mem_filter.mpr ⟨h2, decide_eq_true (Ne.symm h3)⟩, rfl⟩⟩
theorem pairs_pw {xs : List Str} (h : xs.Pairwise fun a b => leF D.str a b = true) (nd : xs.Nodup) : (pairsOf xs).Pairwise fun a b => leF dPr a b = true := by
  unfold pairsOf
  rw [List.pairwise_flatMap]
  refine ⟨fun x hx => ?_, (h.and nd).imp fun {a b} ⟨h1, h2⟩ p hp q hq => ?_⟩
  · rw [List.pairwise_map]
    refine (h.filter _).imp fun {a b} hab => ?_
    rw [le_pr, if_pos rfl]
    exact hab
  · obtain ⟨y, _, rfl⟩ := List.mem_map.mp hp
    obtain ⟨z, _, rfl⟩ := List.mem_map.mp hq
    rw [le_pr, if_neg h2]
    exact h1
theorem pairs_nd {xs : List Str} (nd : xs.Nodup) : (pairsOf xs).Nodup := by
  unfold pairsOf List.Nodup
  rw [List.pairwise_flatMap]
  refine ⟨fun x hx => ?_, nd.imp fun {a b} hab p hp q hq e => ?_⟩
  · rw [List.pairwise_map]
    exact (List.Pairwise.filter _ nd).imp fun {a b} e h => e (by injection h)
  · obtain ⟨y, _, rfl⟩ := List.mem_map.mp hp
    obtain ⟨z, _, rfl⟩ := List.mem_map.mp hq
    exact hab (congrArg Prod.fst e)
end BB
set_option maxHeartbeats 1000000
namespace BB
open PySem PySem.Spec PyProof.Rows L2 DL SO PySem.W
variable {P : Program} {w : World} {K : PySem.W.Frag} {mg : Str → Option Value} {base : Heap} {CB CT CS : Addr}
theorem hu1 {k : Nat} {A : Around} (h : Room k A) : A.units + 1 < cLine := by have := h.un; omega
theorem nd_map {α β : Type} {f : α → β} (inj : ∀ a b, f a = f b → a = b) {xs : List α} (h : xs.Nodup) : (xs.map f).Nodup := by
  unfold List.Nodup
  rw [List.pairwise_map]
  exact List.Pairwise.imp (fun h e => h (inj _ _ e)) h
theorem sortD_of {α : Type} {f : α → D} {xs : List α} (h1 : ∀ a, tfl (f a) = true) (h2 : ∀ a b, alike (py (f a)) (py (f b)) = true) (h3 : Sortable (xs.map fun a => py (f a))) (h4 : ∀ a, (py (f a)).depth ≤ 8) (few : xs.length ≤ sizeLine) : SortD (xs.map f) where
  tf := fun d hd => by
    obtain ⟨a, _, rfl⟩ := List.mem_map.mp hd
    exact h1 a
  alike := by
    rw [List.map_map]
    intro d hd e he
    obtain ⟨a, _, rfl⟩ := List.mem_map.mp hd
    obtain ⟨b, _, rfl⟩ := List.mem_map.mp he
    exact h2 a b
  able := by rw [List.map_map]; exact h3
  few := by rw [List.length_map]; exact few
  flat := fun d hd => by
    obtain ⟨a, _, rfl⟩ := List.mem_map.mp hd
    exact h4 a
theorem sortD_str {xs : List Str} (few : xs.length ≤ sizeLine) : SortD (dNs xs) :=
  sortD_of (fun _ => rfl) (fun _ _ => by rw [py, py]; rfl) (.inr fun d hd => by
    obtain ⟨a, _, rfl⟩ := List.mem_map.mp hd
    rw [py]
    exact ⟨(fun z => by cases z), (fun _ z => by cases z)⟩) (fun _ => by simp [py, PyData.depth]) few
theorem sortD_pr {xs : List Pr} (few : xs.length ≤ sizeLine) : SortD (xs.map dPr) :=
  sortD_of (fun _ => by simp [dPr, tfl, tfls]) (fun a b => by simp [dPr, py, pys, alike, alikeAll]) (.inl fun d hd => by
    obtain ⟨a, _, rfl⟩ := List.mem_map.mp hd
    exact ⟨.str a.1, [.str a.2], by simp [dPr, py, pys]⟩) (fun a => by simp [dPr, py, pys, PyData.depth, PyData.depthAll]) few
theorem sortD_an {xs : List An} (few : xs.length ≤ sizeLine) : SortD (xs.map dAn) :=
  sortD_of (fun _ => by simp [dAn, tfl, tfls]) (fun a b => by simp [dAn, py, pys, alike, alikeAll]) (.inl fun d hd => by
    obtain ⟨a, _, rfl⟩ := List.mem_map.mp hd
    exact ⟨.str a.1, [.str a.2.1, .bool a.2.2], by simp [dAn, py, pys]⟩) (fun a => by simp [dAn, py, pys, PyData.depth, PyData.depthAll]) few
/-! ### scales made -/
def worthOf (ws : List Wt) (x : Str) : Int := ((ws.find? fun p => decide (p.1 = x)).map (·.2)).getD 0
def srtW (ws : List Wt) : List Wt := (srtF D.str (ws.map (·.1))).map fun x => (x, worthOf ws x)
theorem look_ws {x : Str} : ∀ {ws : List Wt}, x ∈ ws.map (·.1) → lookD (ws.map dWk) (kS x) = some (.int (worthOf ws x))
  | [], h => by cases h
  | p :: ws, h => by
    by_cases e : p.1 = x
    · subst e
      simp [lookD, worthOf, dWk]
    · have ih := look_ws (x := x) ((List.mem_cons.mp h).resolve_left fun z => e z.symm)
      have e2 : ¬ ((dWk p).1 = kS x) := fun z => e (Sum.inr.inj z)
      unfold lookD worthOf at ih ⊢
      rw [List.map_cons, List.find?_cons, decide_eq_false e2, List.find?_cons, decide_eq_false e]
      exact ih
theorem srtW_names (ws : List Wt) : (srtW ws).map (·.1) = srtF D.str (ws.map (·.1)) := by unfold srtW; rw [List.map_map]; exact List.map_id _
structure Fsc (K : PySem.W.Frag) (mg : Str → Option Value) (C : Addr) : Prop where
  are : FnAt K mg "are_worths" (top 34)
  init : InAt K C "Scale.__init__" (mth 35 0) []
  at_ : mg "Scale" = some (.ref C)
theorem sc_areWorths : FnScope ["thing", "name", "worth"] ["thing"] (defScope (top 34)) := ⟨rfl, rfl, rfl, by decide +kernel, rfl, by decide +kernel, by decide +kernel⟩
theorem fn_areWorths (T : Fk K mg) (Q : Fsc K mg CS) (ws : List Wt) (hw : ∀ p ∈ ws, Nm p.1) (hl : ws.length ≤ sizeLine) : FnT P w K mg base "are_worths" 3 (fun M l => l = [dWs ws]) (fun _ => Is (.bl true)) := by
  refine fn_def Q.are sc_areWorths (fun _ _ _ _ _ _ us hl => match us, hl with | [_], _ => rfl) (fun M l e => by rw [e]; rfl) fun f cdv A outer s H E M l hr e => ?_
  subst e
  refine dps_cons (dp_if (p := false) (DT.to (dt_not (dt_v (d_isi (T := "dict") (r := true) (x := dWs ws) (dv 0) rfl (by decide +kernel) T.b.isi T.b.dict))) rfl) (fun h => nomatch h) fun _ => dps_nil rfl) (dps_one (dp_ret (DV.to (d_all (bs := ws.map fun _ => true) rfl ?_ T.b.all) (by simp))))
  rw [map_true]
  refine d_lc (F := fun p : Wt => .tup [.str p.1, .int p.2]) (own := [("name", 1), ("worth", 2)]) (is := [1, 2]) (u := fun d ds => match d with | .tup [a, b] => (ds.set 1 (some a)).set 2 (some b) | _ => ds) rfl sc_areWorths.nd
    (.inr (PI.imp (di_items (Rk := Is (ws.map dWk)) (DX.weak (dv (d := dWs ws) 0) fun d r => ⟨_, r, rfl⟩)) fun σ H R ⟨G, s, ok, k⟩ => ⟨G, s, ok, fun J els G1 H1 ⟨kvs, e, r⟩ => k J els G1 H1 (by rw [e, show kvs = _ from r, List.map_map]; rfl)⟩)) (blkOk_by (by rfl))
    (fun _ _ _ _ _ => pg_tup rfl (pgs_cons (pg_name (i := 1) sc_areWorths.nd rfl (Or.inl rfl)) (pgs_cons (pg_name (i := 2) sc_areWorths.nd rfl (Or.inl rfl)) pgs_nil))) (fun p _ => tg2) (by decide)
    (fun _ _ _ _ _ p hp => DV.to (d_and2 (p := true) (q := true) (d_call (fn_name T.b T.cn T.name) hr (da_1 (dv 1)) ⟨p.1, rfl, hw p hp⟩ fun z hz => hz) fun _ => d_call (fn_integer T.b T.integer) hr (da_1 (dv 2)) ⟨p.2, rfl⟩ fun z hz => hz) rfl) hl
theorem sc_scale : FnScope ["self", "worths", "step", "thing"] ["self", "worths", "step"] (defScope (mth 35 0)) := ⟨rfl, rfl, rfl, by decide +kernel, rfl, by decide +kernel, by decide +kernel⟩
theorem mk_scale (T : Fk K mg) (B : Fs K CS) (Q : Fsc K mg CS) (ws : List Wt) (st : Int) (hw : ∀ p ∈ ws, Nm p.1) (nd : (ws.map (·.1)).Nodup) (hl : ws.length ≤ 1000) (hs : 1 ≤ st) : MkT P w K mg base "Scale" CS 4 [] (fun M l => l = [dWs ws, .int st]) (fun _ => scaleF (srtW ws) st) := by
  refine mk_def Q.at_ Q.init sc_scale (fun _ _ _ _ _ _ us hl => match us, hl with | [_, _, _], _ => rfl) (fun M l e => by rw [e]; rfl) fun f cdv A outer s H E M l G B' x hr e ok0 hx => ?_
  subst e
  have hz : ws.length ≤ sizeLine := Nat.le_trans hl (by decide)
  have hr2 : Room 2 _ := hr.mono (by decide)
  have hn : (ws.map (·.1)).length ≤ sizeLine := by rw [List.length_map]; exact hz
  have ek : (ws.map dWk).map (fun p => kD p.1) = dNs (ws.map (·.1)) := by rw [List.map_map, dNs, List.map_map]; rfl
  refine dms_pure ok0 (ck_ins ok0 hx) (dp_if (p := false) (DT.to (dt_not (p := true) (dt_v (d_call (fn_areWorths T Q ws hw hz) hr (da_1 (dv 1)) rfl fun z hz => hz))) rfl) (fun h => nomatch h) fun _ => dps_nil rfl)
    (dms_pure ok0 (ck_ins ok0 hx) (dp_if (p := false) (DT.to (dt_or (p := false) (q := false) (DT.to (dt_not (p := true) (dt_v (d_call (fn_integer T.b T.integer) hr2 (da_1 (dv 2)) ⟨st, rfl⟩ fun z hz => hz))) rfl) fun _ => ((c_lt (dv 2) d_int).to (decide_eq_false (by omega))).t) rfl) (fun h => nomatch h) fun _ => dps_nil rfl)
    (dms_consR (dm_fld (i := 0) (R := Is (dWs (srtW ws))) ok0 hx rfl B.cls B.f1 ?_ (by decide) (by decide)) fun d1 c1 ⟨e1, dd, e2, e3⟩ => ?_))
  · refine DV.to (d_dc (F := D.str) (xs := srtF D.str (ws.map (·.1))) (kf := kS) (vf := fun x => .int (worthOf ws x)) (own := [("thing", 3)]) (is := [3]) (u := fun d ds => ds.set 3 (some d)) rfl sc_scale.nd
      (di_lstV (DV.to (d_sortedDk rfl (hu64 hr) (dv (d := dWs ws) 1) (by rw [ek]; exact sortD_str hn) T.b.sorted) (by rw [ek, srtD_map]))) (blkOk_by (by rfl)) (fun _ _ _ _ _ => pg_name (i := 3) sc_scale.nd rfl (Or.inl rfl)) (fun _ _ => tg1) (by decide)
      (fun _ _ _ _ _ y hy => dv 3) (fun _ _ _ _ _ y hy => d_getK (hu1 hr) (dv (d := dWs ws) 1) (dv 3) (look_ws (srt_mem.mp hy))) (nd_map (fun _ _ e => Sum.inr.inj e) (srt_nd nd)) (by rw [srt_len]; exact hn)) ?_
    show D.dk _ = dWs _
    unfold dWs srtW
    rw [List.map_map]
    rfl
  · subst e1
    rw [e3, show dd = _ from e2]
    refine DMs.weak (dms_one (dm_fld (i := 0) (R := Is (.int st)) ok0 hx rfl B.cls B.f2 (dv 2) (show ("its_step" : Str) ∉ [("its_worths" : Str)] from by decide) (show 1 < 1000 from by decide))) fun d2 c2 ⟨_, d, h1, h2⟩ => ?_
    rw [h2, show d = _ from h1]
    rfl
end BB
set_option maxHeartbeats 1000000
namespace BB
open PySem PySem.Spec PyProof.Rows L2 DL SO PySem.W
/-! ### what a book keeps -/
def encA (a : An) : List Key × D := ([kS a.1, kS a.2.1], .bl a.2.2)
def addA (l : List An) (a : An) : List An := if a ∈ l then l else l ++ [a]
def uniqA (as : List An) : List An := as.foldl addA []
def Cons (as : List An) : Prop := ∀ a ∈ as, ∀ b ∈ as, anP a = anP b → a = b
theorem enc_key {a b : An} : (encA a).1 = (encA b).1 ↔ anP a = anP b := by
  constructor
  · intro h
    have h : [kS a.1, kS a.2.1] = [kS b.1, kS b.2.1] := h
    injection h with h1 h2
    injection h2 with h2 _
    exact Prod.ext (Sum.inr.inj h1) (Sum.inr.inj h2)
  · intro h
    have h1 : a.1 = b.1 := (Prod.ext_iff.mp h).1
    have h2 : a.2.1 = b.2.1 := (Prod.ext_iff.mp h).2
    show [kS a.1, kS a.2.1] = [kS b.1, kS b.2.1]
    rw [h1, h2]
theorem put_add {l : List An} {a : An} (h : ∀ b ∈ l, anP b = anP a → b = a) : putD (l.map encA) (encA a).1 (encA a).2 = (addA l a).map encA := by
  unfold putD addA
  by_cases m : a ∈ l
  · rw [if_pos m, if_pos, List.map_map]
    · refine List.map_congr_left fun b hb => ?_
      show (if (encA b).1 = (encA a).1 then _ else _) = _
      by_cases q : (encA b).1 = (encA a).1
      · rw [if_pos q, h b hb (enc_key.mp q)]
      · rw [if_neg q]
    · rw [List.any_eq_true]
      exact ⟨encA a, List.mem_map.mpr ⟨a, m, rfl⟩, decide_eq_true rfl⟩
  · rw [if_neg m, if_neg, List.map_append]
    · rfl
    · intro q
      rw [List.any_eq_true] at q
      obtain ⟨p, hp, e⟩ := q
      obtain ⟨b, hb, rfl⟩ := List.mem_map.mp hp
      exact m (h b hb (enc_key.mp (of_decide_eq_true e)) ▸ hb)
theorem look_enc {a : An} : ∀ {l : List An}, (∀ b ∈ l, anP b = anP a → b = a) → a ∈ l → lookD (l.map encA) (encA a).1 = some (encA a).2
  | [], _, m => by cases m
  | b :: l, h, m => by
    unfold lookD
    rw [List.map_cons, List.find?_cons]
    by_cases q : (encA b).1 = (encA a).1
    · rw [decide_eq_true q, h b List.mem_cons_self (enc_key.mp q)]
      rfl
    · rw [decide_eq_false q]
      exact look_enc (fun c hc => h c (List.mem_cons_of_mem _ hc)) ((List.mem_cons.mp m).resolve_left fun e => q (by rw [e]))
theorem look_add {l : List An} {a : An} (h : ∀ b ∈ l, anP b = anP a → b = a) : (lookD (l.map encA) (encA a).1).getD (.bl a.2.2) = .bl a.2.2 := by
  cases q : lookD (l.map encA) (encA a).1 with
  | none => rfl
  | some d =>
    obtain ⟨p, hp, e⟩ := Option.map_eq_some_iff.mp q
    have m := List.mem_of_find?_eq_some hp
    have k := List.find?_some hp
    obtain ⟨b, hb, rfl⟩ := List.mem_map.mp m
    have hk : (encA b).1 = (encA a).1 := of_decide_eq_true k
    have := h b hb (enc_key.mp hk)
    subst this
    exact e.symm
theorem add_mem {l : List An} {a b : An} : b ∈ addA l a ↔ b ∈ l ∨ b = a := by
  unfold addA
  split
  · exact ⟨.inl, fun h => h.elim id fun e => e ▸ by assumption⟩
  · rw [List.mem_append, List.mem_singleton]
theorem fold_mem {b : An} : ∀ {as l : List An}, b ∈ as.foldl addA l ↔ b ∈ l ∨ b ∈ as
  | [], l => by simp
  | a :: as, l => by
    rw [List.foldl_cons, fold_mem, add_mem, List.mem_cons, or_assoc]
theorem uniq_mem {as : List An} {b : An} : b ∈ uniqA as ↔ b ∈ as := by unfold uniqA; rw [fold_mem]; simp
theorem add_nd {l : List An} {a : An} (h : l.Nodup) : (addA l a).Nodup := by
  unfold addA
  split
  · exact h
  · rename_i m
    exact List.nodup_append.mpr ⟨h, by simp, fun x hx y hy e => m (by rw [List.mem_singleton] at hy; rw [← hy, ← e]; exact hx)⟩
theorem fold_nd : ∀ {as l : List An}, l.Nodup → (as.foldl addA l).Nodup
  | [], _, h => h
  | a :: as, l, h => by rw [List.foldl_cons]; exact fold_nd (add_nd h)
theorem uniq_nd {as : List An} : (uniqA as).Nodup := fold_nd List.nodup_nil
theorem fold_len : ∀ {as l : List An}, (as.foldl addA l).length ≤ l.length + as.length
  | [], l => by simp
  | a :: as, l => by
    rw [List.foldl_cons, List.length_cons]
    have h1 := fold_len (as := as) (l := addA l a)
    have h2 : (addA l a).length ≤ l.length + 1 := by
      unfold addA
      split
      · omega
      · rw [List.length_append]; exact Nat.le_refl _
    omega
theorem uniq_len {as : List An} : (uniqA as).length ≤ as.length := by have := fold_len (as := as) (l := []); simpa [uniqA] using this
theorem fold_id : ∀ {as l : List An}, (l ++ as).Nodup → as.foldl addA l = l ++ as
  | [], l, _ => by simp
  | a :: as, l, h => by
    have m : a ∉ l := fun m => (List.nodup_append.mp h).2.2 a m a List.mem_cons_self rfl
    rw [List.foldl_cons, show addA l a = l ++ [a] from if_neg m, fold_id (by rw [List.append_assoc]; exact h), List.append_assoc]
    rfl
theorem uniq_id {as : List An} (h : as.Nodup) : uniqA as = as := by
  have := fold_id (as := as) (l := []) h
  exact this
theorem uniq_cons {as : List An} (h : Cons as) : Cons (uniqA as) := fun a ha b hb => h a (uniq_mem.mp ha) b (uniq_mem.mp hb)
theorem pairs_uniq {l : List An} (h : Cons l) (nd : l.Nodup) : (l.map anP).Nodup := by
  induction l with
  | nil => exact List.nodup_nil
  | cons a l ih =>
    rw [List.nodup_cons] at nd
    rw [List.map_cons, List.nodup_cons]
    refine ⟨fun m => ?_, ih (fun x hx y hy => h x (List.mem_cons_of_mem _ hx) y (List.mem_cons_of_mem _ hy)) nd.2⟩
    obtain ⟨b, hb, e⟩ := List.mem_map.mp m
    exact nd.1 (h b (List.mem_cons_of_mem _ hb) a List.mem_cons_self e ▸ hb)
def truthOf (l : List An) (p : Pr) : Bool := ((l.find? fun a => decide (anP a = p)).map (·.2.2)).getD false
theorem truth_of {l : List An} (h : Cons l) {a : An} (m : a ∈ l) : truthOf l (anP a) = a.2.2 := by
  unfold truthOf
  cases q : l.find? fun b => decide (anP b = anP a) with
  | none =>
    have := List.find?_eq_none.mp q a m
    simp at this
  | some b =>
    have hb := List.mem_of_find?_eq_some q
    have hk : anP b = anP a := of_decide_eq_true (List.find?_some (p := fun b => decide (anP b = anP a)) q)
    rw [h b hb a m hk]
    rfl
def mkA (l : List An) (p : Pr) : An := (p.1, p.2, truthOf l p)
theorem mkA_of {l : List An} (h : Cons l) {a : An} (m : a ∈ l) : mkA l (anP a) = a := by
  unfold mkA
  rw [truth_of h m]
theorem anP_mkA (l : List An) (p : Pr) : anP (mkA l p) = p := rfl
/-- the answers as a book keeps them -/
def normA (as : List An) : List An := (srtF dPr ((uniqA as).map anP)).map (mkA (uniqA as))
theorem norm_pairs (as : List An) : (normA as).map anP = srtF dPr ((uniqA as).map anP) := by
  unfold normA
  rw [List.map_map]
  exact List.map_id _
theorem norm_mem {as : List An} (h : Cons as) {a : An} : a ∈ normA as ↔ a ∈ as := by
  unfold normA
  rw [List.mem_map]
  constructor
  · rintro ⟨p, hp, rfl⟩
    obtain ⟨b, hb, rfl⟩ := List.mem_map.mp (srt_mem.mp hp)
    rw [mkA_of (uniq_cons h) hb]
    exact uniq_mem.mp hb
  · intro m
    exact ⟨anP a, srt_mem.mpr (List.mem_map.mpr ⟨a, uniq_mem.mpr m, rfl⟩), mkA_of (uniq_cons h) (uniq_mem.mpr m)⟩
theorem norm_nd {as : List An} (h : Cons as) : ((normA as).map anP).Nodup := by rw [norm_pairs]; exact srt_nd (pairs_uniq (uniq_cons h) uniq_nd)
theorem nd_of_pairs {l : List An} (h : (l.map anP).Nodup) : l.Nodup := by
  unfold List.Nodup at h ⊢
  rw [List.pairwise_map] at h
  exact h.imp fun h e => h (by rw [e])
theorem cons_of_pairs : ∀ {l : List An}, (l.map anP).Nodup → Cons l
  | [], _ => fun a h => by cases h
  | c :: l, h => by
    rw [List.map_cons, List.nodup_cons] at h
    intro a ha b hb e
    rcases List.mem_cons.mp ha with e1 | ha1
    · rcases List.mem_cons.mp hb with e2 | hb1
      · rw [e1, e2]
      · exact absurd (List.mem_map.mpr ⟨b, hb1, by rw [← e, e1]⟩) h.1
    · rcases List.mem_cons.mp hb with e2 | hb1
      · exact absurd (List.mem_map.mpr ⟨a, ha1, by rw [e, e2]⟩) h.1
      · exact cons_of_pairs h.2 a ha1 b hb1 e
/-- sorted answers of different pairs stay as they are -/
theorem norm_id {as : List An} (nd : (as.map anP).Nodup) (pw : (as.map anP).Pairwise fun a b => leF dPr a b = true) : normA as = as := by
  unfold normA
  rw [uniq_id (nd_of_pairs nd), srt_id pw, List.map_map]
  refine (List.map_congr_left fun a m => ?_).trans (List.map_id _)
  exact mkA_of (cons_of_pairs nd) m
theorem norm_norm {as : List An} (h : Cons as) : normA (normA as) = normA as := norm_id (norm_nd h) (by rw [norm_pairs]; exact srt_pw)
theorem norm_len {as : List An} : (normA as).length ≤ as.length := by
  unfold normA
  rw [List.length_map, srt_len, List.length_map]
  exact uniq_len
/-- of different pairs: sorted whole is sorted by the pairs -/
theorem an_pw {as : List An} (nd : (as.map anP).Nodup) (pw : as.Pairwise fun a b => leF dAn a b = true) : (as.map anP).Pairwise fun a b => leF dPr a b = true := by
  rw [List.pairwise_map]
  unfold List.Nodup at nd
  rw [List.pairwise_map] at nd
  exact (pw.and nd).imp fun ⟨h1, h2⟩ => by rw [← le_an h2]; exact h1
end BB
set_option maxHeartbeats 1000000
namespace BB
open PySem PySem.Spec PyProof.Rows L2 DL SO PySem.W
variable {P : Program} {w : World} {K : PySem.W.Frag} {mg : Str → Option Value} {base : Heap} {CB CT CS : Addr}
structure Fbk (K : PySem.W.Frag) (mg : Str → Option Value) (C e0 : Addr) : Prop where
  init : InAt K C "Book.__init__" (mth 22 0) [.ref e0]
  at_ : mg "Book" = some (.ref C)
  empty : ∀ H : Hp, SqT K H e0 []
/-- what a book is made of -/
structure BkOk (xs : List Str) (as : List An) : Prop where
  nms : Nms xs
  ans : ∀ a ∈ as, AnOk a
  inn : ∀ a ∈ as, a.1 ∈ xs ∧ a.2.1 ∈ xs
  cons : Cons as
  few : as.length ≤ 1000
theorem sc_book : FnScope ["self", "things", "answers", "answer", "name", "truths", "pair", "truth"] ["self", "things", "answers"] (defScope (mth 22 0)) := ⟨rfl, rfl, rfl, by decide +kernel, rfl, by decide +kernel, by decide +kernel⟩
theorem el_map {α : Type} {f : α → D} {xs : List α} {i : Nat} {d : D} (h : El (Is (xs.map f)) i d) : ∃ x, xs[i]? = some x ∧ d = f x := by
  obtain ⟨els, e, h⟩ := h
  rw [show els = _ from e, List.getElem?_map] at h
  cases q : xs[i]? with
  | none => rw [q] at h; cases h
  | some x => rw [q] at h; cases h; exact ⟨x, rfl, rfl⟩
theorem DIF.to {X : Cx} {M : Mu} {tg iter : Expr} {ds : DS} {a b : List D} (h : DIF X M tg iter ds (Is a)) (e : a = b) : DIF X M tg iter ds (Is b) := e ▸ h
theorem book_body (T : Fk K mg) (B : Fb K CB) (xs : List Str) (as : List An) (ok : BkOk xs as) {x y : D} (hx : seqOf x (dNs xs)) (hy : seqOf y (as.map dAn)) (f : Addr) (cdv : Value) (A : Around) (outer : List Env) (s : Shared) (H : Hp) (E : XK) (M : Mu) (G B' : Hp) (p : Addr)
    (hr : Room 6 (A.deeper (envOfC "Book.__init__" (defScope (mth 22 0)) s.heap.objs.size f cdv))) (ok0 : Ok M G B') (hp : B' p = none) :
    DMs (cxOf CX0 P w K mg base ["self", "things", "answers", "answer", "name", "truths", "pair", "truth"] "Book.__init__" (defScope (mth 22 0)) f cdv A outer s H E).nox M G B' (cIns K p CB) (defBody (mth 22 0)) (slots ["self", "things", "answers", "answer", "name", "truths", "pair", "truth"] [.raw (.ref p), x, y]) [] (fun _ fs => fs = bookF (srtF D.str xs) (normA as)) (fun _ => False) := by
  have hr1 : Room 1 _ := hr.mono (by decide)
  have hr3 : Room 3 _ := hr.mono (by decide)
  have hz : as.length ≤ sizeLine := Nat.le_trans ok.few (by decide)
  have hxz : xs.length ≤ sizeLine := Nat.le_trans (Nat.le_of_lt ok.nms.few) (by decide)
  refine dms_pure ok0 (ck_ins ok0 hp) (dp_if (p := false) (DT.to (dt_not (p := true) (dt_v (d_call (fn_names T.b T.cn T.names T.name) hr3 (da_1 (dv 1)) ⟨x, xs, rfl, hx, ok.nms⟩ fun z hz => hz))) rfl) (fun h => nomatch h) fun _ => dps_nil rfl)
    (dms_pure ok0 (ck_ins ok0 hp) (dp_if (p := false) (DT.to (dt_not (p := true) (dt_v (d_call (fn_answers T) hr (da_1 (dv 2)) ⟨y, as, rfl, hy, ok.ans, hz⟩ fun z hz => hz))) rfl) (fun h => nomatch h) fun _ => dps_nil rfl)
    (dms_pure ok0 (ck_ins ok0 hp) (dp_forW (u := fun d ds => ds.set 3 (some d)) PassesOwn.never rfl (di_seqV (dv 2) hy) (pg_name (i := 3) sc_book.nd rfl (Or.inl rfl)) um1 (fun _ _ _ => tg1) fun i d hd => ?_) ?_))
  · obtain ⟨a, ha, rfl⟩ := el_map hd
    have ma := List.mem_of_getElem? ha
    refine dps_one ((dp_forW (u := fun d ds => ds.set 4 (some d)) PassesOwn.never rfl (di_tupV (els := [.str a.1, .str a.2.1]) (d_call (fn_pairOf T a) hr1 (da_1 (dv (d := dAn a) 3)) rfl fun z hz => hz)) (pg_name (i := 4) sc_book.nd rfl (Or.inl rfl)) um1 (fun _ _ _ => tg1) fun j d hd => ?_).weak (fun _ e => by rw [show _ = _ from e]; exact (WkS.refl _).put rfl) fun _ h => h)
    have hd' : ∃ z, d = .str z ∧ z ∈ xs ∧ Nm z := by
      obtain ⟨els, e, h⟩ := hd
      rw [show els = _ from e] at h
      have m := List.mem_of_getElem? h
      rcases List.mem_cons.mp m with rfl | m
      · exact ⟨_, rfl, (ok.inn a ma).1, (ok.ans a ma).n1⟩
      · rw [List.mem_singleton] at m
        exact ⟨_, m, (ok.inn a ma).2, (ok.ans a ma).n2⟩
    obtain ⟨z, rfl, mz, nz⟩ := hd'
    exact dps_one (dp_if (p := false) ((c_nin (f := D.str) (x := z) (xs := xs) (n := 0) (hu65 hr) eqv_str (dv 4) (dv 1) hx (shp_str (cps_le nz)) (fun u hu => shp_str (cps_le (ok.nms.all u hu))) (by decide)).to (by rw [decide_eq_true mz]; rfl)).t (fun h => nomatch h) fun _ => dps_nil ((WkS.refl _).put rfl))
  refine dms_phase (C1 := fun q => cDt K q) (c0 := []) (o0 := .dT []) (toD := D.dt) (N := fun q ds' l => ds' = (slots ["self", "things", "answers", "answer", "name", "truths", "pair", "truth"] [.raw (.ref p), x, y]).set 5 (some (.raw (.ref q))) ∧ l = (uniqA as).map encA) 5 ok0 (ck_ins ok0 hp) sc_book.nd cre_dt (fun _ z => by cases z) ini_dt (fun _ => kn_dt)
    (fun G1 H1 q ok1 hq => ?_) (fun q ds' c' ⟨e, _⟩ => by rw [e]; rfl) (fun q ds' c' ⟨e1, e2⟩ => ?_) rfl (.inr rfl)
  · refine DM.weak (dm_forW (u := fun d ds => ds.set 3 (some d)) (I := fun i l => l = ((as.take i).foldl addA []).map encA) ok1 (ck_dt ok1 hq) PassesOwn.never rfl (di_seqV (dv 2) hy) (pg_name (i := 3) sc_book.nd rfl (Or.inl rfl)) um1 (fun _ _ _ => tg1) rfl fun i d c1 hd hI => ?_) fun x1 y1 ⟨e1, els, e2, e3⟩ => ⟨e1, by rw [e3, show els = _ from e2, List.length_map, List.take_length]; rfl⟩
    obtain ⟨a, ha, rfl⟩ := el_map hd
    have ma := List.mem_of_getElem? ha
    have hc : ∀ b ∈ (as.take i).foldl addA [], anP b = anP a → b = a := fun b hb e => by
      have mb : b ∈ as := by
        rcases fold_mem.mp hb with h | h
        · cases h
        · exact List.mem_of_mem_take h
      exact ok.cons b mb a ma e
    have few : c1.length < sizeLine := by
      rw [hI, List.length_map]
      have h1 := fold_len (as := as.take i) (l := [])
      have h2 : (as.take i).length ≤ as.length := by rw [List.length_take]; exact Nat.min_le_right _ _
      have h3 := ok.few
      have h4 : 1000 < sizeLine := by decide
      simp at h1
      omega
    refine dms_pure ok1 (ck_dt ok1 hq) (dp_set (d := dPr (anP a)) 6 sc_book.nd (d_call (fn_pairOf T a) hr1 (da_1 (dv (d := dAn a) 3)) rfl fun z hz => hz)) ?_
    refine dms_cons (dm_clash (i := 5) (ks := (encA a).1) (x := a.2.2) (y := a.2.2) (hu1 hr) ok1 hq rfl (by simp [encA]) (dv (d := dPr (anP a)) 6) (d_ixT (dv (d := dAn a) 3) d_int rfl) (d_ixT (dv (d := dAn a) 3) d_int rfl) (by rw [hI]; exact look_add hc)) ?_
    refine dms_one (DM.weak (dm_putT (i := 5) (ks := (encA a).1) (d := .bl a.2.2) (hu1 hr) ok1 hq rfl (by simp [encA]) (dv (d := dPr (anP a)) 6) (d_ixT (dv (d := dAn a) 3) d_int rfl) few) fun x1 y1 ⟨e1, e2⟩ => ⟨?_, ?_⟩)
    · rw [e1]
      exact ((WkS.refl _).put rfl).put rfl
    · rw [e2, hI, show D.bl a.2.2 = (encA a).2 from rfl, put_add hc, show as.take (i + 1) = as.take i ++ [a] from by rw [List.take_succ, ha]; rfl, List.foldl_append]
      rfl
  · subst e1 e2
    have ek : ((uniqA as).map encA).map (fun p => kT p.1) = ((uniqA as).map anP).map dPr := by rw [List.map_map, List.map_map]; rfl
    have hpl : ((uniqA as).map anP).length ≤ sizeLine := by rw [List.length_map]; exact Nat.le_trans uniq_len hz
    have cu := uniq_cons ok.cons
    refine dms_consR (dm_fld (i := 0) (R := Is (.tup (dNs (srtF D.str xs)))) ok0 hp rfl B.cls B.f1 (d_tupleOf (DX.weak (DV.to (d_sorted (hu64 hr) (dv 1) hx (sortD_str hxz) T.b.sorted) (by rw [srtD_map])) fun d h => .inl h) T.b.tuple) (by decide) (by decide)) fun d1 c1 ⟨e1, dd, e2, e3⟩ => ?_
    rw [show dd = _ from e2] at e3
    subst e1 e3
    refine dms_consR (dm_fld (i := 0) (R := Is (dTr (normA as))) ok0 hp rfl B.cls B.f2 ?_ (show ("its_truths" : Str) ∉ [("its_things" : Str)] from by decide) (show 1 < 1000 from by decide)) fun d1 c1 ⟨e1, dd, e2, e3⟩ => ?_
    · refine DV.to (d_dcT (F := dPr) (xs := srtF dPr ((uniqA as).map anP)) (kf := fun p => [kS p.1, kS p.2]) (vf := fun p => .bl (truthOf (uniqA as) p)) (own := [("pair", 6)]) (is := [6]) (u := fun d ds => ds.set 6 (some d)) (hu1 hr) rfl sc_book.nd
        (di_lstV (DV.to (d_sortedDt rfl (hu64 hr) (dv (d := .dt ((uniqA as).map encA)) 5) (by rw [ek]; exact sortD_pr hpl) T.b.sorted) (by rw [ek, srtD_map]))) (blkOk_by (by rfl)) (fun _ _ _ _ _ => pg_name (i := 6) sc_book.nd rfl (Or.inl rfl)) (fun _ _ => tg1) (by decide)
        (fun _ _ _ _ _ y hy => dv (d := dPr y) 6) (fun _ _ _ _ _ y hy => ?_) (fun _ _ z => by cases z) (nd_map (fun a b e => ?_) (srt_nd (pairs_uniq cu uniq_nd))) (by rw [srt_len]; exact hpl)) ?_
      · obtain ⟨b, hb, rfl⟩ := List.mem_map.mp (srt_mem.mp hy)
        refine d_getT (k := (encA b).1) (hu1 hr) (dv (d := .dt ((uniqA as).map encA)) 5) (dv (d := dPr (anP b)) 6) (by simp [encA]) ?_
        rw [look_enc (fun c hc e => cu c hc b hb e) hb, truth_of cu hb]
        rfl
      · injection e with h1 h2
        injection h2 with h2 _
        exact Prod.ext (Sum.inr.inj h1) (Sum.inr.inj h2)
      · unfold dTr normA
        rw [List.map_map]
        rfl
    rw [show dd = _ from e2] at e3
    subst e1 e3
    refine DMs.weak (dms_one (dm_fldK (i := 0) (R := Is (.tup ((normA as).map dAn))) ok0 hp rfl B.cls B.f3 ?_ (fun d h => by
      rw [show d = _ from h]
      exact noob_tup (noob_map (fun a => noob_tup (noob_cons noob_str (noob_cons noob_str (noob_cons noob_bl noob_nil)))) _)) (show ("its_answers" : Str) ∉ [("its_things" : Str), "its_truths"] from by decide) (show 2 < 1000 from by decide))) fun d2 c2 ⟨_, d, h1, h2⟩ => by
        rw [h2, show d = _ from h1]
        rfl
    refine d_tupleOf (DX.weak (d_lc (F := fun a : An => .tup [dPr (anP a), .bl a.2.2]) (f := dAn) (xs := normA as) (own := [("pair", 6), ("truth", 7)]) (is := [6, 7]) (u := u2 6 7) rfl sc_book.nd (.inr (DIF.to (di_itT (kvs := (normA as).map encA) (d_fld (dv (d := .ob CB [("its_things", .tup (dNs (srtF D.str xs))), ("its_truths", dTr (normA as))]) 0) B.cls B.f2 rfl)) (by rw [List.map_map]; rfl))) (blkOk_by (by rfl))
      (fun _ _ _ _ _ => pg_tup rfl (pgs_cons (pg_name (i := 6) sc_book.nd rfl (Or.inl rfl)) (pgs_cons (pg_name (i := 7) sc_book.nd rfl (Or.inl rfl)) pgs_nil))) (fun a _ => tg2) (by decide)
      (fun _ _ _ _ _ a ha => d_tup (da_star (dv (d := dPr (anP a)) 6) (.inr rfl) (da_1 (dv 7))) (by simp)) (Nat.le_trans norm_len hz)) fun d h => .inl h) T.b.tuple
/-- Book(things, answers) -/
theorem mk_book (T : Fk K mg) (B : Fb K CB) {e0 : Addr} (Q : Fbk K mg CB e0) (xs : List Str) (as : List An) (ok : BkOk xs as) {x y : D} (hx : seqOf x (dNs xs)) (hy : seqOf y (as.map dAn)) : MkT P w K mg base "Book" CB 7 [] (fun M l => l = [x, y]) (fun _ => bookF (srtF D.str xs) (normA as)) := by
  refine mk_def1 3 1 Q.at_ Q.init sc_book (by simp) rfl (fun G => .nil) (fun T kV doc pm an cdv ct us its h1 h2 => match us, h1, its, h2 with | [_, _, _], _, [_], _ => ⟨_, rfl, rfl⟩) (fun M l e => by rw [e]; rfl) fun f cdv A outer s H E M l G B' p hr e ok0 hp => ?_
  subst e
  exact book_body T B xs as ok hx hy f cdv A outer s H E M G B' p hr ok0 hp
/-- Book(things) -/
theorem mk_book1 (T : Fk K mg) (B : Fb K CB) {e0 : Addr} (Q : Fbk K mg CB e0) (xs : List Str) (ok : BkOk xs []) {x : D} (hx : seqOf x (dNs xs)) : MkT P w K mg base "Book" CB 7 [.tup []] (fun M l => l = [x, .tup []]) (fun _ => bookF (srtF D.str xs) (normA [])) := by
  refine mk_def1 2 0 Q.at_ Q.init sc_book (by simp) rfl (fun G => .cons (.tup (.inr ⟨rfl, Q.empty G⟩) .nil) .nil) (fun T kV doc pm an cdv ct us its h1 h2 => match us, h1, its, h2 with | [_, _], _, [_], _ => ⟨_, rfl, rfl⟩) (fun M l e => by rw [e]; rfl) fun f cdv A outer s H E M l G B' p hr e ok0 hp => ?_
  subst e
  exact book_body T B xs [] ok hx (.inr rfl) f cdv A outer s H E M G B' p hr ok0 hp
end BB
set_option maxHeartbeats 1000000
namespace ST
open PySem PySem.Spec PyProof.Rows L2
/-! ### sets of tuples of texts, all different -/
section
variable {P : Program} {w : World} {A : Around} {E : Value → Shared → Prop} {s : Shared}
abbrev Tx := Addr × List Str
abbrev TxAt (P : Program) (w : World) (h : Heap) (p : Tx) : Prop := IsTupleKey (strKind P w) h p.2 p.1
abbrev txH (P : Program) (w : World) (k : List Str) : Int := tupleKeyHash (strKind P w) k
def txRow (P : Program) (w : World) (p : Tx) : Int × Value := (txH P w p.2, .ref p.1)
theorem tx_ext {h h' : Heap} {p : Tx} (x : TxAt P w h p) (kp : ∀ o, h.get? p.1 = some o → h'.get? p.1 = some o) : TxAt P w h' p := let ⟨o, its, n, e, r⟩ := x; ⟨o, its, n, kp o e, r⟩
theorem tx_items {ks : List Str} {vs : List Value} (h : ItemsAre (strKind P w) ks vs) : ∀ v ∈ vs, ∃ x t, v = Value.str x t := by
  induction h with
  | nil => exact fun v m => nomatch m
  | @cons k v' ks vs h1 _ ih => exact fun v m => (List.mem_cons.mp m).elim (fun e => let ⟨t, e2⟩ := Value.isStrOf_shape h1; ⟨k, t, e.trans e2⟩) (ih v)
theorem str_cls (n : Nat) (x : Str) (t : Tok) : ofAClassStatement n (.str x t) = pure false := by cases n <;> rfl
theorem str_byv (n : Nat) (x : Str) (t : Tok) : hashByValue n (.str x t) = pure false := by cases n <;> rfl
theorem tx_cls {p : Tx} {Q : Bool → Shared → Prop} (hp : TxAt P w s.heap p) (q : Q false s) : wpAny (model P w) A (ofAClassStatement 8 (.ref p.1)) Q E s := by
  have ty := hp.typeIs
  obtain ⟨o, its, n, ho, _, hd, hi⟩ := hp
  unfold ofAClassStatement
  refine wpAny_bind (wpAny_typeOf ty ?_)
  have isT : (("tuple" : String) == "tuple") = true := by decide
  dsimp only
  simp only [isT, if_true, Bool.not_true, Bool.false_eq_true, if_false]
  try refine wpAny_bind (wpAny_pure ?_)
  try simp only [Bool.not_true, Bool.false_eq_true, if_false]
  refine wpAny_bind (show wpAny _ _ (seqItems? (.ref p.1)) _ _ s from wpAny_seqItems ho hd ?_)
  refine wpAny_bind (show wpAny _ _ (forIn its _ _) _ _ s from ?_)
  rw [← Array.forIn_toList]
  refine wpAny_forIn_list _ (fun left r s' => (∀ v ∈ left, ∃ x t, v = Value.str x t) ∧ s' = s ∧ r.1 = none) _ ?_ ?_ _ _ ⟨tx_items hi, rfl, rfl⟩
  · rintro v left r s' ⟨all, rfl, hr⟩
    obtain ⟨x, t, rfl⟩ := all v List.mem_cons_self
    rw [str_cls]
    refine wpAny_bind (wpAny_pure ?_)
    simp only [Bool.false_eq_true, if_false]
    exact wpAny_pure ⟨fun u m => all u (List.mem_cons_of_mem _ m), rfl, rfl⟩
  · rintro ⟨r1, r2⟩ s' ⟨_, rfl, hr⟩
    have hr : r1 = none := hr
    subst hr
    exact wpAny_pure q
theorem tx_byv {p : Tx} {Q : Bool → Shared → Prop} (hp : TxAt P w s.heap p) (q : ∀ b, Q b s) : wpAny (model P w) A (hashByValue 8 (.ref p.1)) Q E s := by
  have ty := hp.typeIs
  obtain ⟨o, its, n, ho, _, hd, hi⟩ := hp
  unfold hashByValue
  refine wpAny_bind (wpAny_specialOf ty F.slot_tuple_hash.lookup ?_)
  refine wpAny_bind (show wpAny _ _ (seqItems? (.ref p.1)) _ _ s from wpAny_seqItems ho hd ?_)
  refine wpAny_bind (show wpAny _ _ (forIn its _ _) _ _ s from ?_)
  rw [← Array.forIn_toList]
  refine wpAny_forIn_list _ (fun left r s' => (∀ v ∈ left, ∃ x t, v = Value.str x t) ∧ s' = s) _ ?_ ?_ _ _ ⟨tx_items hi, rfl⟩
  · rintro v left r s' ⟨all, rfl⟩
    obtain ⟨x, t, rfl⟩ := all v List.mem_cons_self
    rw [str_byv]
    refine wpAny_bind (wpAny_pure ?_)
    simp only [Bool.not_false, if_true]
    exact wpAny_pure (wpAny_pure (q false))
  · rintro ⟨r1, r2⟩ s' ⟨_, rfl⟩
    cases r1 with
    | none => exact wpAny_pure (q _)
    | some b => exact wpAny_pure (q b)
/-- looking among tuples of texts shows nothing -/
theorem tx_quiet {p : Tx} {ys : List Value} {Q : Bool → Shared → Prop} (hp : TxAt P w s.heap p) (hy : ∀ y ∈ ys, ∃ q : Tx, y = Value.ref q.1 ∧ TxAt P w s.heap q) (fin : Q false s) : wpAny (model P w) A (searchCouldBeSeen (.ref p.1) ys) Q E s := by
  unfold searchCouldBeSeen
  refine wpAny_bind (wpAny_forIn_list _ (fun left r s' => (∀ y ∈ left, ∃ q : Tx, y = Value.ref q.1 ∧ TxAt P w s.heap q) ∧ s' = s ∧ r.1 = none) _ ?_ ?_ _ _ ⟨hy, rfl, rfl⟩)
  · rintro v left r s' ⟨all, rfl, hr⟩
    obtain ⟨c, rfl, hc⟩ := all v List.mem_cons_self
    have more : ∀ y ∈ left, ∃ q : Tx, y = Value.ref q.1 ∧ TxAt P w s'.heap q := fun u m => all u (List.mem_cons_of_mem _ m)
    dsimp only
    by_cases same : (p.1 == c.1 || (carriedByValue (.ref p.1) && carriedByValue (.ref c.1))) = true
    · exact wp_if_pos same (wpAny_pure ⟨more, rfl, rfl⟩)
    · refine wp_if_neg same (wpAny_bind (wpAny_eqIsQuiet_tuple hp ?_))
      simp only [Bool.not_true, Bool.false_eq_true, if_false]
      refine wpAny_bind (wpAny_eqIsQuiet_tuple hc ?_)
      simp only [Bool.not_true, Bool.false_eq_true, if_false]
      refine wpAny_bind (tx_cls hp ?_)
      simp only [Bool.false_eq_true, if_false]
      refine wpAny_bind (tx_cls hc ?_)
      simp only [Bool.false_eq_true, if_false]
      exact wpAny_pure ⟨more, rfl, rfl⟩
  · rintro ⟨r1, r2⟩ s' ⟨_, rfl, hr⟩
    have hr : r1 = none := hr
    subst hr
    exact wpAny_pure fin
/-- the set holds the tuples L -/
structure Stand (P : Program) (w : World) (h : Heap) (S : Addr) (L : List Tx) (es : Array (Int × Value)) (ep : Nat) (t : SetTable) : Prop where
  obj : ∃ o, h.get? S = some o ∧ o.ExactSet ∧ o.data = .set es ep t
  rows : es.toList = L.map (txRow P w)
  tab : TabOk t (L.map fun p => txH P w p.2)
  tups : ∀ p ∈ L, TxAt P w h p
  led : w.params.followText "set-order" = true ∨ t.led = true
  room : L.length * 5 < t.mask * 3
variable {S : Addr} {L : List Tx} {es : Array (Int × Value)} {ep : Nat} {t : SetTable}
theorem rows_size (h : es.toList = L.map (txRow P w)) : es.size = L.length := by
  rw [← Array.length_toList, h, List.length_map]
theorem rows_get (h : es.toList = L.map (txRow P w)) (i : Nat) : es[i]? = (L[i]?).map (txRow P w) := by
  rw [← Array.getElem?_toList, h, List.getElem?_map]
theorem fits_of (h1 : t.place.size = es.size) (h2 : t.dummies = #[]) (h3 : es.size ≤ t.mask) : t.fits es.size = true := by
  unfold SetTable.fits SetTable.fill
  rw [h2, Bool.and_eq_true, beq_iff_eq, decide_eq_true_eq]
  exact ⟨h1, by rw [h1]; exact h3⟩
theorem Stand.placed (R : Stand P w s.heap S L es ep t) : t.place.size = es.size := by rw [rows_size R.rows, R.tab.sz, List.length_map]
theorem Stand.fits (R : Stand P w s.heap S L es ep t) : t.fits es.size = true := fits_of R.placed R.tab.dm (by rw [rows_size R.rows]; have := R.room; omega)
theorem Stand.firm (R : Stand P w s.heap S L es ep t) : ¬ t.gaveWay = true := by
  unfold SetTable.gaveWay
  rw [mask_odd R.tab.mok]
  decide
theorem calm_probe (m : Nat) : ∀ (n : Nat) (p : SetTable.Probe), p.dummy = none → (nth m p n).dummy = none
  | 0, _, h => h
  | n + 1, p, h => calm_probe m n (adv m p) (by unfold adv; split <;> exact h)
/-- the probe at which the way of the hash begins -/
abbrev begin_ (t : SetTable) (g : Int) : SetTable.Probe := runAt t.mask (SetTable.bits g % (t.mask + 1)) (SetTable.bits g)
/-- a key that is not there: the search ends at an empty slot -/
theorem seek (R : Stand P w s.heap S L es ep t) {x : Tx} (hx : TxAt P w s.heap x) (new : ∀ p ∈ L, p.2 ≠ x.2) (hu : A.units < cLine) {K : Nat} (hKf : K < 10 * SetTable.turns t.mask)
    (hK : way t.mask (txH P w x.2) K ∉ t.place.toList) (hKb : ∀ c, c < K → way t.mask (txH P w x.2) c ∈ t.place.toList) {Q : SetFound → Shared → Prop} (fin : Q (.free (way t.mask (txH P w x.2) K) false) s) :
    ∀ (f c : Nat) (stand : Option SetTable.Probe), stand.getD (t.probeStart (txH P w x.2)) = nth t.mask (begin_ t (txH P w x.2)) c → c ≤ K → K - c < f → wpAny (model P w) A (setSearchFrom S (.ref x.1) (txH P w x.2) true f stand) Q E s
  | 0, _, _, _, _, h => absurd h (Nat.not_lt_zero _)
  | f + 1, c, stand, hst, hc, hf => by
    obtain ⟨o, ho, hex, hd⟩ := R.obj
    have shift : ∀ q, nth t.mask (nth t.mask (begin_ t (txH P w x.2)) c) q = nth t.mask (begin_ t (txH P w x.2)) (c + q) := fun q => (nth_add t.mask c _ q).symm
    have at_ : ∀ q, (nth t.mask (nth t.mask (begin_ t (txH P w x.2)) c) q).j = way t.mask (txH P w x.2) (c + q) := fun q => congrArg SetTable.Probe.j (shift q)
    have told := go_spec t R.tab.ris R.tab.dm (fun i => (es[i]?.map (·.1)).getD 0) (txH P w x.2) (10 * SetTable.turns t.mask) (K - c) (nth t.mask (begin_ t (txH P w x.2)) c) (calm_probe _ c _ rfl) (by omega)
      (fun q hq => by rw [at_]; exact hKb (c + q) (by omega)) (by rw [at_, show c + (K - c) = K by omega]; exact hK)
    rw [setSearchFrom_succ]
    refine wpAny_bind (wpAny_setState_of ho hd R.fits (wp_if_neg R.firm ?_))
    rcases told with ⟨q, i, hq, hi, hh, _, hpr⟩ | ⟨_, hpr⟩
    · have hpr : t.probe (fun i => (es[i]?.map (·.1)).getD 0) (txH P w x.2) (stand.getD (t.probeStart (txH P w x.2))) = some (.candidate (way t.mask (txH P w x.2) (c + q)) i (nth t.mask (begin_ t (txH P w x.2)) (c + (q + 1)))) := by rw [hst, ← at_, ← shift]; exact hpr
      rw [hpr]
      dsimp only
      rw [at_] at hi
      have lt : i < L.length := by
        have h1 := (List.getElem?_eq_some_iff.mp hi).1
        rw [Array.length_toList, R.placed, rows_size R.rows] at h1
        exact h1
      have mem : L[i] ∈ L := List.getElem_mem lt
      have ent : es[i]? = some (txRow P w L[i]) := by rw [rows_get R.rows, List.getElem?_eq_getElem lt]; rfl
      have other : decide (L[i].2 = x.2) = false := decide_eq_false (new _ mem)
      have on : wpAny (model P w) A (searchRest S (.ref x.1) (txH P w x.2) true f es t (way t.mask (txH P w x.2) (c + q)) i (nth t.mask (begin_ t (txH P w x.2)) (c + (q + 1)))) Q E s := by
        unfold searchRest
        rw [ent]
        refine wpAny_bind (wpAny_holding (wpAny_eqBool_tuple hu (R.tups _ mem) hx ?_))
        rw [other]
        refine wpAny_bind (wpAny_setState_of ho hd R.fits (wp_if_neg (by decide) ?_))
        rw [sameMem]
        have live : t.slot (way t.mask (txH P w x.2) (c + q)) = .live i := slot_live R.tab.ris hi
        dsimp only
        simp only [if_true, live, ent]
        refine wpAny_bind (wpAny_isSame_ref_self (wpAny_bind (wpAny_pure ?_)))
        simp only [if_true]
        exact wp_if_neg (by decide) (seek R hx new hu hKf hK hKb fin f (c + (q + 1)) _ rfl (by omega) (by omega))
      by_cases led : t.led = true
      · exact wp_if_neg (by simp [led]) on
      · refine wp_if_pos (by simp [led]) (wpAny_bind (tx_quiet hx (fun y hy => ?_) (wp_if_neg (by decide) on)))
        obtain ⟨e, he, rfl⟩ := List.mem_map.mp hy
        have he : e ∈ es.toList := by
          have : e ∈ es ∧ e.1 = txH P w x.2 := by simpa using he
          simpa using this.1
        rw [R.rows] at he
        obtain ⟨p, hp, rfl⟩ := List.mem_map.mp he
        exact ⟨p, rfl, R.tups p hp⟩
    · have hpr : t.probe (fun i => (es[i]?.map (·.1)).getD 0) (txH P w x.2) (stand.getD (t.probeStart (txH P w x.2))) = some (.empty (way t.mask (txH P w x.2) K) none) := by
        rw [hst, show way t.mask (txH P w x.2) K = (nth t.mask (nth t.mask (begin_ t (txH P w x.2)) c) (K - c)).j by rw [at_, show c + (K - c) = K by omega]]
        exact hpr
      rw [hpr]
      exact wpAny_pure fin
/-- the rows in another order -/
theorem rows_order {order : Array Nat} (h : es.toList = L.map (txRow P w)) (hp : order.toList.Perm (List.range L.length)) :
    ∃ L2 : List Tx, (order.filterMap (es[·]?)).toList = L2.map (txRow P w) ∧ L2.Perm L ∧ (L2.map fun p => txH P w p.2) = order.toList.map fun i => (es.map (·.1)).getD i 0 := by
  have inside : ∀ i ∈ order.toList, i < L.length := fun i m => List.mem_range.mp (hp.mem_iff.mp m)
  have whole : ∀ n, n ≤ L.length → (List.range n).filterMap (fun i => L[i]?) = L.take n := by
    intro n
    induction n with
    | zero => exact fun _ => rfl
    | succ n ih =>
      intro le
      rw [List.range_succ, List.filterMap_append, ih (Nat.le_of_lt le), List.take_succ, List.getElem?_eq_getElem le, List.filterMap_cons_some (List.getElem?_eq_getElem le)]
      rfl
  refine ⟨order.toList.filterMap fun i => L[i]?, ?_, ?_, ?_⟩
  · rw [Array.toList_filterMap, List.map_filterMap]
    exact congrArg (fun g => order.toList.filterMap g) (funext fun i => rows_get h i)
  · have := hp.filterMap fun i => L[i]?
    rwa [whole L.length (Nat.le_refl _), List.take_length] at this
  · revert inside
    generalize order.toList = l
    intro inside
    induction l with
    | nil => rfl
    | cons i l ih =>
      have lt := inside i List.mem_cons_self
      rw [List.filterMap_cons_some (List.getElem?_eq_getElem lt), List.map_cons, List.map_cons, ih fun j m => inside j (List.mem_cons_of_mem _ m)]
      congr 1
      have e : (es.map (·.1))[i]? = some (txH P w L[i].2) := by rw [Array.getElem?_map, rows_get h, List.getElem?_eq_getElem lt]; rfl
      rw [Array.getD_eq_getD_getElem?, e]
      rfl
theorem tx_same {h h' : Heap} {p : Tx} {o : Obj} (x : TxAt P w h p) (ho : h.get? S = some o) (hd : o.data = .set es ep t) (sb : Heap.SameBut S h h') : TxAt P w h' p := by
  refine tx_ext x fun o' e => (sb.2 p.1 fun q => ?_).trans e
  obtain ⟨o2, its, n, e2, _, d2, _⟩ := x
  rw [q, ho] at e2
  cases e2
  rw [hd] at d2
  cases d2
/-- laid anew, larger -/
theorem larger {o : Obj} (ho : s.heap.get? S = some o) (hex : o.ExactSet) (hd : o.data = .set es ep t) (rows : es.toList = L.map (txRow P w)) (pl : t.place.size = es.size) (dm : t.dummies = #[]) (fit : es.size ≤ t.mask) (tups : ∀ p ∈ L, TxAt P w s.heap p)
    (led : w.params.followText "set-order" = true ∨ t.led = true) {wanted m : Nat} (hw : SetTable.sizeAbove wanted - 1 = m) (hm : MaskOk m) (small : SetTable.sizeAbove wanted ≤ 128) (room : L.length * 5 < m * 3) (few : L.length < 77) {Q : Unit → Shared → Prop}
    (fin : ∀ h' L' es' ep' t', Heap.SameBut S s.heap h' → Stand P w h' S L' es' ep' t' → L'.Perm L → Q () { s with heap := h' }) : wpAny (model P w) A (setRelay S wanted) Q E s := by
  have sz := rows_size rows
  obtain ⟨t', order, e, hp, T, em, el, _, _⟩ := relaid_ok t (hs := es.map (·.1)) (wanted := wanted) hw hm (by rw [Array.size_map, sz]; omega)
  rw [Array.size_map, sz] at hp
  obtain ⟨L2, r1, r2, r3⟩ := rows_order rows hp
  rw [← r3] at T
  have sz2 : (order.filterMap (es[·]?)).size = es.size := by rw [rows_size r1, r2.length_eq, sz]
  rw [setRelay_eq]
  refine wpAny_bind (wpAny_setState_of ho hd (fits_of pl dm fit) ?_)
  refine wp_if_neg (by rw [sizeLine_eq]; omega) ?_
  rw [e]
  refine wpAny_bind (wp_if_neg (by rw [sz2]; simp) (wpAny_pure ?_))
  refine wpAny_storeSet_of ho hd ?_ (by rw [sz2, sz, sizeLine_eq]; omega)
  have sb := Heap.SameBut.update s.heap S (Obj.putSet (order.filterMap (es[·]?)) t')
  exact fin _ L2 _ (ep + 1) t' sb ⟨⟨_, store_at ho hd, ⟨hex.1, hex.2.1, hex.2.2⟩, rfl⟩, r1, T, fun p m => tx_same (tups p (r2.mem_iff.mp m)) ho hd sb, by rw [el]; exact led, by rw [r2.length_eq, em]; exact room⟩ r2
/-- one more tuple -/
theorem put_more (R : Stand P w s.heap S L es ep t) {x : Tx} (hx : TxAt P w s.heap x) (new : ∀ p ∈ L, p.2 ≠ x.2) (hu : A.units < cLine) (few : L.length + 1 < 77) {Q : Bool → Shared → Prop}
    (fin : ∀ h' L' es' ep' t', Heap.SameBut S s.heap h' → Stand P w h' S L' es' ep' t' → L'.Perm (x :: L) → Q true { s with heap := h' }) : wpAny (model P w) A (setAddHashed S (.ref x.1) (txH P w x.2)) Q E s := by
  obtain ⟨o, ho, hex, hd⟩ := R.obj
  have room := R.room
  obtain ⟨K, hKf, hK, hKb⟩ := R.tab.first (by rw [List.length_map]; omega) (txH P w x.2)
  have far : K < 100000 := by
    have : 10 * SetTable.turns t.mask ≤ 1420 := by
      unfold SetTable.turns
      rcases R.tab.mok with e | e | e <;> omega
    omega
  unfold setAddHashed
  refine wpAny_holding ?_
  rw [show (100000 : Nat) = 99999 + 1 from rfl, setAddHashedIn_succ]
  refine wpAny_bind (wpAny_setState_of ho hd R.fits (wp_if_neg (by simp [byScan, Value.scannable]) ?_))
  refine wpAny_bind (show wpAny _ _ (setSearch S (.ref x.1) (txH P w x.2) true) _ _ s from ?_)
  unfold setSearch
  refine seek R hx new hu hKf hK hKb ?_ 100000 0 none rfl (Nat.zero_le _) (by omega)
  dsimp only
  refine wpAny_bind (wpAny_setState_of ho hd R.fits ?_)
  dsimp only
  obtain ⟨q1, q2, q3, q4, q5, _, _, _, q9⟩ := R.tab.put hK hKb
  generalize t.put (way t.mask (txH P w x.2) K) = tp at q1 q3 q4 q5 q9 ⊢
  obtain ⟨t1, p⟩ := tp
  dsimp only at q1 q3 q4 q5 q9 ⊢
  subst q1
  have ins : (SetTable.insertAt es (SetTable.below t.place (way t.mask (txH P w x.2) K)) (txH P w x.2, Value.ref x.1)).toList = (L.take (SetTable.below t.place (way t.mask (txH P w x.2) K)) ++ x :: L.drop (SetTable.below t.place (way t.mask (txH P w x.2) K))).map (txRow P w) := by
    rw [SetTable.toList_insertAt, R.rows, List.map_append, List.map_cons, List.map_take, List.map_drop]
    rfl
  generalize SetTable.below t.place (way t.mask (txH P w x.2) K) = p at q3 ins ⊢
  have pm := put_perm L p x
  have hs : (L.take p ++ x :: L.drop p).map (fun p => txH P w p.2) = (L.map fun p => txH P w p.2).take p ++ txH P w x.2 :: (L.map fun p => txH P w p.2).drop p := by rw [List.map_append, List.map_cons, List.map_take, List.map_drop]
  rw [← hs] at q3
  generalize SetTable.insertAt es p (txH P w x.2, Value.ref x.1) = es1 at ins ⊢
  generalize L.take p ++ x :: L.drop p = L1 at pm q3 ins
  have len : L1.length = L.length + 1 := pm.length_eq
  have sz1 := rows_size ins
  have sz := rows_size R.rows
  -- what stands behind the store, whatever the table says of its hashes
  have rest : ∀ t2 : SetTable, t2.place = t1.place → t2.dummies = t1.dummies → t2.mask = t1.mask → t2.led = t1.led → t2.tooFull = t1.tooFull → TabOk t2 (L1.map fun p => txH P w p.2) →
      wpAny (model P w) A (do
        storeSet S es1 t2
        if (!false && t2.tooFull) = true then do
          setRelay S (SetTable.grown (es.size + 1))
          pure true
        else pure true) Q E s := fun t2 z1 z2 z3 z4 z5 T2 => by
    refine wpAny_bind (wpAny_storeSet_of ho hd ?_ (by rw [sz1, len, sizeLine_eq]; omega))
    have sb := Heap.SameBut.update s.heap S (Obj.putSet es1 t2)
    have ho1 := store_at (es' := es1) (t' := t2) ho hd
    have tups1 : ∀ p ∈ L1, TxAt P w (s.heap.update S (Obj.putSet es1 t2)) p := fun p m => (List.mem_cons.mp (pm.mem_iff.mp m)).elim (fun e => by rw [e]; exact tx_same hx ho hd sb) fun m => tx_same (R.tups p m) ho hd sb
    have led2 : w.params.followText "set-order" = true ∨ t2.led = true := by rw [z4, q5]; exact R.led
    have full : t1.tooFull = decide ((L.length + 1) * 5 ≥ t.mask * 3) := by
      unfold SetTable.tooFull
      rw [q9, List.length_map, q4]
    by_cases hf : (L.length + 1) * 5 ≥ t.mask * 3
    · refine wp_if_pos (by rw [z5, full, decide_eq_true hf]; rfl) ?_
      have two : (t.mask = 7 ∧ L.length = 4) ∨ (t.mask = 31 ∧ L.length = 18) := by
        rcases R.tab.mok with e | e | e
        · exact .inl ⟨e, by omega⟩
        · exact .inr ⟨e, by omega⟩
        · omega
      have go : ∀ m, SetTable.sizeAbove (SetTable.grown (L.length + 1)) - 1 = m → MaskOk m → SetTable.sizeAbove (SetTable.grown (L.length + 1)) ≤ 128 → (L.length + 1) * 5 < m * 3 → wpAny (model P w) A (do setRelay S (SetTable.grown (es.size + 1)); pure true) Q E { s with heap := s.heap.update S (Obj.putSet es1 t2) } := fun m g1 g2 g3 g4 => by
        rw [sz]
        refine wpAny_bind (larger (s := { s with heap := s.heap.update S (Obj.putSet es1 t2) }) ho1 ⟨hex.1, hex.2.1, hex.2.2⟩ rfl ins ?_ T2.dm ?_ tups1 led2 g1 g2 g3 (by rw [len]; exact g4) (by rw [len]; exact few) fun h2 L2 es2 ep2 t3 sb2 R2 pm2 => wpAny_pure (fin h2 L2 es2 ep2 t3 (sb.trans sb2) R2 (pm2.trans pm)))
        · rw [T2.sz, List.length_map, sz1]
        · rw [sz1, len, z3, q4]; omega
      rcases two with ⟨_, e⟩ | ⟨_, e⟩
      · exact go 31 (by rw [e, size_20]) (.inr (.inl rfl)) (by rw [e, size_20]; decide) (by omega)
      · exact go 127 (by rw [e, size_76]) (.inr (.inr rfl)) (by rw [e, size_76]; decide) (by omega)
    · refine wp_if_neg (by rw [z5, full, decide_eq_false hf]; decide) (wpAny_pure (fin _ L1 es1 (ep + 1) t2 sb ⟨⟨_, ho1, ⟨hex.1, hex.2.1, hex.2.2⟩, rfl⟩, ins, T2, tups1, led2, ?_⟩ pm))
      rw [len, z3, q4]
      omega
  have off : TabOk { t1 with plain := false } (L1.map fun p => txH P w p.2) := ⟨q3.ris, q3.dm, q3.sz, q3.mok, q3.bd, q3.reach⟩
  have both : ∀ b : Bool, wpAny (model P w) A (do
        storeSet S es1 (if b = true then t1 else { t1 with plain := false })
        if (!false && (if b = true then t1 else { t1 with plain := false }).tooFull) = true then do
          setRelay S (SetTable.grown (es.size + 1))
          pure true
        else pure true) Q E s := fun b => by
    cases b with
    | true => exact rest t1 rfl rfl rfl rfl rfl q3
    | false => exact rest { t1 with plain := false } rfl rfl rfl rfl rfl off
  by_cases pl : t1.plain = true
  · refine wp_if_pos pl (wpAny_bind (tx_byv hx fun b => ?_))
    exact both b
  · refine wp_if_neg pl (wpAny_bind (wpAny_pure ?_))
    exact both true
end
end ST
set_option maxHeartbeats 1000000
namespace ST
open PySem PySem.Spec PyProof.Rows L2
section
variable {P : Program} {w : World} {A : Around} {E : Value → Shared → Prop} {s : Shared}
theorem stand_ext {h h' : Heap} {S : Addr} {L : List Tx} {es : Array (Int × Value)} {ep : Nat} {t : SetTable} (R : Stand P w h S L es ep t) (k1 : ∀ o, h.get? S = some o → h'.get? S = some o) (k2 : ∀ p ∈ L, TxAt P w h' p) : Stand P w h' S L es ep t :=
  let ⟨o, ho, r⟩ := R.obj; ⟨⟨o, k1 o ho, r⟩, R.rows, R.tab, k2, R.led, R.room⟩
theorem stand_new {h : Heap} {S : Addr} (ho : h.get? S = some (setNew w)) : Stand P w h S [] #[] 0 (.fresh 0 0 (!w.params.followText "set-order")) where
  obj := ⟨_, ho, ⟨rfl, rfl, rfl⟩, rfl⟩
  rows := rfl
  tab := ⟨List.Pairwise.nil, rfl, rfl, .inl rfl, fun x m => (by cases m), fun i g j e => (by cases e)⟩
  tups := fun p m => nomatch m
  led := by cases q : w.params.followText "set-order" <;> first | exact .inl rfl | exact .inr rfl
  room := show 0 * 5 < 7 * 3 by decide
/-- different tuples of texts, one after another -/
theorem loop_txs {items : Array Value} {ks : List Tx} {l S u0 : Nat} {old : Heap} (hi : items.toList = ks.map fun p => Value.ref p.1) (nd : (ks.map (·.2)).Nodup) (few : ks.length < 77) (hu0 : u0 + 5 < cLine) (tups : ∀ p ∈ ks, TxAt P w old p) :
    LoopOk P w u0 items.size (fun i v => items[i]? = some v) l S old (fun h => ∃ L es ep t, Stand P w h S L es ep t ∧ L.Perm ks) := by
  intro B I R Z s0 hB hu nSI nSl oI oS hold W z0 hS0 fin
  have sz : items.size = ks.length := by rw [← Array.length_toList, hi, List.length_map]
  have inw : ∀ b ∈ [I], b ∈ [S, I] := fun b hb => List.mem_cons_of_mem _ hb
  have room : B.in1.units < cLine := by show B.units + 1 < cLine; omega
  have turn : ∀ (k i : Nat) (t : Shared), ks.length - i = k → i ≤ ks.length → Z i t → (∀ b o, old.get? b = some o → t.heap.get? b = some o) → (∃ L es ep tb, Stand P w t.heap S L es ep tb ∧ L.Perm (ks.take i)) → Moved [S, I] (fun a b => b = a) s0 t → codeAny (model P w) B (.builtin "set.update.loop" ⟨[.ref S, .ref I], []⟩) R t := by
    intro k
    induction k with
    | zero =>
      intro i t hk hle hz hkp ⟨L, es, ep, tb, hS, pm⟩ mv
      obtain rfl : i = ks.length := by omega
      rw [List.take_length] at pm
      refine codeAny_builtin PyProof.Rows.F.entry_set_update_loop ?_
      rw [Around.under_plainId PyProof.Rows.F.plain_set_update_loop _]
      refine wpAny_bind (W.done t _ _ (sz ▸ hz) fun t2 m2 => wpAny_pure (fin t2 (Moved.trans (fun a b c h1 h2 => h2.trans h1) mv (m2.mono inw)) ⟨L, es, ep, tb, ?_, pm⟩))
      have kp2 : ∀ b o, old.get? b = some o → t2.heap.get? b = some o := fun b o e => m2.heap b o (fun q => by rw [List.mem_singleton.mp q, oI] at e; cases e) (hkp b o e)
      exact stand_ext hS (fun o e => m2.heap S o (fun q => nSI (List.mem_singleton.mp q)) e) fun p m => tx_ext (tups p (pm.mem_iff.mp m)) (kp2 _)
    | succ k ih =>
      intro i t hk hle hz hkp ⟨L, es, ep, tb, hS, pm⟩ mv
      have lt : i < ks.length := by omega
      refine codeAny_builtin PyProof.Rows.F.entry_set_update_loop ?_
      rw [Around.under_plainId PyProof.Rows.F.plain_set_update_loop _]
      refine wpAny_bind (W.item i t _ _ (sz ▸ lt) hz fun v t2 hv hz2 m2 => ?_)
      have hx : ks[i]? = some ks[i] := List.getElem?_eq_getElem lt
      obtain rfl : v = .ref ks[i].1 := by
        have e : items.toList[i]? = some v := by rw [Array.getElem?_toList]; exact hv
        rw [hi, List.getElem?_map, hx] at e
        exact (Option.some.inj e).symm
      have kp2 : ∀ b o, old.get? b = some o → t2.heap.get? b = some o := fun b o e => m2.heap b o (fun q => by rw [List.mem_singleton.mp q, oI] at e; cases e) (hkp b o e)
      have hS2 := stand_ext (h' := t2.heap) hS (fun o e => m2.heap S o (fun q => nSI (List.mem_singleton.mp q)) e) fun p m => tx_ext (tups p (List.mem_of_mem_take (pm.mem_iff.mp m))) (kp2 _)
      have xt : TxAt P w t2.heap ks[i] := tx_ext (tups _ (List.getElem_mem lt)) (kp2 _)
      have new : ∀ p ∈ L, p.2 ≠ ks[i].2 := fun p m e => by
        obtain ⟨j, hj, ej⟩ := List.mem_iff_getElem.mp (pm.mem_iff.mp m)
        rw [List.length_take] at hj
        rw [List.getElem_take] at ej
        have e2 : (ks.map (·.2))[j]'(by rw [List.length_map]; omega) = (ks.map (·.2))[i]'(by rw [List.length_map]; exact lt) := by rw [List.getElem_map, List.getElem_map, ej, e]
        have := (List.getElem_inj nd).mp e2
        omega
      have len : L.length + 1 < 77 := by
        rw [pm.length_eq, List.length_take]
        omega
      refine wpAny_bind (wpAny_holding (show wpAny _ _ (setAdd S (.ref ks[i].1)) _ _ _ from ?_))
      unfold setAdd
      refine wpAny_holding (wpAny_bind (wpAny_pyHash_tuple room xt ?_))
      refine put_more (s := { t2 with toks := t2.toks + (ks[i].2.length + 1) }) hS2 xt new room len fun h' L' es' ep' tb' sb hS3 pm2 => ?_
      have sbI : ∀ b, b ≠ S → ∀ o, t2.heap.get? b = some o → h'.get? b = some o := fun b hb o e => (sb.2 b hb).trans e
      refine wpAny_pure ⟨plainId_quiet PyProof.Rows.F.plain_set_update_loop _, ih (i + 1) { t2 with heap := h', toks := t2.toks + (ks[i].2.length + 1) } (by omega) lt (W.frame _ t2 _ _ hz2 (Nat.le_add_right _ _) fun b hb o e => ?_) (fun b o e => sbI b (fun q => by rw [q, oS] at e; cases e) o (kp2 b o e)) ⟨L', es', ep', tb', hS3, ?_⟩ ?_⟩
      · refine sbI b (fun q => ?_) o e
        subst q
        rcases List.mem_cons.mp hb with q | q
        · exact nSI q
        · exact nSl (List.mem_singleton.mp q)
      · refine pm2.trans ?_
        rw [show ks.take (i + 1) = ks.take i ++ [ks[i]] from by rw [List.take_succ, hx]; rfl]
        exact (List.Perm.cons _ pm).trans (List.perm_append_singleton _ _).symm
      · exact Moved.trans (fun a b c h1 h2 => h2.trans h1) mv ((m2.mono inw).then_heap (Nat.le_add_right _ _) fun b o hb e => sbI b (fun q => hb (by rw [q]; exact List.mem_cons_self)) o e)
  exact turn ks.length 0 s0 (by omega) (Nat.zero_le _) z0 hold ⟨[], _, _, _, stand_new hS0, List.Perm.refl _⟩ (Moved.refl fun _ => rfl)
theorem perm_map {α β : Type} {f : α → β} {l m : List β} (h : l.Perm m) : ∀ ks : List α, m = ks.map f → ∃ L : List α, L.Perm ks ∧ l = L.map f := by
  induction h with
  | nil => exact fun ks e => ⟨ks, List.Perm.refl _, e⟩
  | cons x _ ih =>
    intro ks e
    cases ks with
    | nil => cases e
    | cons k ks =>
      rw [List.map_cons] at e
      injection e with e1 e2
      obtain ⟨L, p, e3⟩ := ih ks e2
      exact ⟨k :: L, p.cons k, by rw [List.map_cons, e1, e3]⟩
  | swap x y r =>
    intro ks e
    match ks, e with
    | a :: b :: ks, e =>
      rw [List.map_cons, List.map_cons] at e
      injection e with e1 e2
      injection e2 with e2 e3
      exact ⟨b :: a :: ks, List.Perm.swap a b ks, by rw [List.map_cons, List.map_cons, e1, e2, e3]⟩
  | trans _ _ ih1 ih2 =>
    intro ks e
    obtain ⟨L, p, e1⟩ := ih2 ks e
    obtain ⟨L2, p2, e2⟩ := ih1 L e1
    exact ⟨L2, p2.trans p, e2⟩
end
end ST
namespace DL
open PySem PySem.Spec PyProof.Rows L2 SO ST PySem.W
theorem items_strs {P : Program} {w : World} : ∀ {k : List Str} {us : List Value}, Vals (k.map V.str) us → ItemsAre (strKind P w) k us
  | [], _, h => by cases h; exact .nil
  | x :: k, _, h => by
    cases h with
    | cons h1 h2 =>
      obtain ⟨t, rfl⟩ := h1
      exact .cons (strKind_is _ _ _ _) (items_strs h2)
theorem tx_of {X : Cx} {ps : List (Addr × Obj)} {σ : L2.St} {H : Hp} {s : Shared} {p : Tx} (inv : Inv X ps σ H s) (h : H p.1 = some (.tup (p.2.map V.str))) : TxAt X.prog X.w s.heap p := by
  obtain ⟨_, its, r, o, h1, h2, n, h3⟩ := (show ObjOk X.prog X.w H s.heap p.1 (.tup (p.2.map V.str)) from inv.hok _ _ h)
  exact ⟨o, its.toArray, n, h1, h2, h3, by simpa using items_strs r⟩
/-- the list of pairs, as tuples that stand in the heap -/
theorem pairs_at {K : PySem.W.Frag} {G : Hp} : ∀ {vs : List V} {ps : List Pr}, Dts K G vs (ps.map dPr) → ∃ ks : List Tx, vs = ks.map (fun p => V.ref p.1) ∧ ks.map (·.2) = ps.map (fun p => [p.1, p.2]) ∧ ∀ p ∈ ks, G p.1 = some (.tup (p.2.map V.str))
  | _, [], t => by cases t; exact ⟨[], rfl, rfl, fun p m => nomatch m⟩
  | _, p :: ps, t => by
    cases t with
    | cons t1 t2 =>
      obtain ⟨ks, e1, e2, e3⟩ := pairs_at t2
      obtain ⟨b, rfl, hb⟩ := tup_at (k := [.inr p.1, .inr p.2]) (by simp) t1
      refine ⟨(b, [p.1, p.2]) :: ks, by rw [List.map_cons, e1], by rw [List.map_cons, List.map_cons, e2], fun q m => ?_⟩
      rcases List.mem_cons.mp m with rfl | m
      · exact hb
      · exact e3 q m
theorem refs_vals {α : Type} {f : α → Addr} : ∀ {ks : List α} {us : List Value}, Vals (ks.map fun p => V.ref (f p)) us → us = ks.map fun p => Value.ref (f p)
  | [], _, h => by cases h; rfl
  | k :: ks, _, h => by
    cases h with
    | cons h1 h2 =>
      have h1 : _ = Value.ref (f k) := h1
      rw [h1, refs_vals h2]
      rfl
theorem each_map {α : Type} {f : α → Value} {g : α → Vd} (h : ∀ a, relB (f a) (g a)) : ∀ l : List α, EachIs relB (l.map f) (l.map g)
  | [] => .nil
  | a :: l => .cons (h a) (each_map h l)
section
variable {X : Cx} {M : Mu} {ds : DS} {a : Expr}
/-- sorted(set(xs)), xs a list of different pairs of texts -/
theorem d_sortedSet {p p2 q pos : Pos} {ps : List Pr} (hc : X.calm = true) (hu : X.A.units + 64 < cLine) (hm : X.mg "sorted" = none) (hm2 : X.mg "set" = none) (ha : DV X M a ds (.lst (ps.map dPr))) (nd : ps.Nodup) (few : ps.length < 77) (hsort : ∀ qs : List Pr, qs.length ≤ sizeLine → SortD (qs.map dPr)) (hg : Gl X "sorted" := by rfl) (hg2 : Gl X "set" := by rfl)
    (na : starEach [a] X.env = (false, eval a X.env) :: starEach [] X.env := by rfl) : DV X M (.Call (.Name "sorted" p) [.Call (.Name "set" p2) [a] [] q] [] pos) ds (.lst ((BB.srtF dPr ps).map dPr)) := by
  refine ⟨fun pins s σ H Q I h => Call_ (ld_blt I hg hm boot_sorted (callWith_builtin1 (args_cons (Call_ (ld_blt I hg2 hm2 boot_set (callWith_type1 (args_cons (thn (ha.run pins s σ H (fun v H1 => ∃ (l : Addr) (vs : List V) (G1 : Hp), v = .ref l ∧ SqL X.K H1 l vs ∧ Same G1 H1 ∧ Dts X.K G1 vs (ps.map dPr) ∧ ∀ ws p', H1 p' = none → Dts X.K G1 ws ((BB.srtF dPr ps).map dPr) → Q (.ref p') (upd H1 p' (.lst ws))) I ?_) fun v s1 ⟨x, H1, I1, r1, q1⟩ => args_nil ?_) na) na rfl))) rfl) rfl rfl))⟩
  · obtain ⟨G, sl, ok, k⟩ := h
    refine ⟨G, sl, ok, fun d v G1 H1 e1 g1 t1 => ?_⟩
    rw [show d = _ from e1] at t1
    cases t1 with
    | lst h1 s1 =>
      refine ⟨_, _, G1, rfl, SqL.of (g1.ok.sub _ _ h1), g1.ok.sub, s1, fun ws p' hp hw => ?_⟩
      obtain ⟨G', g, t⟩ := new_lst g1.ok hp hw
      exact k _ _ _ _ rfl (g1.trans ok g) t
  · obtain ⟨l, vs, G1, rfl, hq, ss, t1, fin⟩ := q1
    cases r1
    obtain ⟨ks, rfl, e2, e3⟩ := pairs_at t1
    obtain ⟨its, r, pl, hz⟩ := I1.list hq
    have hits : its.toArray.toList = ks.map fun p => Value.ref p.1 := by
      have := refs_vals r
      simpa using this
    have nd2 : (ks.map (·.2)).Nodup := by
      rw [e2]
      unfold List.Nodup
      rw [List.pairwise_map]
      exact List.Pairwise.imp (fun h e => h (by injection e with z1 z2; injection z2 with z2 _; exact Prod.ext z1 z2)) nd
    have len : ks.length = ps.length := by
      have := congrArg List.length e2
      rwa [List.length_map, List.length_map] at this
    refine ST.set_list (I1.ok.hd hc) pl.isList (ST.loop_txs hits nd2 (by omega) (by omega) fun p m => tx_of I1 (ss _ _ (e3 p m))) fun h' tk ⟨L, es, ep, tb, R, pm⟩ kp => args_nil ?_
    have I2 : Inv X pins σ H1 { s1 with heap := h', toks := tk } := I1.kept kp
    have lenL : L.length = ps.length := pm.length_eq.trans len
    have esz : es.size = ps.length := (ST.rows_size R.rows).trans lenL
    have small : ps.length ≤ sizeLine := Nat.le_trans (Nat.le_of_lt few) (by decide)
    have at_ : SetAt h' s1.heap.objs.size es ep tb := let ⟨o, ho, hx, hd⟩ := R.obj; ⟨o, ho, hx.1, hd⟩
    refine sort_ev (G := G1) (Src := fun ds => ∃ qs : List Pr, qs.Perm ps ∧ ds = qs.map dPr) I2 hu ?_ (fun ds ⟨qs, z1, z2⟩ => by rw [z2]; exact hsort qs (by rw [z1.length_eq]; exact small)) fun ds ws p' ⟨qs, z1, z2⟩ hp hw => ?_
    · intro Qc qc
      refine collect_set (A := X.A.in1) (s := { s1 with heap := h', toks := tk }) (by show X.A.handled = none; exact I1.ok.hd hc) at_ (ST.Stand.fits (s := { s1 with heap := h', toks := tk }) R) (by rw [esz]; unfold scanBound; omega) R.tab.ris R.led fun s' out k1 _ k3 k4 k5 => ?_
      have rows2 : es.toList.map (·.2) = L.map fun p => Value.ref p.1 := by rw [R.rows, List.map_map]; rfl
      rw [rows2] at k5
      obtain ⟨Lx, m1, rfl⟩ := ST.perm_map (k5.trans (pm.map _)) ks rfl
      obtain ⟨qs, m2, m3⟩ := ST.perm_map (f := fun p : Pr => [p.1, p.2]) (m1.map (·.2)) ps e2
      have known : ∀ G0 : Hp, Same G1 G0 → ∀ b ∈ Lx.map (fun p => ((V.ref p.1, D.tup (p.2.map D.str)) : Vd)), Dt X.K G0 b.1 b.2 := fun G0 s0 b hb => by
        obtain ⟨p, hp, rfl⟩ := List.mem_map.mp hb
        exact .tup (.inl (s0 _ _ (e3 p (m1.mem_iff.mp hp)))) (dts_strs p.2)
      have each : EachIs relB (Lx.map fun p => Value.ref p.1) (Lx.map fun p => ((V.ref p.1, D.tup (p.2.map D.str)) : Vd)) := each_map (f := fun p : ST.Tx => Value.ref p.1) (g := fun p : ST.Tx => ((V.ref p.1, D.tup (p.2.map D.str)) : Vd)) (fun p => show RelV (V.ref p.1) (Value.ref p.1) from rfl) Lx
      refine qc s' _ _ k1 k3 k4 ⟨known G1 (Same.refl G1), qs, m2, ?_⟩ each (each_reads I2 k1 each fun b hb => ⟨known H1 ss b hb, ?_⟩)
      · rw [List.map_map]
        have : Lx.map (fun p => D.tup (p.2.map D.str)) = (Lx.map (·.2)).map fun k => D.tup (k.map D.str) := by rw [List.map_map]; rfl
        refine this.trans ?_
        rw [m3, List.map_map]
        rfl
      · obtain ⟨p, hp, rfl⟩ := List.mem_map.mp hb
        have : ∀ k : List Str, tfl (D.tup (k.map D.str)) = true := fun k => by
          rw [tfl]
          induction k with
          | nil => rfl
          | cons x k ih => rw [List.map_cons, tfls, ih]; rfl
        exact this p.2
    · rw [z2, BB.srtD_map, BB.srt_eq BB.inj_pr z1] at hw
      exact fin ws p' hp hw
end
end DL
set_option maxHeartbeats 1000000
namespace DL
open PySem PySem.Spec PyProof.Rows L2 SO
/-! ### enumerate(list) -/
def enumD (els : List D) : List D := els.zipIdx.map fun p => .tup [.int ((p.2 : Nat) : Int), p.1]
theorem enumD_get {els : List D} {i : Nat} : (enumD els)[i]? = (els[i]?).map fun d => .tup [.int ((i : Nat) : Int), d] := by
  unfold enumD
  rw [List.getElem?_map, List.getElem?_zipIdx]
  cases els[i]? with
  | none => rfl
  | some d => simp
theorem wk_enum {M : Mu} {K : PySem.W.Frag} {G1 : Hp} {a : Addr} {vs : List V} {els : List D} (h : G1 a = some (.lst vs)) (t : Dts K G1 vs els) : Wk M K (Ite K a) G1 (enumD els) := by
  have len : (enumD els).length = vs.length := by unfold enumD; rw [List.length_map, List.length_zipIdx, t.length]
  refine ⟨fun i G' H' ss ok hi => ⟨vs, vs[i]'(by rw [← len]; exact hi), SqL.of (ok.sub _ _ (ss _ _ h)), by simp⟩, fun G' H' ss ok => ⟨vs, SqL.of (ok.sub _ _ (ss _ _ h)), by rw [len]; exact Nat.le_refl _⟩, fun i d G' H' x H'' hd ss ok y => ?_⟩
  obtain ⟨T, z, rfl, hT, rfl, all⟩ := y
  rw [enumD_get] at hd
  cases e : els[i]? with
  | none => rw [e] at hd; cases hd
  | some d0 =>
    rw [e] at hd
    cases hd
    obtain ⟨v, hv, td⟩ := t.get e
    have hz := all vs (SqL.of (ok.sub _ _ (ss _ _ h)))
    rw [hv] at hz
    cases hz
    have g := Gr.new (o := .tup [.int (i : Nat), z]) ok hT (fun ps z => by cases z)
    exact ⟨_, g, .tup (.inl upd_same) (.cons (.int _) (.cons ((td.mono ss).mono g.ex) .nil))⟩
section
variable {X : Cx} {M : Mu} {ds : DS} {e : Expr}
theorem di_enum {els : List D} {p pos tpos : Pos} {elts : List Expr} {kk : Nat} (h : DV X M e ds (.lst els)) (hm : X.mg "enumerate" = none) (hg : Gl X "enumerate" := by rfl) (hs : starEach [e] X.env = [(false, eval e X.env)] := by rfl) (hs2 : starEach [e] X.env = (false, eval e X.env) :: starEach [] X.env := by rfl) :
    DI X M (.Tuple elts kk tpos) (.Call (.Name "enumerate" p) [e] [] pos) ds (Is (enumD els)) :=
  PI.imp (pi_enum hg hm (da_1 h hs2) hs) fun σ H R ⟨G, s, ok, k⟩ => ⟨G, s, ok, fun l vs G1 H1 r g t => by
    rw [show l = [.lst els] from r] at t
    cases t with
    | cons t1 t2 =>
      cases t2
      cases t1 with
      | lst h1 s1 => exact ⟨_, _, rfl, SqL.of (g.ok.sub _ _ h1), k _ _ G1 H1 rfl g (wk_enum h1 s1)⟩⟩
end
end DL
set_option maxHeartbeats 1000000
namespace BB
open PySem PySem.Spec PyProof.Rows L2 DL SO PySem.W
variable {P : Program} {w : World} {K : PySem.W.Frag} {mg : Str → Option Value} {base : Heap} {CB CT CS : Addr}
/-- no pattern of two, of three -/
structure NoPat (xs : List Str) (ps : List Pr) : Prop where
  two : ∀ p ∈ ps, ∀ q ∈ ps, (p.1, q.2) ∈ ps ∨ (q.1, p.2) ∈ ps
  three : ∀ p ∈ ps, ∀ q ∈ ps, q.1 = p.2 → ∀ v ∈ xs, (p.1, v) ∈ ps ∨ (v, q.2) ∈ ps
structure Ftb (K : PySem.W.Frag) (mg : Str → Option Value) (C : Addr) : Prop where
  twos : FnAt K mg "twos" (top 37)
  threes : FnAt K mg "threes" (top 38)
  patterns : FnAt K mg "patterns_of" (top 39)
  arePairs : FnAt K mg "are_pairs" (top 40)
  init : InAt K C "Table.__init__" (mth 41 0) []
  at_ : mg "Table" = some (.ref C)
theorem sortD_nil : SortD [] := sortD_str (xs := []) (by decide)
theorem srtD_nil : srtD [] = [] := List.mergeSort_nil
theorem el_pr {ps : List Pr} {i : Nat} {d : D} (h : El (Is (ps.map dPr)) i d) : ∃ p ∈ ps, d = dPr p := by
  obtain ⟨p, hp, e⟩ := el_map h
  exact ⟨p, List.mem_of_getElem? hp, e⟩
/-- p not in ps, where one of two is -/
theorem either {X : Cx} {M : Mu} {ds : DS} {a b c d : Expr} {pos p1 p2 : Pos} {ps : List Pr} {p q : Pr} (hu : X.A.units + 65 < cLine) (ok : ∀ p ∈ ps, PrOk p) (ha : DV X M a ds (dPr p)) (hb : DV X M b ds (.tup (ps.map dPr))) (hc : DV X M c ds (dPr q)) (hd : DV X M d ds (.tup (ps.map dPr))) (np : Shp 1 (dPr p)) (nq : Shp 1 (dPr q)) (h : p ∈ ps ∨ q ∈ ps)
    (hm1 : behindInMarks .NotIn b = false := by rfl) (hm2 : behindInMarks .NotIn d = false := by rfl) : DT X M (.BoolOp .And [.Compare a [.NotIn] [b] p1, .Compare c [.NotIn] [d] p2] pos) ds (Is false) := by
  have sh : ∀ y ∈ ps, Shp 1 (dPr y) := fun y m => shp_prOk (ok y m)
  refine DT.to (dt_and (c_nin (f := dPr) (x := p) (xs := ps) (n := 1) hu eqv_pr ha hb (.inr rfl) np sh (by decide) hm1).t fun _ => (c_nin (f := dPr) (x := q) (xs := ps) (n := 1) hu eqv_pr hc hd (.inr rfl) nq sh (by decide) hm2).t) ?_
  rcases h with h | h
  · simp [h]
  · simp [h]
theorem shp_two {x y : Str} (h1 : Nm x) (h2 : Nm y) : Shp 1 (dPr (x, y)) := shp_pr (cps_le h1) (cps_le h2)
theorem sc_twos : FnScope ["betters", "found", "x", "y", "z", "w"] ["betters"] (defScope (top 37)) := ⟨rfl, rfl, rfl, by decide +kernel, rfl, by decide +kernel, by decide +kernel⟩
theorem fn_twos (T : Fk K mg) (Q : Ftb K mg CT) (xs : List Str) (ps : List Pr) (ok : ∀ p ∈ ps, PrOk p) (no : NoPat xs ps) : FnT P w K mg base "twos" 1 (fun M l => l = [.tup (ps.map dPr)]) (fun _ => Is (.lst [])) := by
  refine fn_def Q.twos sc_twos (fun _ _ _ _ _ _ us hl => match us, hl with | [_], _ => rfl) (fun M l e => by rw [e]; rfl) fun f cdv A outer s H E M l hr e => ?_
  subst e
  refine dps_of_dms fun G0 H0 ok0 => dms_phase (C1 := fun q => cLst K q) (c0 := []) (o0 := .lst []) (toD := D.lst) (N := fun q ds' c' => ds' = (slots ["betters", "found", "x", "y", "z", "w"] [.tup (ps.map dPr)]).set 1 (some (.raw (.ref q))) ∧ c' = []) 1 ok0 ck_unit sc_twos.nd cre_lst (fun _ z => by cases z) ini_lst (fun _ => kn_lst)
    (fun G1 H1 q ok1 hq => ?_) (fun q ds' c' ⟨e, _⟩ => by rw [e]; rfl) (fun q ds' c' ⟨e1, e2⟩ => ?_)
  · refine DM.weak (dm_forW (u := u2 2 3) (I := fun _ c => c = []) ok1 (ck_lst ok1 hq) PassesOwn.never rfl (di_tupV (dv (d := .tup (ps.map dPr)) 0)) (pg_tup rfl (pgs_cons (pg_name (i := 2) sc_twos.nd rfl (Or.inl rfl)) (pgs_cons (pg_name (i := 3) sc_twos.nd rfl (Or.inl rfl)) pgs_nil))) um2 (fun i d h => by obtain ⟨p, _, rfl⟩ := el_pr h; exact tg2) rfl fun i d c1 h hc => ?_) fun x1 y1 ⟨e1, _, _, e2⟩ => ⟨e1, e2⟩
    obtain ⟨p, mp, rfl⟩ := el_pr h
    subst hc
    refine dms_one (DM.weak (dm_forW (u := u2 4 5) (I := fun _ c => c = []) ok1 (ck_lst ok1 hq) PassesOwn.never rfl (di_tupV (dv (d := .tup (ps.map dPr)) 0)) (pg_tup rfl (pgs_cons (pg_name (i := 4) sc_twos.nd rfl (Or.inl rfl)) (pgs_cons (pg_name (i := 5) sc_twos.nd rfl (Or.inl rfl)) pgs_nil))) um2 (fun i d h => by obtain ⟨p, _, rfl⟩ := el_pr h; exact tg2) rfl fun j d c2 h2 hc2 => ?_) fun x1 y1 ⟨e1, _, _, e2⟩ => ⟨by rw [e1]; exact ((WkS.refl _).put rfl).put rfl, e2⟩)
    obtain ⟨r, mr, rfl⟩ := el_pr h2
    subst hc2
    exact dms_one (dm_if (p := false) ok1 (ck_lst ok1 hq) (either (p := (p.1, r.2)) (q := (r.1, p.2)) (hu65 hr) ok (d_tup (da_cons (dv 2) (da_1 (dv 5))) (by simp)) (dv 0) (d_tup (da_cons (dv 4) (da_1 (dv 3))) (by simp)) (dv 0) (shp_two (ok p mp).n1 (ok r mr).n2) (shp_two (ok r mr).n1 (ok p mp).n2) (no.two p mp r mr)) (fun h => nomatch h) fun _ => dms_nil ⟨((WkS.refl _).put rfl).put rfl, rfl⟩)
  · subst e1 e2
    exact DMs.weak (dms_of ok0 ck_unit (N := fun _ => False) (dps_one (dp_ret (DV.to (d_sorted (hu64 hr) (dv (d := .lst []) 1) (.inl rfl) sortD_nil T.b.sorted) (congrArg D.lst srtD_nil))))) fun _ _ z => z.1.elim
theorem sc_threes : FnScope ["things", "betters", "found", "x", "y", "z", "w", "one", "other"] ["things", "betters"] (defScope (top 38)) := ⟨rfl, rfl, rfl, by decide +kernel, rfl, by decide +kernel, by decide +kernel⟩
theorem fn_threes (T : Fk K mg) (Q : Ftb K mg CT) (xs : List Str) (ps : List Pr) (hx : ∀ x ∈ xs, Nm x) (hl : ps.length ≤ sizeLine) (ok : ∀ p ∈ ps, PrOk p) (no : NoPat xs ps) : FnT P w K mg base "threes" 1 (fun M l => l = [.tup (dNs xs), .tup (ps.map dPr)]) (fun _ => Is (.lst [])) := by
  refine fn_def Q.threes sc_threes (fun _ _ _ _ _ _ us hl => match us, hl with | [_, _], _ => rfl) (fun M l e => by rw [e]; rfl) fun f cdv A outer s H E M l hr e => ?_
  subst e
  refine dps_of_dms fun G0 H0 ok0 => dms_phase (C1 := fun q => cLst K q) (c0 := []) (o0 := .lst []) (toD := D.lst) (N := fun q ds' c' => ds' = (slots ["things", "betters", "found", "x", "y", "z", "w", "one", "other"] [.tup (dNs xs), .tup (ps.map dPr)]).set 2 (some (.raw (.ref q))) ∧ c' = []) 2 ok0 ck_unit sc_threes.nd cre_lst (fun _ z => by cases z) ini_lst (fun _ => kn_lst)
    (fun G1 H1 q ok1 hq => ?_) (fun q ds' c' ⟨e, _⟩ => by rw [e]; rfl) (fun q ds' c' ⟨e1, e2⟩ => ?_)
  · refine DM.weak (dm_forW (u := u2 3 4) (I := fun _ c => c = []) ok1 (ck_lst ok1 hq) PassesOwn.never rfl (di_tupV (dv (d := .tup (ps.map dPr)) 1)) (pg_tup rfl (pgs_cons (pg_name (i := 3) sc_threes.nd rfl (Or.inl rfl)) (pgs_cons (pg_name (i := 4) sc_threes.nd rfl (.inr rfl)) pgs_nil))) um2 (fun i d h => by obtain ⟨p, _, rfl⟩ := el_pr h; exact tg2) rfl fun i d c1 h hc => ?_) fun x1 y1 ⟨e1, _, _, e2⟩ => ⟨e1, e2⟩
    obtain ⟨p, mp, rfl⟩ := el_pr h
    subst hc
    refine dms_one (DM.weak (dm_forW (u := fun d ds => ds.set 5 (some d)) (Re := Is (((ps.filter fun r => decide (r.1 = p.2)).map fun r => r.2).map D.str)) (I := fun _ c => c = []) ok1 (ck_lst ok1 hq) PassesOwn.never rfl (di_lstV ?_) (pg_name (i := 5) sc_threes.nd rfl (Or.inl rfl)) um1 (fun _ _ _ => tg1) rfl fun j d c2 h2 hc2 => ?_) fun x1 y1 ⟨e1, _, _, e2⟩ => ⟨by rw [e1]; exact ((WkS.refl _).put rfl).put rfl, e2⟩)
    · rw [List.map_map]
      refine d_lcIf (F := dPr) (f := D.str ∘ fun r : Pr => r.2) (t := fun r => decide (r.1 = p.2)) (own := [("one", 7), ("other", 8)]) (is := [7, 8]) (u := u2 7 8) rfl sc_threes.nd (.inl (di_tupV (dv (d := .tup (ps.map dPr)) 1))) (blkOk_by (by rfl))
        (fun _ _ _ _ _ => pg_tup rfl (pgs_cons (pg_name (i := 7) sc_threes.nd rfl (Or.inl rfl)) (pgs_cons (pg_name (i := 8) sc_threes.nd rfl (Or.inl rfl)) pgs_nil))) (fun p _ => tg2) (by decide)
        (fun _ _ _ _ _ r hr => (c_eqS (dv 7) (dv 4)).t) (fun _ _ _ _ _ r hr _ => dv 8) hl
    · obtain ⟨z, hz, rfl⟩ := el_map h2
      obtain ⟨r, hr1, rfl⟩ := List.mem_map.mp (List.mem_of_getElem? hz)
      obtain ⟨mr, er⟩ := List.mem_filter.mp hr1
      have er := of_decide_eq_true er
      subst hc2
      refine dms_one (DM.weak (dm_forW (u := fun d ds => ds.set 6 (some d)) (I := fun _ c => c = []) ok1 (ck_lst ok1 hq) PassesOwn.never rfl (di_tupV (dv (d := .tup (dNs xs)) 0)) (pg_name (i := 6) sc_threes.nd rfl (Or.inl rfl)) um1 (fun _ _ _ => tg1) rfl fun k d c3 h3 hc3 => ?_) fun x1 y1 ⟨e1, _, _, e2⟩ => ⟨by rw [e1]; exact (WkS.refl _).put rfl, e2⟩)
      obtain ⟨v, hv, rfl⟩ := el_map h3
      have mv := List.mem_of_getElem? hv
      subst hc3
      exact dms_one (dm_if (p := false) ok1 (ck_lst ok1 hq) (either (p := (p.1, v)) (q := (v, r.2)) (hu65 hr) ok (d_tup (da_cons (dv 3) (da_1 (dv 6))) (by simp)) (dv 1) (d_tup (da_cons (dv 6) (da_1 (dv 5))) (by simp)) (dv 1) (shp_two (ok p mp).n1 (hx v mv)) (shp_two (hx v mv) (ok r mr).n2) (no.three p mp r mr er v mv)) (fun h => nomatch h) fun _ => dms_nil ⟨(WkS.refl _).put rfl, rfl⟩)
  · subst e1 e2
    exact DMs.weak (dms_of ok0 ck_unit (N := fun _ => False) (dps_one (dp_ret (DV.to (d_sorted (hu64 hr) (dv (d := .lst []) 2) (.inl rfl) sortD_nil T.b.sorted) (congrArg D.lst srtD_nil))))) fun _ _ z => z.1.elim
theorem sc_patterns : FnScope ["things", "betters"] ["things", "betters"] (defScope (top 39)) := ⟨rfl, rfl, rfl, by decide +kernel, rfl, by decide +kernel, by decide +kernel⟩
theorem fn_patterns (T : Fk K mg) (Q : Ftb K mg CT) (xs : List Str) (ps : List Pr) (hx : ∀ x ∈ xs, Nm x) (hl : ps.length ≤ sizeLine) (ok : ∀ p ∈ ps, PrOk p) (no : NoPat xs ps) : FnT P w K mg base "patterns_of" 2 (fun M l => l = [.tup (dNs xs), .tup (ps.map dPr)]) (fun _ => Is (.lst [])) := by
  refine fn_def Q.patterns sc_patterns (fun _ _ _ _ _ _ us hl => match us, hl with | [_, _], _ => rfl) (fun M l e => by rw [e]; rfl) fun f cdv A outer s H E M l hr e => ?_
  subst e
  exact dps_one (dp_ret (d_catL (l := []) (m := []) (d_call (fn_threes T Q xs ps hx hl ok no) hr (da_cons (dv 0) (da_1 (dv 1))) rfl fun z hz => hz) (d_call (fn_twos T Q xs ps ok no) hr (da_1 (dv 1)) rfl fun z hz => hz) (by decide)))
theorem sc_arePairs : FnScope ["thing", "one"] ["thing"] (defScope (top 40)) := ⟨rfl, rfl, rfl, by decide +kernel, rfl, by decide +kernel, by decide +kernel⟩
theorem fn_arePairs (T : Fk K mg) (Q : Ftb K mg CT) (ps : List Pr) (ok : ∀ p ∈ ps, PrOk p) (hz : ps.length ≤ sizeLine) : FnT P w K mg base "are_pairs" 5 (fun M l => l = [.lst (ps.map dPr)]) (fun _ => Is (.bl true)) := by
  refine fn_def Q.arePairs sc_arePairs (fun _ _ _ _ _ _ us hl => match us, hl with | [_], _ => rfl) (fun M l e => by rw [e]; rfl) fun f cdv A outer s H E M l hr e => ?_
  subst e
  obtain ⟨t, r1, r2, i1, i2, i3, i4⟩ := isi_seq (x := .lst (ps.map dPr)) (.inl rfl)
  refine dps_one (dp_ret (DV.to (d_and2 (p := true) (q := true) (DV.to (d_isi2 (dv 0) i1 i2 i3 T.b.isi T.b.list T.b.tuple) (congrArg D.bl i4)) fun _ => DV.to (d_all (bs := ps.map fun _ => true) rfl ?_ T.b.all) (by simp)) rfl))
  rw [map_true]
  exact d_lc (F := dPr) (own := [("one", 1)]) (is := [1]) (u := fun d ds => ds.set 1 (some d)) rfl sc_arePairs.nd (.inl (di_lstV (dv 0))) (blkOk_by (by rfl)) (fun _ _ _ _ _ => pg_name (i := 1) sc_arePairs.nd rfl (Or.inl rfl)) (fun _ _ => tg1) (by decide)
      (fun _ _ _ _ _ y hy => d_call (fn_pair T) hr (da_1 (dv 1)) ⟨y, rfl, ok y hy⟩ fun z hz => hz) hz
/-- what a table is made of -/
structure TbOk (xs : List Str) (ps : List Pr) : Prop where
  nms : Nms xs
  prs : ∀ p ∈ ps, PrOk p
  inn : ∀ p ∈ ps, p.1 ∈ xs ∧ p.2 ∈ xs
  nd : ps.Nodup
  few : ps.length < 77
  no : NoPat xs ps
theorem NoPat.same {xs ys : List Str} {ps qs : List Pr} (h : NoPat xs ps) (hx : ∀ x, x ∈ ys → x ∈ xs) (hp : ∀ p, p ∈ qs ↔ p ∈ ps) : NoPat ys qs where
  two := fun p mp q mq => (h.two p ((hp p).mp mp) q ((hp q).mp mq)).imp (hp _).mpr (hp _).mpr
  three := fun p mp q mq e v mv => (h.three p ((hp p).mp mp) q ((hp q).mp mq) e v (hx v mv)).imp (hp _).mpr (hp _).mpr
theorem sc_table : FnScope ["self", "things", "betters", "place", "good", "pair", "name", "found"] ["self", "things", "betters"] (defScope (mth 41 0)) := ⟨rfl, rfl, rfl, by decide +kernel, rfl, by decide +kernel, by decide +kernel⟩
theorem mk_table (T : Fk K mg) (B : Ft K CT) (Q : Ftb K mg CT) (xs : List Str) (ps : List Pr) (ok : TbOk xs ps) : MkT P w K mg base "Table" CT 7 [] (fun M l => l = [.lst (dNs xs), .lst (ps.map dPr)]) (fun _ => tableF (srtF D.str xs) (srtF dPr ps)) := by
  refine mk_def Q.at_ Q.init sc_table (fun _ _ _ _ _ _ us hl => match us, hl with | [_, _, _], _ => rfl) (fun M l e => by rw [e]; rfl) fun f cdv A outer s H E M l G B' p hr e ok0 hp => ?_
  subst e
  have hr2 : Room 2 _ := hr.mono (by decide)
  have hr3 : Room 3 _ := hr.mono (by decide)
  have hr5 : Room 5 _ := hr.mono (by decide)
  have hz : ps.length ≤ sizeLine := Nat.le_trans (Nat.le_of_lt ok.few) (by decide)
  have hxz : xs.length ≤ sizeLine := Nat.le_trans (Nat.le_of_lt ok.nms.few) (by decide)
  refine dms_pure ok0 (ck_ins ok0 hp) (dp_forW (is := [3, 4]) (u := u2 3 4) PassesOwn.never rfl (di_enum (els := [.bl true, .bl true]) (d_lst (da_cons (d_call (fn_names T.b T.cn T.names T.name) hr3 (da_1 (dv 1)) ⟨_, xs, rfl, .inl rfl, ok.nms⟩ fun z hz => hz) (da_1 (d_call (fn_arePairs T Q ps ok.prs hz) hr5 (da_1 (dv 2)) rfl fun z hz => hz)))) T.b.enum)
      (pg_tup rfl (pgs_cons (pg_name (i := 3) sc_table.nd rfl (Or.inl rfl)) (pgs_cons (pg_name (i := 4) sc_table.nd rfl (Or.inl rfl)) pgs_nil))) um2 (fun i d h => ?_) fun i d h => ?_)
    (dms_pure ok0 (ck_ins ok0 hp) (dp_forW (u := fun d ds => ds.set 5 (some d)) PassesOwn.never rfl (di_lstV (dv (d := .lst (ps.map dPr)) 2)) (pg_name (i := 5) sc_table.nd rfl (Or.inl rfl)) um1 (fun _ _ _ => tg1) fun i d hd => ?_)
    (dms_consR (dm_fld (i := 0) (R := Is (.tup (dNs (srtF D.str xs)))) ok0 hp rfl B.cls B.f1 (d_tupleOf (DX.weak (DV.to (d_sorted (hu64 hr) (dv 1) (.inl rfl) (sortD_str hxz) T.b.sorted) (by rw [srtD_map])) fun d h => .inl h) T.b.tuple) (by decide) (by decide)) fun d1 c1 ⟨e1, dd, e2, e3⟩ => ?_))
  · obtain ⟨els, e, h⟩ := h
    rw [show els = _ from e, enumD_get] at h
    cases q : ([.bl true, .bl true] : List D)[i]? with
    | none => rw [q] at h; cases h
    | some z => rw [q] at h; cases h; exact tg2
  · obtain ⟨els, e, h⟩ := h
    rw [show els = _ from e, enumD_get] at h
    cases q : ([.bl true, .bl true] : List D)[i]? with
    | none => rw [q] at h; cases h
    | some z =>
      rw [q] at h
      cases h
      have hz : z = .bl true := by
        have m := List.mem_of_getElem? q
        rcases List.mem_cons.mp m with rfl | m
        · rfl
        · exact List.mem_singleton.mp m
      subst hz
      exact dps_one (dp_if (p := false) (DT.to (dt_not (p := true) (dt_v (dv 4))) rfl) (fun h => nomatch h) fun _ => dps_nil (((WkS.refl _).put rfl).put rfl))
  · obtain ⟨r, mr, rfl⟩ := el_pr hd
    refine dps_one ((dp_forW (u := fun d ds => ds.set 6 (some d)) PassesOwn.never rfl (di_tupV (els := [.str r.1, .str r.2]) (dv (d := dPr r) 5)) (pg_name (i := 6) sc_table.nd rfl (Or.inl rfl)) um1 (fun _ _ _ => tg1) fun j d hd => ?_).weak (fun _ e => by rw [show _ = _ from e]; exact (WkS.refl _).put rfl) fun _ h => h)
    have hd' : ∃ z, d = .str z ∧ z ∈ xs ∧ Nm z := by
      obtain ⟨els, e, h⟩ := hd
      rw [show els = _ from e] at h
      have m := List.mem_of_getElem? h
      rcases List.mem_cons.mp m with rfl | m
      · exact ⟨_, rfl, (ok.inn r mr).1, (ok.prs r mr).n1⟩
      · rw [List.mem_singleton] at m
        exact ⟨_, m, (ok.inn r mr).2, (ok.prs r mr).n2⟩
    obtain ⟨z, rfl, mz, nz⟩ := hd'
    exact dps_one (dp_if (p := false) ((c_nin (f := D.str) (x := z) (xs := xs) (n := 0) (hu65 hr) eqv_str (dv 6) (dv 1) (.inl rfl) (shp_str (cps_le nz)) (fun u hu => shp_str (cps_le (ok.nms.all u hu))) (by decide)).to (by rw [decide_eq_true mz]; rfl)).t (fun h => nomatch h) fun _ => dps_nil ((WkS.refl _).put rfl))
  · rw [show dd = _ from e2] at e3
    subst e1 e3
    refine dms_consR (dm_fld (i := 0) (R := Is (.tup ((srtF dPr ps).map dPr))) ok0 hp rfl B.cls B.f2 (d_tupleOf (DX.weak (d_sortedSet rfl (hu64 hr) T.b.sorted T.b.set (dv (d := .lst (ps.map dPr)) 2) ok.nd ok.few fun qs h => sortD_pr h) fun d h => .inl h) T.b.tuple) (show ("kept_betters" : Str) ∉ [("kept_things" : Str)] from by decide) (show 1 < 1000 from by decide)) fun d1 c1 ⟨e1, dd, e2, e3⟩ => ?_
    rw [show dd = _ from e2] at e3
    subst e1 e3
    have no2 : NoPat (srtF D.str xs) (srtF dPr ps) := ok.no.same (fun x h => srt_mem.mp h) fun p => srt_mem
    refine DMs.weak (dms_last (C0 := CT) (fs := tableF (srtF D.str xs) (srtF dPr ps)) (i := 0) ok0 hp rfl (dps_cons (dp_set (d := .lst []) 7 sc_table.nd (d_call (fn_patterns T Q (srtF D.str xs) (srtF dPr ps) (fun x h => ok.nms.all x (srt_mem.mp h)) (by rw [srt_len]; exact hz) (fun p h => ok.prs p (srt_mem.mp h)) no2) hr2
      (da_cons (d_fld (dv (d := dTable CT (srtF D.str xs) (srtF dPr ps)) 0) B.cls B.f1 rfl) (da_1 (d_fld (dv (d := dTable CT (srtF D.str xs) (srtF dPr ps)) 0) B.cls B.f2 rfl))) rfl fun z hz => hz)) (dps_one (dp_if (p := false) (c_neD (n := 1) (hu64 hr) (dv (d := .lst []) 7) (d_lst da_nil) shp_nil shp_nil (by decide) (eqv_nil _)).t (fun h => nomatch h) fun _ => dps_nil trivial)))) fun _ _ h => h
end BB
set_option maxHeartbeats 1000000
namespace DL
open PySem PySem.Spec PyProof.Rows L2 SO
/-! ### == and != of instances, by an own __eq__ -/
section
variable {M : Model} {A : Around} {E : Value → Shared → Prop} {s : Shared} {K : PySem.W.Frag} {x C : Addr} {ox : Obj} {od : Option Obj}
/-- a built-in slot that the class inherits -/
theorem ifSlot {name : Str} {id : String} {args : List Value} {Q : Option Value → Shared → Prop} (hk : K.In s.heap) (I : PySem.W.InstAt s.heap x ox C od) (hf : PySem.W.findIn K (.ref C) name = some (some (.builtin id))) (hb : ∀ self, bindSpecial (.builtin id) self = pure (.builtin id, [self]))
    (h : wpAny M A (call (.builtin id) (.ref x :: args)) (fun v => Q (some v)) E s) : wpAny M A (callSpecialIfBound? (.ref x) name args) Q E s := by
  unfold callSpecialIfBound? bindSpecialIfBound?
  have last : wpAny M A (call (.builtin id) ([.ref x] ++ args) >>= fun v => pure (some v)) Q E s := wpAny_bind (wpAny_mono h (fun _ _ q => wpAny_pure q) fun _ _ q => q)
  refine wpAny_holding (wpAny_bind (wpAny_bind (wpAny_bind (I.type.here ((PySem.W.looks_findIn hk hf).here ?_)))))
  simp only [hb]
  refine wpAny_bind (wpAny_askSetting (wpAny_ite ?_))
  split
  · exact wpAny_bind (wpAny_pure (wpAny_pure last))
  · exact wpAny_tryCatch (wpAny_bind (wpAny_pure (wpAny_pure last)))
end
section
variable {prog : Program} {w : World} {A : Around} {E : Value → Shared → Prop} {s : Shared} {K : PySem.W.Frag} {x y C f : Addr} {ox oy : Obj} {od od2 : Option Obj}
/-- x == y, both of class C -/
theorem same_eq {op : CmpOp} {Q : Value → Shared → Prop} (hu : A.units < cLine) (I : PySem.W.InstAt s.heap x ox C od) (J : PySem.W.InstAt s.heap y oy C od2)
    (h : wpAny (model prog w) A (tryCompare (.ref x) (cmpInfo op).2.1 (.ref y)) (fun r s' => ∃ v, r = some v ∧ Q v s') E s) : wpAny (model prog w) A (richCompare op (.ref x) (.ref y)) Q E s := by
  unfold richCompare
  simp only [oneThing_ref]
  refine wpAny_holding (wpAny_bind (wpAny_cRoomFor hu (wpAny_bind (I.type.here (wpAny_bind (J.type.here ?_))))))
  rw [show (Value.ref C != Value.ref C) = false from by simp]
  simp only [Bool.false_eq_true, if_false]
  refine wpAny_bind (wpAny_pure ?_)
  simp only [Bool.false_eq_true, if_false]
  refine wpAny_bind (wpAny_mono h (fun r s' z => ?_) fun _ _ q => q)
  obtain ⟨v, rfl, q⟩ := z
  exact wpAny_pure q
theorem try_own {name : Str} {Q : Option Value → Shared → Prop} (hk : K.In s.heap) (I : PySem.W.InstAt s.heap x ox C od) (hf : PySem.W.findIn K (.ref C) name = some (some (.ref f))) (fn : PySem.W.isFn K (.ref f) = true)
    (h : wpAny (model prog w) A (call (.ref f) [.ref x, .ref y]) (fun v s' => ∃ b, v = .bool b ∧ Q (some (.bool b)) s') E s) : wpAny (model prog w) A (tryCompare (.ref x) name (.ref y)) Q E s := by
  unfold tryCompare
  refine wpAny_bind (PySem.W.ifBound_K hk I hf fn (wpAny_mono h (fun v s' ⟨b, e, q⟩ => ?_) fun _ _ q => q))
  subst e
  exact wpAny_pure q
theorem bind_ne (self : Value) : bindSpecial (.builtin "object.__ne__") self = pure (.builtin "object.__ne__", [self]) := PySem.F.cmp_object.ne.bind self
/-- x != y where the class has no __ne__ of its own -/
theorem try_ne {Q : Option Value → Shared → Prop} (hu : A.units + 1 < cLine) (hk : K.In s.heap) (I : PySem.W.InstAt s.heap x ox C od) (hne : PySem.W.findIn K (.ref C) "__ne__" = some (some (.builtin "object.__ne__"))) (hsub : PySem.W.subIn K (.ref C) (.type "object") = some true)
    (hf : PySem.W.findIn K (.ref C) "__eq__" = some (some (.ref f))) (fn : PySem.W.isFn K (.ref f) = true)
    (h : wpAny (model prog w) A.in1 (call (.ref f) [.ref x, .ref y]) (fun v s' => ∃ b, v = .bool b ∧ Q (some (.bool (!b))) s') E s) : wpAny (model prog w) A (tryCompare (.ref x) "__ne__" (.ref y)) Q E s := by
  unfold tryCompare
  have inst : PySem.W.Looks (model prog w) s.heap (isInstance (.ref x) (.type "object")) true := I.type.andThen (PySem.W.looks_subIn hk hsub)
  refine wpAny_bind (ifSlot hk I hne bind_ne (wpAny_call (codeAny_call_builtin PySem.F.cmp_object.ne.plain PySem.F.cmpEntry_ne (PySem.W.check_slot PySem.F.cmpKind_ne PySem.F.cmpSplit_ne inst (PySem.F.cmpArgs_ne _ _) ?_))))
  unfold Builtin.«object.__ne__»
  refine wpAny_bind (show wpAny _ _ (pure (Value.ref x, [Value.ref y])) _ _ _ from wpAny_pure ?_)
  dsimp only
  refine wpAny_bind (wpAny_cRoomFor (by show A.units + 1 < cLine; exact hu) ?_)
  refine wpAny_bind (PySem.W.ifBound_K hk I hf fn (wpAny_mono h (fun v s' ⟨b, e, q⟩ => ?_) fun _ _ q => q))
  subst e
  dsimp only
  refine wpAny_bind (wpAny_truthy_bool ?_)
  exact wpAny_pure (wpAny_pure q)
end
/-- the class's own ==, and no own != -/
structure EqAt (K : PySem.W.Frag) (C : Addr) : Prop where
  ne : PySem.W.findIn K (.ref C) "__ne__" = some (some (.builtin "object.__ne__"))
  sub : PySem.W.subIn K (.ref C) (.type "object") = some true
section
variable {X : Cx} {M : Mu} {ds : DS} {a b : Expr} {C : Addr} {k : Nat} {fs gs : List (Str × D)} {p : Bool}
theorem own_run {A : Around} {pins : List (Addr × Obj)} {σ : L2.St} {H G : Hp} {s : Shared} {va vb : Addr} {f : Addr} {fd : FuncData} {ps : List Str} {Q : Bool → Hp → Prop} {Pre : Mu → List D → Prop} (F : FnOk X.prog X.w X.K X.mg X.base CX0 k f fd ps (spD X.K Pre (fun _ => Is (.bl p)))) (hb : Binds X.K fd ps []) (room : Room k A) (fr : A.frames = X.A.frames)
    (I : Inv X pins σ H s) (ok : Ok mu0 G H) {l : List D} (t : Dts X.K G [.ref va, .ref vb] l) (pre : Pre mu0 l) (fin : ∀ G' H', Gr mu0 G H G' H' → Q p H') :
    wpAny (model X.prog X.w) A (call (.ref f) [.ref va, .ref vb]) (fun v s' => ∃ b, v = .bool b ∧ ∃ H', Inv X pins σ H' s' ∧ b = p ∧ Q p H') X.xe s := by
  have sp : spD X.K Pre (fun _ => Is (.bl p)) [.ref va, .ref vb] H (fun v H' => v = .bl p ∧ Q p H') E0 := ⟨mu0, G, l, ok, t, pre, fun d v G' H' r g t' => by
    rw [show d = _ from r] at t'
    cases t'
    exact ⟨rfl, fin G' H' g⟩⟩
  have e0 : Env0 X.prog X.w X.K X.mg X.base A X.stack s H := by
    have e := I.env0
    exact ⟨by rw [fr]; exact e.frames, e.mod, e.bs, e.bsz, e.funs, e.frf, e.hok, e.bare⟩
  have len := F.len _ _ _ _ sp
  have vals : Vals [V.ref va, V.ref vb] [Value.ref va, Value.ref vb] := .cons rfl (.cons rfl .nil)
  refine wpAny_call (codeAny_mono (F.run A X.stack s H ⟨[.ref va, .ref vb], []⟩ [.ref va, .ref vb] [.ref va, .ref vb] _ E0 room e0 (by
    have := hb s [.ref va, .ref vb] I.kIn (by simpa using len)
    simpa using this) vals sp) fun r s' q => ?_)
  cases r with
  | error e => exact q.elim
  | ok fl =>
    cases fl with
    | ret u =>
      obtain ⟨z, H', I', rz, ez, q'⟩ := I.after q
      subst ez
      cases rz
      exact ⟨p, rfl, H', I', rfl, q'⟩
    | next => exact False.elim q
    | brk => exact False.elim q
    | cont => exact False.elim q
def rInsE (K : PySem.W.Frag) (C : Addr) (fs gs : List (Str × D)) (p : Bool) : R2 := fun x y H Q => ∃ va vb dx dy us vs G, x = .ref va ∧ y = .ref vb ∧ H va = some (.ins C dx us) ∧ H vb = some (.ins C dy vs) ∧ Ok mu0 G H ∧ Dts K G [x, y] [.ob C fs, .ob C gs] ∧ ∀ G' H', Gr mu0 G H G' H' → Q (.bl p) H'
theorem op_ownEq {Pre : Mu → List D → Prop} (F : MtT X.prog X.w X.K X.mg X.base C "__eq__" k Pre (fun _ => Is (.bl p))) (hr : Room k X.A) (pre : Pre mu0 [.ob C fs, .ob C gs]) : OpR X (compareOp .Eq) (rInsE X.K C fs gs p) := by
  obtain ⟨f, fd, ps, Fo, mt, hb⟩ := F.ex
  intro pins s σ H x y v u Q I rx ry ⟨va, vb, dx, dy, us, vs, G, ex, ey, ha, hb', ok, t, fin⟩
  subst ex ey
  cases rx
  cases ry
  obtain ⟨_, J, _⟩ := ins_get I.hok ha
  obtain ⟨_, J', _⟩ := ins_get I.hok hb'
  obtain ⟨_, J, _⟩ := J.look
  obtain ⟨_, J', _⟩ := J'.look
  show wpAny (model X.prog X.w) X.A (richCompare .Eq (.ref va) (.ref vb)) (EP X pins σ Q) X.xe s
  refine same_eq hr.units0 J J' (try_own (name := (cmpInfo .Eq).2.1) I.kIn J mt.at_ mt.fn (wpAny_mono (own_run Fo hb hr rfl I ok t pre (Q := fun b H' => Q (.bl b) H') fin) (fun v s' ⟨b, e, H', I', eb, q⟩ => ⟨b, e, _, rfl, .bl b, H', I', rfl, ?_⟩) fun _ _ q => q))
  rw [eb]; exact q
theorem op_ownNe {Pre : Mu → List D → Prop} (F : MtT X.prog X.w X.K X.mg X.base C "__eq__" k Pre (fun _ => Is (.bl p))) (E : EqAt X.K C) (hr : Room (k + 1) X.A) (pre : Pre mu0 [.ob C fs, .ob C gs]) : OpR X (compareOp .NotEq) (rInsE X.K C fs gs (!p)) := by
  obtain ⟨f, fd, ps, Fo, mt, hb⟩ := F.ex
  intro pins s σ H x y v u Q I rx ry ⟨va, vb, dx, dy, us, vs, G, ex, ey, ha, hb', ok, t, fin⟩
  subst ex ey
  cases rx
  cases ry
  obtain ⟨_, J, _⟩ := ins_get I.hok ha
  obtain ⟨_, J', _⟩ := ins_get I.hok hb'
  obtain ⟨_, J, _⟩ := J.look
  obtain ⟨_, J', _⟩ := J'.look
  show wpAny (model X.prog X.w) X.A (richCompare .NotEq (.ref va) (.ref vb)) (EP X pins σ Q) X.xe s
  refine same_eq hr.units0 J J' (try_ne (by have := hr.un; omega) I.kIn J E.ne E.sub mt.at_ mt.fn (wpAny_mono (own_run (A := X.A.in1) Fo hb hr.in1 rfl I ok t pre (Q := fun b H' => Q (.bl (!b)) H') fin) (fun v s' ⟨b, e, H', I', eb, q⟩ => ⟨b, e, _, rfl, .bl (!b), H', I', rfl, ?_⟩) fun _ _ q => q))
  rw [eb]; exact q
theorem opd_ins {K : PySem.W.Frag} : OpD K M (rInsE K C fs gs p) (.ob C fs) (.ob C gs) (Is (.bl p)) := fun G H v w Q ok t1 t2 k => by
  have t1' := t1
  have t2' := t2
  cases t1 with
  | ob h1 _ _ =>
    cases t2 with
    | ob h2 _ _ => exact ⟨_, _, _, _, _, _, G, rfl, rfl, ok.sub _ _ h1, ok.sub _ _ h2, ok.weaken Le.zero, .cons t1' (.cons t2' .nil), fun G' H' g => k _ _ G' H' rfl (g.lift ok Le.zero) (.bl _)⟩
theorem c_eqO {Pre : Mu → List D → Prop} (F : MtT X.prog X.w X.K X.mg X.base C "__eq__" k Pre (fun _ => Is (.bl p))) (hr : Room k X.A) (pre : Pre mu0 [.ob C fs, .ob C gs]) (ha : DV X M a ds (.ob C fs)) (hb : DV X M b ds (.ob C gs)) : CmpD X M .Eq a b ds p := cmp_mk (op_ownEq F hr pre) ha hb (nomark _) opd_ins
theorem c_neO {Pre : Mu → List D → Prop} (F : MtT X.prog X.w X.K X.mg X.base C "__eq__" k Pre (fun _ => Is (.bl p))) (E : EqAt X.K C) (hr : Room (k + 1) X.A) (pre : Pre mu0 [.ob C fs, .ob C gs]) (ha : DV X M a ds (.ob C fs)) (hb : DV X M b ds (.ob C gs)) : CmpD X M .NotEq a b ds (!p) := cmp_mk (op_ownNe F E hr pre) ha hb (nomark _) opd_ins
end
end DL
set_option maxHeartbeats 1000000
namespace DL
open PySem PySem.Spec PyProof.Rows L2 SO
/-! ### == of dicts -/
section
variable {κ : Type} [DecidableEq κ]
/-- what == says of two dicts with flat values -/
def hitV (kb : List (κ × V)) (p : κ × V) : Bool := match valV kb p.1 with | some v => eqV p.2 v | none => false
def sameV (ka kb : List (κ × V)) : Bool := ka.length == kb.length && ka.all (hitV kb)
end
section
variable {X : Cx} {ps : List (Addr × Obj)} {σ : L2.St} {H : Hp} {s : Shared} {A : Around} {E : Value → Shared → Prop} {a b : Addr}
/-- tuple keys -/
theorem pairs_tup {nm : String} {ka kb : List (List Key × V)} {Q : Bool → Shared → Prop} (hu : A.units < cLine) (inv : Inv X ps σ H s) (ha : Rd H a (.dT ka)) (hb : Rd H b (.dT kb)) (fa : ∀ p ∈ ka, flatV p.2 = true) (fb : ∀ p ∈ kb, flatV p.2 = true) (fin : Q (sameV ka kb) s) :
    wpAny (model X.prog X.w) A (Builtin.Dict.samePairs nm a b) Q E s := by
  obtain ⟨_, ya, xa, ra, oa, es, ep, hoa, _, hda, hea, hia, _⟩ := dt_rd inv.hok ha
  obtain ⟨_, yb, xb, rb, ob, es', ep', hob, _, hdb, heb, hib, hnb⟩ := dt_rd inv.hok hb
  have la : es.size = ka.length := (size_of_entries hea).trans (Paired.length ra).symm
  have lb : es'.size = kb.length := (size_of_entries heb).trans (Paired.length rb).symm
  unfold Builtin.Dict.samePairs Builtin.Dict.showsAll
  rw [if_neg (by rw [ya]; decide), if_neg (by rw [yb]; decide)]
  refine wpAny_bind (wpAny_pure (wpAny_bind (wpAny_pure (wpAny_bind (wpAny_dictEntries hoa hda ?_)))))
  dsimp only
  refine wpAny_bind (wpAny_dictEntries hob hdb ?_)
  by_cases sz : ka.length = kb.length
  case neg =>
    rw [if_pos (by rw [la, lb]; simpa using sz)]
    have off : sameV ka kb = false := by
      unfold sameV
      rw [show (ka.length == kb.length) = false from by simpa using sz, Bool.false_and]
    rw [off] at fin
    exact wpAny_bind (wpAny_rule (wpAny_pure fin))
  case pos =>
    rw [if_neg (by rw [la, lb, sz]; simp)]
    have whole : sameV ka kb = ka.all (hitV kb) := by
      unfold sameV
      rw [show (ka.length == kb.length) = true from by simpa using sz, Bool.true_and]
    rw [whole] at fin
    refine wpAny_bind (wpAny_dictEpoch hoa hda (wpAny_bind ?_))
    rw [Std.Legacy.Range.forIn_eq_forIn_range']
    simp only [Std.Legacy.Range.size, Nat.sub_zero, Nat.add_sub_cancel, Nat.div_one]
    refine wpAny_forIn_list _ (fun left q s' => (∃ i, left = List.range' i (es.size - i) ∧ i ≤ es.size ∧ (ka.take i).all (hitV kb) = true) ∧ s' = s ∧ q = (none, ())) _ ?_ ?_ _ _ ⟨⟨0, by simp, Nat.zero_le _, rfl⟩, rfl, rfl⟩
    · rintro x left q s' ⟨⟨i, el, hi, so⟩, rfl, rfl⟩
      have lt : i < es.size := by
        rcases Nat.lt_or_ge i es.size with h | h
        · exact h
        · rw [Nat.sub_eq_zero_of_le h] at el; simp at el
      have step : es.size - i = (es.size - (i + 1)) + 1 := by omega
      rw [step, List.range'_succ] at el
      injection el with e1 e2
      subst e1
      refine wpAny_bind (wpAny_dictEntries hoa hda ?_)
      rw [Array.getElem?_eq_getElem lt]
      have ltk : x < ka.length := la ▸ lt
      have at_k : ka[x]? = some ka[x] := List.getElem?_eq_getElem ltk
      obtain ⟨y, hy, k1, k2, k3⟩ := paired_get ra at_k
      have ent : es[x] = entryOfKey (tupleKind (mixKind X.prog X.w)) y := by
        have := entry_at hea x
        rw [Array.getElem?_eq_getElem lt, hy] at this
        exact Option.some.inj this
      have isY := hia y (List.mem_of_getElem? hy)
      have next : (ka.take (x + 1)).all (hitV kb) = hitV kb ka[x] := by
        rw [List.take_succ, at_k, List.all_append, so]
        simp
      have stop : hitV kb ka[x] = false → ka.all (hitV kb) = false := fun h => by
        rw [← Bool.not_eq_true, List.all_eq_true]
        intro z
        have := z _ (List.getElem_mem ltk)
        rw [h] at this
        cases this
      rw [ent]
      dsimp only
      refine wpAny_bind (wpAny_holding ?_)
      refine wpAny_bind (wpAny_dictFind_heap (knd := tupleKind (mixKind X.prog X.w)) (k := y.1) (a := y.2.1) hu isY hob hdb heb hib hnb (fun none_ => ?_) fun j p hj => ?_)
      · have nv : valV kb ka[x].1 = none := by
          have r := KT.val rb ka[x].1
          rw [show ka[x].1 = y.1 from k1, atKey_none_of_get none_] at r
          rw [show ka[x].1 = y.1 from k1]
          cases q : valV kb y.1 with
          | none => rfl
          | some v => rw [q] at r; exact r.elim
        have z : hitV kb ka[x] = false := by unfold hitV; rw [nv]
        refine wpAny_pure ?_
        rw [stop z] at fin
        exact wp_if_pos rfl (wpAny_pure (wpAny_pure fin))
      · refine wpAny_bind (wpAny_dictEntries hob hdb ?_)
        rw [entry_at heb j, hj]
        have found := KT.val rb ka[x].1
        rw [show ka[x].1 = y.1 from k1, atKey_of_get hnb hj] at found
        obtain ⟨v, ev, rv⟩ : ∃ v, valV kb ka[x].1 = some v ∧ RelV v p.2 := by
          rw [show ka[x].1 = y.1 from k1]
          cases q : valV kb y.1 with
          | none => rw [q] at found; exact found.elim
          | some v => rw [q] at found; exact ⟨v, rfl, found⟩
        have fv : flatV v = true := by
          have q : ∀ {l : List (List Key × V)} {k : List Key} {v : V}, valV l k = some v → ∃ p ∈ l, p.2 = v := by
            intro l
            induction l with
            | nil => intro k v h; cases h
            | cons r l ih =>
              intro k v h
              by_cases e : r.1 = k
              · rw [valV_pos e] at h
                exact ⟨r, List.mem_cons_self, Option.some.inj h⟩
              · rw [valV_neg e] at h
                obtain ⟨p, hp, e2⟩ := ih h
                exact ⟨p, List.mem_cons_of_mem _ hp, e2⟩
          obtain ⟨p, hp, e2⟩ := q ev
          exact e2 ▸ fb p hp
        have z : hitV kb ka[x] = eqV ka[x].2 v := by unfold hitV; rw [ev]
        refine wpAny_holding (eqAt_V k3 rv (fa _ (List.getElem_mem ltk)) fv X.prog X.w _ _ ?_)
        rw [← z]
        cases t : hitV kb ka[x] with
        | false =>
          rw [stop t] at fin
          exact wp_if_pos rfl (wpAny_pure (wpAny_pure fin))
        | true =>
          refine wp_if_neg (by decide) (wpAny_bind (wpAny_dictEpoch hoa hda (wp_if_neg (by simp) (wpAny_pure ⟨⟨x + 1, e2, lt, ?_⟩, rfl, rfl⟩))))
          rw [next, t]
    · rintro q s' ⟨⟨i, el, hi, so⟩, rfl, rfl⟩
      have full : i = es.size := by
        rcases Nat.lt_or_ge i es.size with h | h
        · rw [show es.size - i = (es.size - (i + 1)) + 1 by omega, List.range'_succ] at el; cases el
        · omega
      rw [full, la, List.take_length] at so
      rw [so] at fin
      exact wpAny_pure fin
end
end DL
set_option maxHeartbeats 1000000
namespace DL
open PySem PySem.Spec PyProof.Rows L2 SO
section
variable {X : Cx} {ps : List (Addr × Obj)} {σ : L2.St} {H : Hp} {s : Shared} {A : Around} {E : Value → Shared → Prop} {a b : Addr}
theorem hits_of {ka : List (Key × V)} {kb : List (Key × V)} {va vb : List (Key × Value)} (ra : KV ka va) (rb : KV kb vb) (fa : ∀ p ∈ ka, flatV p.2 = true) (fb : ∀ k v, valV kb k = some v → flatV v = true) : PySem.W.KeqHitsP X.prog X.w A s vb va (ka.all (hitV kb)) := by
  induction ra with
  | nil => exact .nil
  | @cons p q ks vs h t ih =>
    obtain ⟨h1, h2⟩ := h
    have ih := ih fun r m => fa r (List.mem_cons_of_mem _ m)
    obtain ⟨k, v⟩ := p
    obtain ⟨k', u⟩ := q
    have h1 : k = k' := h1
    subst h1
    have r := rb.val k
    rw [List.all_cons]
    cases q : valV kb k with
    | none =>
      rw [q] at r
      have e : valueAt vb k = none := by
        cases z : valueAt vb k with
        | none => rfl
        | some y => rw [z] at r; exact r.elim
      rw [show hitV kb (k, v) = false from by unfold hitV; rw [q], Bool.false_and]
      exact .miss e
    | some y =>
      rw [q] at r
      obtain ⟨y', e, ry⟩ : ∃ y', valueAt vb k = some y' ∧ RelV y y' := by
        cases z : valueAt vb k with
        | none => rw [z] at r; exact r.elim
        | some y' => rw [z] at r; exact ⟨y', rfl, r⟩
      rw [show hitV kb (k, v) = eqV v y from by unfold hitV; rw [q]]
      exact .hit e (SeqAt.EqAt.eqP (eqAt_V h2 ry (fa _ List.mem_cons_self) (fb k y q))) ih
theorem valV_mem {κ : Type} [DecidableEq κ] : ∀ {l : List (κ × V)} {k : κ} {v : V}, valV l k = some v → (k, v) ∈ l
  | [], _, _, h => by cases h
  | r :: l, k, v, h => by
    by_cases e : r.1 = k
    · rw [valV_pos e] at h
      subst e
      rw [← Option.some.inj h]
      exact List.mem_cons_self
    · rw [valV_neg e] at h
      exact List.mem_cons_of_mem _ (valV_mem h)
/-- == of two dicts of one kind, flat values -/
def rSameT : R2 := fun x y H Q => ∃ a b ka kb, x = .ref a ∧ y = .ref b ∧ Rd H a (.dT ka) ∧ Rd H b (.dT kb) ∧ (∀ p ∈ ka, flatV p.2 = true) ∧ (∀ p ∈ kb, flatV p.2 = true) ∧ Q (.bl (sameV ka kb)) H
def rSameK : R2 := fun x y H Q => ∃ a b ka kb, x = .ref a ∧ y = .ref b ∧ Rd H a (.dK ka) ∧ Rd H b (.dK kb) ∧ (∀ p ∈ ka, flatV p.2 = true) ∧ (∀ p ∈ kb, flatV p.2 = true) ∧ Q (.bl (sameV ka kb)) H
theorem op_sameT (hu : X.A.units + 1 < cLine) : OpR X (compareOp .Eq) rSameT := by
  intro pins s σ H x y v u Q I rx ry ⟨a, b, ka, kb, ex, ey, ha, hb, fa, fb, fin⟩
  subst ex ey
  cases rx
  cases ry
  obtain ⟨_, _, _, _, da⟩ := dt_rd I.hok ha
  obtain ⟨_, _, _, _, db⟩ := dt_rd I.hok hb
  show wpAny (model X.prog X.w) X.A (richCompare .Eq (.ref a) (.ref b)) (EP X pins σ Q) X.xe s
  refine wpAny_richCompare_same_room (op := .Eq) da.typeIs db.typeIs PySem.F.slot_dict_eq (wpAny_call_entry PySem.F.slot_dict_eq da.typeIs PySem.F.entry_dict_eq ?_ (PySem.F.args_dict_eq_2 _ _)) (by omega)
  refine wpAny_bind (show wpAny _ _ (Builtin.Dict.dictSlotArgs "__eq__" ⟨[.ref a, .ref b], []⟩) _ _ s from ?_)
  unfold Builtin.Dict.dictSlotArgs
  refine wpAny_bind (wpAny_notOrdered_dict da.typeIs (show wpAny _ _ (pure (Value.ref a, Value.ref b)) _ _ s from wpAny_pure ?_))
  refine wpAny_bind (wpAny_isInstance (T := "dict") db.typeIs PySem.F.sub_dict_dict ?_)
  simp only [Bool.not_true, Bool.false_eq_true, if_false]
  refine wpAny_bind (wpAny_pure (wpAny_bind (wpAny_pure (wpAny_bind (pairs_tup (show X.A.units + 1 < cLine from hu) I ha hb fa fb (wpAny_pure ⟨_, rfl, (fun z => nomatch z), ?_⟩))))))
  rw [show (sameV ka kb == true) = sameV ka kb from by cases sameV ka kb <;> rfl]
  exact ⟨.bl _, H, I, rfl, fin⟩
theorem op_sameK (hu : X.A.units + 1 < cLine) : OpR X (compareOp .Eq) rSameK := by
  intro pins s σ H x y v u Q I rx ry ⟨a, b, ka, kb, ex, ey, ha, hb, fa, fb, fin⟩
  subst ex ey
  cases rx
  cases ry
  obtain ⟨_, ya, va, ra, da⟩ := dk_rd I.hok ha
  obtain ⟨_, yb, vb, rb, db⟩ := dk_rd I.hok hb
  show wpAny (model X.prog X.w) X.A (richCompare .Eq (.ref a) (.ref b)) (EP X pins σ Q) X.xe s
  refine PySem.W.rcP_dicts ya yb da db (by omega) (r := ka.all (hitV kb)) (fun _ => hits_of ra rb fa fun k v h => fb _ (valV_mem h)) _ _ ?_
  rw [← ra.length, ← rb.length]
  exact ⟨.bl _, H, I, rfl, fin⟩
end
/-! ### what it says of lists in order -/
section
variable {α κ : Type} [DecidableEq α] [DecidableEq κ] {kf : α → κ} {vf : α → V} {as bs : List α}
theorem perm_sub : ∀ {l m : List α}, l.Nodup → (∀ x ∈ l, x ∈ m) → m.length ≤ l.length → l.Perm m
  | [], [], _, _, _ => List.Perm.refl _
  | [], _ :: _, _, _, h => by simp at h
  | a :: l, m, nd, sub, h => by
    rw [List.nodup_cons] at nd
    have ma := sub a List.mem_cons_self
    have pm := List.perm_cons_erase ma
    refine (List.Perm.cons a (perm_sub nd.2 (fun x hx => ?_) ?_)).trans pm.symm
    · exact (List.mem_erase_of_ne fun e => nd.1 (by rw [← e]; exact hx)).mpr (sub x (List.mem_cons_of_mem _ hx))
    · have := pm.length_eq
      rw [List.length_cons] at this h
      omega
theorem val_enc : ∀ {bs : List α} {b : α}, (bs.map kf).Nodup → b ∈ bs → valV (bs.map fun a => (kf a, vf a)) (kf b) = some (vf b)
  | [], _, _, m => by cases m
  | c :: bs, b, nd, m => by
    rw [List.map_cons, List.nodup_cons] at nd
    rw [List.map_cons]
    by_cases e : kf c = kf b
    · rw [valV_pos (show (kf c, vf c).1 = kf b from e)]
      rcases List.mem_cons.mp m with rfl | m
      · rfl
      · exact absurd (List.mem_map.mpr ⟨b, m, e.symm⟩) nd.1
    · rw [valV_neg (show ¬ (kf c, vf c).1 = kf b from e)]
      exact val_enc nd.2 ((List.mem_cons.mp m).resolve_left fun z => e (by rw [z]))
theorem same_perm (hv : ∀ a b : α, eqV (vf a) (vf b) = true ↔ vf a = vf b) (inj : ∀ a b : α, kf a = kf b → vf a = vf b → a = b) (na : (as.map kf).Nodup) (nb : (bs.map kf).Nodup) :
    sameV (as.map fun a => (kf a, vf a)) (bs.map fun a => (kf a, vf a)) = true ↔ as.Perm bs := by
  unfold sameV
  rw [Bool.and_eq_true, List.length_map, List.length_map, beq_iff_eq, List.all_eq_true]
  constructor
  · rintro ⟨len, all⟩
    refine perm_sub ?_ (fun a ha => ?_) (by omega)
    · unfold List.Nodup at na ⊢
      rw [List.pairwise_map] at na
      exact na.imp fun h e => h (by rw [e])
    · have h := all _ (List.mem_map.mpr ⟨a, ha, rfl⟩)
      unfold hitV at h
      cases q : valV (bs.map fun a => (kf a, vf a)) (kf a) with
      | none => rw [q] at h; cases h
      | some v =>
        rw [q] at h
        obtain ⟨b, hb, e⟩ := List.mem_map.mp (valV_mem q)
        have e1 : kf b = kf a := congrArg Prod.fst e
        have e2 : vf b = v := congrArg Prod.snd e
        have h : eqV (vf a) v = true := h
        rw [← e2] at h
        rw [inj a b e1.symm ((hv a b).mp h)]
        exact hb
  · intro pm
    refine ⟨pm.length_eq, fun p hp => ?_⟩
    obtain ⟨a, ha, rfl⟩ := List.mem_map.mp hp
    unfold hitV
    rw [show ((kf a, vf a) : κ × V).1 = kf a from rfl, val_enc nb (pm.mem_iff.mp ha)]
    exact (hv a a).mpr rfl
/-- in order: the same if equal -/
theorem same_sorted {le : α → α → Bool} (hv : ∀ a b : α, eqV (vf a) (vf b) = true ↔ vf a = vf b) (inj : ∀ a b : α, kf a = kf b → vf a = vf b → a = b) (na : (as.map kf).Nodup) (nb : (bs.map kf).Nodup) (pa : as.Pairwise fun a b => le a b = true) (pb : bs.Pairwise fun a b => le a b = true)
    (anti : ∀ a b, le a b = true → le b a = true → kf a = kf b) : sameV (as.map fun a => (kf a, vf a)) (bs.map fun a => (kf a, vf a)) = decide (as = bs) := by
  have key : as.Perm bs ↔ as = bs := by
    refine ⟨fun pm => ?_, fun e => e ▸ List.Perm.refl _⟩
    refine List.Perm.eq_of_pairwise (le := fun a b => le a b = true) (fun a b ha hb h1 h2 => ?_) pa pb pm
    have hb2 := pm.mem_iff.mpr hb
    have e := anti a b h1 h2
    obtain ⟨i, hi, ei⟩ := List.mem_iff_getElem.mp ha
    obtain ⟨j, hj, ej⟩ := List.mem_iff_getElem.mp hb2
    have e2 : (as.map kf)[i]'(by rw [List.length_map]; exact hi) = (as.map kf)[j]'(by rw [List.length_map]; exact hj) := by rw [List.getElem_map, List.getElem_map, ei, ej, e]
    have := (List.getElem_inj na).mp e2
    subst this
    rw [← ei, ← ej]
  have sp := same_perm hv inj na nb
  by_cases e : as = bs
  · rw [decide_eq_true e]
    exact sp.mpr (key.mpr e)
  · rw [decide_eq_false e]
    cases q : sameV (as.map fun a => (kf a, vf a)) (bs.map fun a => (kf a, vf a)) with
    | false => rfl
    | true => exact absurd (key.mp (sp.mp q)) e
end
end DL
set_option maxHeartbeats 1000000
namespace DL
open PySem PySem.Spec PyProof.Rows L2 SO
/-- what isinstance asks of an own class -/
structure ClsAt (K : PySem.W.Frag) (C : Addr) : Prop where
  cls : Cls K C
  ha : PySem.W.findIn K (.ref C) "__class__" = some (some (.builtin "object.__class__"))
  hn : PySem.W.specialIn K (.builtin "object.__class__") "__get__" = some (some (.builtin "getset_descriptor.__get__"))
  htk : PySem.W.takesIn K (.builtin "object.__class__") = some true
  hm : PySem.W.mroIn K C (.type "object") = some true
section
variable {X : Cx} {M : Mu} {ds : DS} {a b : Expr} {pos : Pos}
theorem d_isiO {n m : Str} {C : Addr} {fs : List (Str × D)} {p q : Pos} (c : ClsAt X.K C) (ha : DV X M a ds (.ob C fs)) (hm : X.mg n = none) (hm2 : X.mg m = some (.ref C)) (hg : Gl X n := by rfl) (hv : bootBuiltins n = some (.builtin "isinstance") := by rfl)
    (hg2 : Gl X m := by rfl) (hn : n ≠ "__name__" := by decide) (hdb : (n == ("__debug__" : Str)) = false := by decide) (hdb2 : (m == ("__debug__" : Str)) = false := by decide)
    (hs : starEach [a, .Name m q] X.env = (false, eval a X.env) :: starEach [.Name m q] X.env := by rfl) (hs2 : starEach [.Name m q] X.env = (false, eval (.Name m q) X.env) :: starEach [] X.env := by rfl) (hpl : (backTo pos (starEach [.Name m q] X.env)).any (·.1) = false := by rfl) :
    DV X M (.Call (.Name n p) [a, .Name m q] [] pos) ds (.bl true) :=
  dx_callB (Rl := Is [.ob C fs, .raw (.ref C)]) call_isi (da_cons ha (da_1 (dx_c (pe_glob hg2 hm2 (v := .ref C) rfl hdb2) fun _ => .raw _) hs2) hs) (fun l e G H xs Q ok t1 k => by
    rw [show l = [.ob C fs, .raw (.ref C)] from e] at t1
    cases t1 with
    | cons t1 t2 =>
      cases t2 with
      | cons t2 t3 =>
        cases t3; cases t2
        cases t1 with
        | ob h1 _ _ => exact ⟨_, _, _, _, true, rfl, .own C, .base (.ins (ok.sub _ _ h1) c.cls c.ha c.hn c.htk c.hm), by unfold PySem.W.kitOne; rw [if_pos (beq_self_eq_true _)], k _ _ G H rfl (Gr.refl ok) (.bl true)⟩) hg hm hv hn hdb hs hpl
end
theorem dts_mapT {K : PySem.W.Frag} {G : Hp} {α κ : Type} {kf : α → κ} {df : α → D} {vf : α → V} (only : ∀ a v, Dt K G v (df a) → v = vf a) : ∀ {xs : List α} {kvs : List (κ × V)}, kvs.map (·.1) = (xs.map fun a => (kf a, df a)).map (·.1) → Dts K G (kvs.map (·.2)) ((xs.map fun a => (kf a, df a)).map (·.2)) → kvs = xs.map fun a => (kf a, vf a)
  | [], [], _, _ => rfl
  | [], _ :: _, h, _ => by cases h
  | _ :: _, [], h, _ => by cases h
  | x :: xs, (k, v) :: kvs, h, t => by
    rw [List.map_cons, List.map_cons, List.map_cons] at h
    injection h with h1 h2
    cases t with
    | cons t1 t2 =>
      rw [dts_mapT only h2 t2, List.map_cons, only x v t1, show k = kf x from h1]
section
variable {X : Cx} {M : Mu} {ds : DS} {a b : Expr} {α : Type} {as bs : List α}
theorem c_eqDT {kf : α → List Key} {df : α → D} {vf : α → V} (only : ∀ K G a v, Dt K G v (df a) → v = vf a) (flat : ∀ a, flatV (vf a) = true) (hu : X.A.units + 1 < cLine) (ha : DV X M a ds (.dt (as.map fun x => (kf x, df x)))) (hb : DV X M b ds (.dt (bs.map fun x => (kf x, df x)))) :
    CmpD X M .Eq a b ds (sameV (as.map fun x => (kf x, vf x)) (bs.map fun x => (kf x, vf x))) := cmp_mk (op_sameT hu) ha hb (nomark _) fun G H v w Q ok t1 t2 k => by
  cases t1 with
  | dt h1 k1 s1 =>
    cases t2 with
    | dt h2 k2 s2 =>
      have e1 := dts_mapT (only X.K G) k1 s1
      have e2 := dts_mapT (only X.K G) k2 s2
      subst e1 e2
      have fl : ∀ l : List α, ∀ p ∈ l.map (fun x => (kf x, vf x)), flatV p.2 = true := fun l p hp => by
        obtain ⟨x, _, rfl⟩ := List.mem_map.mp hp
        exact flat x
      exact ⟨_, _, _, _, rfl, rfl, same_rd ok.sub h1, same_rd ok.sub h2, fl as, fl bs, k _ _ G H rfl (Gr.refl ok) (.bl _)⟩
theorem c_eqDK {kf : α → Key} {df : α → D} {vf : α → V} (only : ∀ K G a v, Dt K G v (df a) → v = vf a) (flat : ∀ a, flatV (vf a) = true) (hu : X.A.units + 1 < cLine) (ha : DV X M a ds (.dk (as.map fun x => (kf x, df x)))) (hb : DV X M b ds (.dk (bs.map fun x => (kf x, df x)))) :
    CmpD X M .Eq a b ds (sameV (as.map fun x => (kf x, vf x)) (bs.map fun x => (kf x, vf x))) := cmp_mk (op_sameK hu) ha hb (nomark _) fun G H v w Q ok t1 t2 k => by
  cases t1 with
  | dk h1 k1 s1 =>
    cases t2 with
    | dk h2 k2 s2 =>
      have e1 := dts_mapT (only X.K G) k1 s1
      have e2 := dts_mapT (only X.K G) k2 s2
      subst e1 e2
      have fl : ∀ l : List α, ∀ p ∈ l.map (fun x => (kf x, vf x)), flatV p.2 = true := fun l p hp => by
        obtain ⟨x, _, rfl⟩ := List.mem_map.mp hp
        exact flat x
      exact ⟨_, _, _, _, rfl, rfl, same_rd ok.sub h1, same_rd ok.sub h2, fl as, fl bs, k _ _ G H rfl (Gr.refl ok) (.bl _)⟩
end
end DL
namespace BB
open PySem PySem.Spec PyProof.Rows L2 DL SO PySem.W
variable {P : Program} {w : World} {K : PySem.W.Frag} {mg : Str → Option Value} {base : Heap} {CB CT CS : Addr}
structure Feq (K : PySem.W.Frag) (mg : Str → Option Value) (CB CT CS : Addr) : Prop where
  bk : mg "Book" = some (.ref CB)
  tb : mg "Table" = some (.ref CT)
  sc : mg "Scale" = some (.ref CS)
  cb : ClsAt K CB
  ct : ClsAt K CT
  cs : ClsAt K CS
  eb : MtAt K CB "__eq__" "Book.__eq__" (mth 22 18)
  et : MtAt K CT "__eq__" "Table.__eq__" (mth 41 6)
  es : MtAt K CS "__eq__" "Scale.__eq__" (mth 35 14)
/-- answers, worths in order -/
structure AsN (as : List An) : Prop where
  nd : (as.map anP).Nodup
  pw : (as.map anP).Pairwise fun a b => leF dPr a b = true
structure WsN (ws : List Wt) : Prop where
  nd : (ws.map (·.1)).Nodup
  pw : (ws.map (·.1)).Pairwise fun a b => leF D.str a b = true
theorem same_as {as bs : List An} (ha : AsN as) (hb : AsN bs) : sameV (as.map fun a => ((encA a).1, V.bl a.2.2)) (bs.map fun a => ((encA a).1, V.bl a.2.2)) = decide (as = bs) := by
  have nk : ∀ {l : List An}, (l.map anP).Nodup → (l.map fun a => (encA a).1).Nodup := fun {l} h => by
    unfold List.Nodup at h ⊢
    rw [List.pairwise_map] at h ⊢
    exact h.imp fun h e => h (enc_key.mp e)
  refine same_sorted (le := fun a b => leF dPr (anP a) (anP b)) (fun a b => ?_) (fun a b h1 h2 => ?_) (nk ha.nd) (nk hb.nd) (by have := ha.pw; rwa [List.pairwise_map] at this) (by have := hb.pw; rwa [List.pairwise_map] at this) (fun a b h1 h2 => enc_key.mpr (leF_anti inj_pr h1 h2))
  · show (a.2.2 == b.2.2) = true ↔ _
    rw [beq_iff_eq]
    exact ⟨fun e => by rw [e], fun e => V.bl.inj e⟩
  · have e := enc_key.mp h1
    have e2 := V.bl.inj h2
    exact Prod.ext (Prod.ext_iff.mp e).1 (Prod.ext (Prod.ext_iff.mp e).2 e2)
theorem same_ws {as bs : List Wt} (ha : WsN as) (hb : WsN bs) : sameV (as.map fun p => (kS p.1, V.int p.2)) (bs.map fun p => (kS p.1, V.int p.2)) = decide (as = bs) := by
  have nk : ∀ {l : List Wt}, (l.map (·.1)).Nodup → (l.map fun p => kS p.1).Nodup := fun {l} h => by
    have := nd_map (f := kS) (fun _ _ e => Sum.inr.inj e) h
    rwa [List.map_map] at this
  refine same_sorted (le := fun a b => leF D.str a.1 b.1) (fun a b => ?_) (fun a b h1 h2 => Prod.ext (Sum.inr.inj h1) (V.int.inj h2)) (nk ha.nd) (nk hb.nd) (by have := ha.pw; rwa [List.pairwise_map] at this) (by have := hb.pw; rwa [List.pairwise_map] at this) (fun a b h1 h2 => congrArg kS (leF_anti inj_str h1 h2))
  show (a.2 == b.2) = true ↔ _
  rw [beq_iff_eq]
  exact ⟨fun e => by rw [e], fun e => V.int.inj e⟩
theorem eqv_names (xs ys : List Str) : PyData.eqv (py (.tup (dNs xs))) (py (.tup (dNs ys))) = decide (xs = ys) := by
  rw [py, py, PyData.eqv]
  exact eqv_all eqv_str xs ys
theorem eqv_prs (xs ys : List Pr) : PyData.eqv (py (.tup (xs.map dPr))) (py (.tup (ys.map dPr))) = decide (xs = ys) := by
  rw [py, py, PyData.eqv]
  exact eqv_all eqv_pr xs ys
theorem shp_names {xs : List Str} (h : ∀ x ∈ xs, Nm x) : Shp 1 (.tup (dNs xs)) := shp_tup (n := 0) (shp_mapd fun x m => shp_str (cps_le (h x m)))
theorem sc_eqB : FnScope ["self", "other"] ["self", "other"] (defScope (mth 22 18)) := ⟨rfl, rfl, rfl, by decide +kernel, rfl, by decide +kernel, by decide +kernel⟩
theorem mt_eqB (T : Fk K mg) (B : Fb K CB) (Q : Feq K mg CB CT CS) (xs ys : List Str) (as bs : List An) (hx : ∀ x ∈ xs, Nm x) (hy : ∀ x ∈ ys, Nm x) (ha : AsN as) (hb : AsN bs) : MtT P w K mg base CB "__eq__" 1 (fun M l => l = [dBook CB xs as, dBook CB ys bs]) (fun _ => Is (.bl (decide (xs = ys) && decide (as = bs)))) := by
  refine mt_def Q.eb sc_eqB (fun _ _ _ _ _ _ us hl => match us, hl with | [_, _], _ => rfl) (fun M l e => by rw [e]; rfl) fun f cdv A outer s H E M l hr e => ?_
  subst e
  refine dps_cons (dp_if (p := false) (DT.to (dt_not (p := true) (dt_v (d_isiO (fs := bookF ys bs) Q.cb (dv 1) T.b.isi Q.bk))) rfl) (fun h => nomatch h) fun _ => dps_nil rfl) (dps_one (dp_ret (DV.to (d_and2 (p := decide (xs = ys)) (q := decide (as = bs)) ?_ fun _ => ?_) rfl)))
  · exact ((c_eqD (n := 1) (hu64 hr) (d_fld (dv (d := dBook CB xs as) 0) B.cls B.f1 rfl) (d_fld (dv (d := dBook CB ys bs) 1) B.cls B.f1 rfl) (shp_names hx) (shp_names hy) (by decide) (eqv_names xs ys))).v
  · exact ((c_eqDT (kf := fun a : An => (encA a).1) (df := fun a => .bl a.2.2) (vf := fun a => V.bl a.2.2) (fun _ _ a v t => by cases t; rfl) (fun _ => rfl) (hu1 hr) (d_fld (dv (d := dBook CB xs as) 0) B.cls B.f2 rfl) (d_fld (dv (d := dBook CB ys bs) 1) B.cls B.f2 rfl)).to (same_as ha hb)).v
theorem sc_eqT : FnScope ["self", "other"] ["self", "other"] (defScope (mth 41 6)) := ⟨rfl, rfl, rfl, by decide +kernel, rfl, by decide +kernel, by decide +kernel⟩
theorem mt_eqT (T : Fk K mg) (B : Ft K CT) (Q : Feq K mg CB CT CS) (xs ys : List Str) (as bs : List Pr) (hx : ∀ x ∈ xs, Nm x) (hy : ∀ x ∈ ys, Nm x) (ha : ∀ p ∈ as, PrOk p) (hb : ∀ p ∈ bs, PrOk p) : MtT P w K mg base CT "__eq__" 1 (fun M l => l = [dTable CT xs as, dTable CT ys bs]) (fun _ => Is (.bl (decide (xs = ys) && decide (as = bs)))) := by
  refine mt_def Q.et sc_eqT (fun _ _ _ _ _ _ us hl => match us, hl with | [_, _], _ => rfl) (fun M l e => by rw [e]; rfl) fun f cdv A outer s H E M l hr e => ?_
  subst e
  refine dps_cons (dp_if (p := false) (DT.to (dt_not (p := true) (dt_v (d_isiO (fs := tableF ys bs) Q.ct (dv 1) T.b.isi Q.tb))) rfl) (fun h => nomatch h) fun _ => dps_nil rfl) (dps_one (dp_ret (DV.to (d_and2 (p := decide (xs = ys)) (q := decide (as = bs)) ?_ fun _ => ?_) rfl)))
  · exact ((c_eqD (n := 1) (hu64 hr) (d_fld (dv (d := dTable CT xs as) 0) B.cls B.f1 rfl) (d_fld (dv (d := dTable CT ys bs) 1) B.cls B.f1 rfl) (shp_names hx) (shp_names hy) (by decide) (eqv_names xs ys))).v
  · exact ((c_eqD (n := 2) (hu64 hr) (d_fld (dv (d := dTable CT xs as) 0) B.cls B.f2 rfl) (d_fld (dv (d := dTable CT ys bs) 1) B.cls B.f2 rfl) (shp_tup (shp_mapd fun p m => shp_prOk (ha p m))) (shp_tup (shp_mapd fun p m => shp_prOk (hb p m))) (by decide) (eqv_prs as bs))).v
theorem sc_eqS : FnScope ["self", "other"] ["self", "other"] (defScope (mth 35 14)) := ⟨rfl, rfl, rfl, by decide +kernel, rfl, by decide +kernel, by decide +kernel⟩
theorem mt_eqS (T : Fk K mg) (B : Fs K CS) (Q : Feq K mg CB CT CS) (as bs : List Wt) (st su : Int) (ha : WsN as) (hb : WsN bs) : MtT P w K mg base CS "__eq__" 1 (fun M l => l = [dScale CS as st, dScale CS bs su]) (fun _ => Is (.bl (decide (as = bs) && decide (st = su)))) := by
  refine mt_def Q.es sc_eqS (fun _ _ _ _ _ _ us hl => match us, hl with | [_, _], _ => rfl) (fun M l e => by rw [e]; rfl) fun f cdv A outer s H E M l hr e => ?_
  subst e
  refine dps_cons (dp_if (p := false) (DT.to (dt_not (p := true) (dt_v (d_isiO (fs := scaleF bs su) Q.cs (dv 1) T.b.isi Q.sc))) rfl) (fun h => nomatch h) fun _ => dps_nil rfl) (dps_one (dp_ret (DV.to (d_and2 (p := decide (as = bs)) (q := decide (st = su)) ?_ fun _ => ?_) rfl)))
  · exact ((c_eqDK (kf := fun p : Wt => kS p.1) (df := fun p => .int p.2) (vf := fun p => V.int p.2) (fun _ _ a v t => by cases t; rfl) (fun _ => rfl) (hu1 hr) (d_fld (dv (d := dScale CS as st) 0) B.cls B.f1 rfl) (d_fld (dv (d := dScale CS bs su) 1) B.cls B.f1 rfl)).to (same_ws ha hb)).v
  · exact (c_eqI (d_fld (dv (d := dScale CS as st) 0) B.cls B.f2 rfl) (d_fld (dv (d := dScale CS bs su) 1) B.cls B.f2 rfl)).v
end BB
set_option maxHeartbeats 1000000
namespace DL
open PySem PySem.Spec PyProof.Rows L2 SO
/-! ### a lambda handed to a def that calls it and returns what comes -/
section
variable {M : Mu} {G H H1 : Hp}
theorem Gr.lam (ok : Ok M G H) (ne : M.tab ≠ []) (eN : LamX.ExtN H H1) (t : LamX.Tabs M.tab H1) : Gr M G H G H1 :=
  ⟨Same.refl G, ⟨fun a o e => eN a o (ok.sub a o e) fun ps z => ok.ntb a ps (z ▸ e), fun b hb => let ⟨g, B⟩ := ok.bag b hb; ⟨g, B.ext fun a xs e => eN a _ e fun ps z => by cases z⟩, t, ok.ntb⟩, fun a o e _ h => eN a o e (h ne), fun a h => .inl h⟩
end
def TMade : (XK → Hp → VK → Prop) → Hp → VK → Prop := fun tl H Q => tl (fun _ _ _ => False) H Q
section
variable {X : Cx}
theorem made_gives {Ng : List Str} {x a e q : Str} {sg : Scope} {g CE : Addr} {cdg : Value} {b0 : Stmt} {suite : List Stmt} {p1 p2 p3 p4 p7 p8 : Pos} (hge : sg.names.lookup e = some .globalImplicit) (hme : X.mg e = some (.ref CE)) (hde : (e == ("__debug__" : Str)) = false) (h0 : ∀ f : Addr, (L2.start Ng [V.ref f])[0]? = some (some (V.ref f))) :
    LamX.GivesTo X Ng x sg g cdg [.Try [.Return (some (.Call (.Name a p1) [] [] p2)) p3] [.ExceptHandler (some (.Name e p4)) none (b0 :: suite) p7] [] [] p8] a q TMade := by
  intro f c' s H Q tl act hc h
  have hgl : Gl (cxOf C8.CX0 X.prog X.w X.K X.mg X.base Ng x sg g cdg X.A X.stack s H C8.E0).nox e := hge
  refine ⟨_, pss_one (ps_try_only (X := (cxOf C8.CX0 X.prog X.w X.K X.mg X.base Ng x sg g cdg X.A X.stack s H C8.E0).nox) (c := .ref CE) (ts := fun _ _ _ => tNever)
      (tb := fun W D σ H => σ[0]? = some (some (.ref f)) ∧ H c' = some (LamX.CodeO c' q) ∧ tl (fun _ _ _ => False) H D.rt)
      rfl rfl ⟨hgl, hde, .inl hme⟩ LamX.takes0 (fun W pn xe tk _ => ?_) (fun _ _ _ _ _ _ _ => pss_never)), ?_⟩
  · refine ⟨fun pins s' σ H' D I h' => ?_⟩
    obtain ⟨h1, h2, h3⟩ := h'
    have hq := pss_one (ps_ret (pos := p3) (act W pn xe (fun _ _ _ => False) p1 p2 tk fun _ _ _ _ z => False.elim z))
    exact hq.run pins s' σ H' D I ⟨h1, h2, h3⟩
  · exact ⟨h0 f, hc, h⟩
end
/-- where a def stands that makes a lambda: its code object, the table of it -/
structure LamAt (K : PySem.W.Frag) (base : Heap) (mg : Str → Option Value) (x : Str) (st : Stmt) (c P : Addr) : Prop where
  ex : ∃ (f : Addr) (oc : Value) (od : Option Addr) (kV doc pm : Value) (an : Option Addr) (ct : Value) (osl : Array (Option Value)),
    K.lookup f = some ⟨oc, od, .func (PySem.W.fnOf x x (defArgs st) (defBody st) (defScope st) .none kV doc pm an (.ref c) ct), osl⟩ ∧ PySem.W.codeIn K (.ref c) x = true ∧ PySem.W.keepIn K (.ref f) = true ∧ mg x = some (.ref f)
  tab : LamX.TabB base mg c P
section
variable {P : Program} {w : World} {K : PySem.W.Frag} {mg : Str → Option Value} {base : Heap} {k : Nat} {N ps : List Str} {x : Str} {Pre : Mu → List D → Prop} {Rt : List D → D → Prop} {st : Stmt} {c T : Addr}
theorem fn_defL (F : LamAt K base mg x st c T) (S : FnScope N ps (defScope st)) (hbd : ∀ (kV doc pm : Value) (an : Option Addr) (cdv ct : Value) (us : List Value), us.length = ps.length → bindArgs (PySem.W.fnOf x x (defArgs st) (defBody st) (defScope st) .none kV doc pm an cdv ct) ⟨us, []⟩ = pure (ps.zip us))
    (hl : ∀ M l, Pre M l → l.length = ps.length)
    (hb : ∀ (f : Addr) (A : Around) (outer : List Env) (s : Shared) (H : Hp) (E : XK) (M : Mu) (l : List D), Room k (A.deeper (envOfC x (defScope st) s.heap.objs.size f (.ref c))) → Pre M l →
      DPs (cxOf CX0 P w K mg base N x (defScope st) f (.ref c) A outer s H E).nox M (defBody st) (slots N l) (fun _ => Rt l .non) (Rt l)) : FnT P w K mg base x (k + 1) Pre Rt := by
  obtain ⟨f, oc, od, kV, doc, pm, an, ct, osl, lk, cd, kp, hm⟩ := F.ex
  have FD : FunD K x x (defArgs st) (defBody st) (defScope st) [] [] f (PySem.W.fnOf x x (defArgs st) (defBody st) (defScope st) .none kV doc pm an (.ref c) ct) := ⟨⟨oc, od, .none, kV, doc, pm, an, .ref c, ct, osl, rfl, lk, cd, .inl ⟨rfl, rfl⟩, .inl rfl⟩, kp⟩
  refine ⟨f, _, ps, ?_, hm, kp, FD.bindsN hbd⟩
  refine fn_of lk cd S (fun vs H Q E ⟨M, G, l, ok, t, p, _⟩ => t.length.trans (hl M l p)) fun A outer s H vs Q E hr ⟨M, G, l, ok, t, p, q⟩ => ?_
  exact ⟨_, PSs.nox (hb f A outer s H E M l hr p), G, Sl.start t, ok, fun ds' σ' G' H' h1 _ g => q .non .non G' H' h1 g .non, q⟩
end
section
variable {X : Cx} {M : Mu} {ds : DS} {x a e : Str} {st b0 : Stmt} {suite : List Stmt} {p1 p2 p3 p4 p7 p8 p lpos pos : Pos} {c P CE : Addr} {k : Nat} {Ng : List Str} {params : Arguments} {body : Expr} {scope : Scope} {d : D}
theorem d_lamcall (F : FnAt X.K X.mg x st) (hbody0 : defBody st = [.Try [.Return (some (.Call (.Name a p1) [] [] p2)) p3] [.ExceptHandler (some (.Name e p4)) none (b0 :: suite) p7] [] [] p8]) (Sg : FnScope Ng [a] (defScope st))
    (hbd : ∀ (kV doc pm : Value) (an : Option Addr) (cdv ct : Value) (us : List Value), us.length = [a].length → bindArgs (PySem.W.fnOf x x (defArgs st) (defBody st) (defScope st) .none kV doc pm an cdv ct) ⟨us, []⟩ = pure ([a].zip us))
    (hge : (defScope st).names.lookup e = some .globalImplicit) (hme : X.mg e = some (.ref CE)) (hNg : Ng[0]? = some a) (hva : Vis (defScope st) a) (h0 : ∀ f : Addr, (L2.start Ng [V.ref f])[0]? = some (some (V.ref f)))
    (TB : LamX.TabB X.base X.mg c P) (hcode : X.env.code = .ref c) (hmT : (P, X.env.qual ++ "<lambda>") ∈ M.tab) (hu : ∀ p ∈ M.tab, p.1 = P → p.2 = X.env.qual ++ "<lambda>") (hr : Room (k + 2) X.A) (L : LamX.LamS X.env.scope scope) (hdef : defaultsOf params X.env = ([], []))
    (hbind : ∀ (q : Str) (cl : List (Str × Addr)) (pm cv ctv : Value), bindArgs (PySem.W.kla_fn "<lambda>" q params body scope cl pm cv ctv) ⟨[], []⟩ = pure [])
    (hb : ∀ (A : Around) (outer : List Env) (s : Shared) (H : Hp) (E : XK) (f c' : Addr), Room k (A.deeper (LamX.lamEnv X scope s.heap.objs.size f c')) → DV (LamX.lamCx X A outer s H E scope f c') M body ds d)
    (hg : Gl X x := by rfl) (hde : (e == ("__debug__" : Str)) = false := by decide) (hdb : (x == ("__debug__" : Str)) = false := by decide) (hd : (a == ("__debug__" : Str)) = false := by decide) (hcd : (a == ("__classdict__" : Str)) = false := by decide) :
    DV X M (.Call (.Name x p) [.Lambda params body scope lpos] [] pos) ds d := by
  obtain ⟨g, fd, FD, hm⟩ := F.ex
  have bi := FD.bindsN (ps := [a]) hbd
  have kp := FD.kp
  obtain ⟨oc, od, dV, kV, doc, pm, an, cdv, ct, osl, rfl, lk, hcg, hD, _⟩ := FD.ex
  have ne : M.tab ≠ [] := fun z => by rw [z] at hmT; cases hmT
  have G := made_gives (X := X) (Ng := Ng) (x := x) (a := a) (e := e) (q := X.env.qual ++ "<lambda>") (sg := defScope st) (g := g) (cdg := cdv) (CE := CE) (b0 := b0) (suite := suite) (p1 := p1) (p2 := p2) (p3 := p3) (p4 := p4) (p7 := p7) (p8 := p8) hge hme hde h0
  rw [← hbody0] at G
  exact PE.imp (LamX.pe_lamcall (T := M.tab) (TT := TMade) (t := fun _ => tD M X.K ds (Is d)) (k := k) hg hm kp lk hcg bi Sg hNg hva G TB hcode hmT hu hr L hdef hbind (fun A outer s H E f c' h => hb A outer s H E f c' h) hdb hd hcd) fun σ H Q ⟨G, s, ok, q⟩ => ⟨ok.tab, fun H1 eN t1 => by
    have gl := Gr.lam ok ne eN t1
    exact ⟨G, s, gl.ok, fun d v G' H' r g t => q d v G' H' r (gl.trans ok g) t⟩⟩
end
end DL
set_option maxHeartbeats 1000000
namespace BB
open PySem PySem.Spec PyProof.Rows L2 DL SO PySem.W TL
variable {P : Program} {w : World} {K : PySem.W.Frag} {mg : Str → Option Value} {base : Heap} {CB CT CS : Addr}
/-- the lambda's table is known -/
structure TabIn (M : Mu) (T : Addr) (q : Str) : Prop where
  inn : (T, q) ∈ M.tab
  uni : ∀ p ∈ M.tab, p.1 = T → p.2 = q
/-- the facts of need_made, of the defs that call it -/
structure Fmd (K : PySem.W.Frag) (base : Heap) (mg : Str → Option Value) (CE cb tb ct tt cs ts : Addr) : Prop where
  made : FnAt K mg "need_made" (top 50)
  err : mg "BarelyError" = some (.ref CE)
  book : LamAt K base mg "read_book" (top 53) cb tb
  table : LamAt K base mg "read_table" (top 54) ct tt
  scale : LamAt K base mg "read_scale" (top 55) cs ts
theorem sc_made : FnScope ["act"] ["act"] (defScope (top 50)) := ⟨rfl, rfl, rfl, by decide +kernel, rfl, by decide +kernel, by decide +kernel⟩
theorem d_callM {X : Cx} {M : Mu} {ds : DS} {e : Expr} {es : List Expr} {x : Str} {k : Nat} {p pos : Pos} {Pre : Mu → List D → Prop} {Rt : List D → D → Prop} {l : List D} {d : D} (F : FnT X.prog X.w X.K X.mg X.base x k Pre Rt) (hr : Room k X.A) (ha : DVs X M (e :: es) ds l) (h : Pre M l) (h2 : ∀ y, Rt l y → y = d) (hg : Gl X x := by rfl) (hdb : (x == ("__debug__" : Str)) = false := by decide)
    (he : starEach (e :: es) X.env = (false, eval e X.env) :: starEach es X.env := by rfl) (hpl : (backTo pos (starEach es X.env)).any (·.1) = false := by rfl) : DV X M (.Call (.Name x p) (e :: es) [] pos) ds d :=
  dx_call F hr (Le.rfl') ha (fun m hm => by rw [show m = l from hm]; exact ⟨h, h2⟩) hg hdb he hpl
theorem lines_len {ls : List Str} (hm : ∀ l ∈ ls, l.length ≤ 10000) (hl : ls.length ≤ 1001) : (linesText ls).length + 2 ≤ sizeLine := by
  unfold linesText
  have h1 := join_len (y := ("" : Str)) (parts := ls.map fun l => l ++ ("\n" : Str)) (m := 10001) fun p hp => by
    obtain ⟨a, h1, rfl⟩ := List.mem_map.mp hp
    rw [len_app]
    exact Nat.add_le_add_right (hm a h1) 1
  rw [List.length_map] at h1
  have h2 : ls.length * (10001 + ("" : Str).length) ≤ 1001 * 10001 := Nat.mul_le_mul hl (by decide)
  exact Nat.le_trans (Nat.add_le_add_right (Nat.le_trans h1 h2) 2) (by rw [sizeLine_eq]; decide)
theorem sc_readBook : FnScope ["text", "lines", "things", "answers", "book", "line"] ["text"] (defScope (top 53)) := ⟨rfl, rfl, rfl, by decide +kernel, rfl, by decide +kernel, by decide +kernel⟩
/-- a book as it is kept -/
structure BkN (xs : List Str) (as : List An) : Prop where
  ok : BkOk xs as
  xs : xs.Pairwise fun a b => leF D.str a b = true
  as : AsN as
theorem ans_lines {as : List An} (ha : ∀ a ∈ as, AnOk a) : ∀ l ∈ as.map ansText, l.length ≤ 10000 := fun l h => by
  obtain ⟨a, h1, rfl⟩ := List.mem_map.mp h
  exact Nat.le_trans (ans_len (ha a h1)) (by decide)
theorem fn_readBook (T : Fk K mg) (W : Fw K mg) (Dr : Fr K w mg) (S : Fsh K mg) (B : Fb K CB) {e0 CE cb tb ct tt cs ts : Addr} (Q : Fbk K mg CB e0) (R : Fmd K base mg CE cb tb ct tt cs ts) (xs : List Str) (as : List An) (n : BkN xs as) :
    FnT P w K mg base "read_book" 11 (fun M l => TabIn M tb "read_book.<locals>.<lambda>" ∧ l = [.str (bookText xs as)]) (fun _ => Is (dBook CB xs as)) := by
  refine fn_defL R.book sc_readBook (fun _ _ _ _ _ _ us hl => match us, hl with | [_], _ => rfl) (fun M l ⟨_, e⟩ => by rw [e]; rfl) fun f A outer s H E M l hr ⟨tn, e⟩ => ?_
  subst e
  have hr1 : Room 1 _ := hr.mono (by decide)
  have hr2 : Room 2 _ := hr.mono (by decide)
  have hr3 : Room 3 _ := hr.mono (by decide)
  have hr6 : Room 6 _ := hr.mono (by decide)
  have few := n.ok.few
  have hl1 : (thingsLine xs :: as.map ansText).length ≤ 1001 := by rw [List.length_cons, List.length_map]; omega
  have free : ∀ l ∈ thingsLine xs :: as.map ansText, 10 ∉ tl l := fun l h => by
    rcases List.mem_cons.mp h with rfl | h
    · exact things_free n.ok.nms (by decide) (by decide)
    · obtain ⟨a, h1, rfl⟩ := List.mem_map.mp h
      exact ans_free (n.ok.ans a h1) (by decide) (by decide)
  refine dps_cons (dp_set (d := .lst (dNs (thingsLine xs :: as.map ansText))) 1 sc_readBook.nd (d_call (fn_linesOf T Dr (thingsLine xs :: as.map ansText) (by simp) free (lines_len (lines_fit n.ok.nms (ans_lines n.ok.ans)) hl1)) hr2 (da_1 (dv 0)) rfl fun z hz => hz))
    (dps_cons (dp_tup2 (i := 2) (j := 3) (d1 := .lst (dNs xs)) (d2 := .lst (as.map dAn)) rfl sc_readBook.nd (d_tup (da_cons (d_call (fn_thingsIn T Dr xs n.ok.nms) hr2 (da_1 (d_ixL (dv 1) d_int (atI_nat (j := 0) rfl))) rfl fun z hz => hz) (da_1 ?_)) (by simp)) rfl rfl (.inr rfl) (.inr rfl))
    (dps_cons (dp_set (d := dBook CB xs as) 4 sc_readBook.nd ?_) (dps_cons (dp_need Dr hr1 (DV.to ((c_eqS (d_call (fn_showBook T W B S xs as n.ok.nms n.ok.ans n.ok.few) hr3 (da_1 (dv 4)) rfl fun z hz => hz) (dv 0)).v) (by simp))) (dps_one (dp_ret (dv 4))))))
  · refine d_lc (F := fun a => .str (ansText a)) (f := dAn) (xs := as) (own := [("line", 5)]) (is := [5]) (u := fun d ds => ds.set 5 (some d)) rfl sc_readBook.nd (.inl (di_lstV (DV.to (d_slL (dv 1) (do_some d_int) do_none) ?_))) (blkOk_by (by rfl)) (fun _ _ _ _ _ => pg_name (i := 5) sc_readBook.nd rfl (Or.inl rfl)) (fun _ _ => tg1) (by decide)
      (fun _ _ _ _ _ y hy => d_call (fn_readAnswer T Dr y (n.ok.ans y hy)) hr6 (da_1 (dv 5)) rfl fun z hz => hz) (Nat.le_trans few (by decide))
    refine (congrArg D.lst (cut_from (dNs (thingsLine xs :: as.map ansText)) 1)).trans ?_
    rw [dNs, List.map_cons, List.drop_one, List.tail_cons, List.map_map]
    rfl
  · refine d_lamcall (k := 8) R.made rfl sc_made (fun _ _ _ _ _ _ us hl => match us, hl with | [_], _ => rfl) rfl R.err rfl (.inl rfl) (fun _ => rfl) R.book.tab rfl tn.inn tn.uni hr (show LamX.LamS (defScope (top 53)) _ from LamX.lamS_by (by decide +kernel)) rfl (fun _ _ _ _ _ => rfl) fun A outer s H E f c' hr8 => ?_
    refine DV.to (d_make (mk_book T B Q xs as n.ok (.inl rfl) (.inl rfl)) hr8 (da_cons (dv 2) (da_1 (dv 3))) rfl) ?_
    show D.ob CB (bookF (srtF D.str xs) (normA as)) = dBook CB xs as
    rw [srt_id n.xs, norm_id n.as.nd n.as.pw]
    rfl
end BB
set_option maxHeartbeats 1000000
namespace BB
open PySem PySem.Spec PyProof.Rows L2 DL SO PySem.W TL
variable {P : Program} {w : World} {K : PySem.W.Frag} {mg : Str → Option Value} {base : Heap} {CB CT CS : Addr}
/-- a table as it is kept -/
structure TbN (xs : List Str) (ps : List Pr) : Prop where
  ok : TbOk xs ps
  xs : xs.Pairwise fun a b => leF D.str a b = true
  ps : ps.Pairwise fun a b => leF dPr a b = true
theorem sc_readTable : FnScope ["text", "lines", "things", "answers", "table", "line", "answer"] ["text"] (defScope (top 54)) := ⟨rfl, rfl, rfl, by decide +kernel, rfl, by decide +kernel, by decide +kernel⟩
theorem fn_readTable (T : Fk K mg) (W : Fw K mg) (Dr : Fr K w mg) (S : Fsh K mg) (B : Ft K CT) {CE cb tb ct tt cs ts : Addr} (Q : Ftb K mg CT) (R : Fmd K base mg CE cb tb ct tt cs ts) (xs : List Str) (ps : List Pr) (n : TbN xs ps) :
    FnT P w K mg base "read_table" 11 (fun M l => TabIn M tt "read_table.<locals>.<lambda>" ∧ l = [.str (tableText xs ps)]) (fun _ => Is (dTable CT xs ps)) := by
  refine fn_defL R.table sc_readTable (fun _ _ _ _ _ _ us hl => match us, hl with | [_], _ => rfl) (fun M l ⟨_, e⟩ => by rw [e]; rfl) fun f A outer s H E M l hr ⟨tn, e⟩ => ?_
  subst e
  have hr1 : Room 1 _ := hr.mono (by decide)
  have hr2 : Room 2 _ := hr.mono (by decide)
  have hr3 : Room 3 _ := hr.mono (by decide)
  have hr6 : Room 6 _ := hr.mono (by decide)
  have few : ps.length ≤ 1000 := by have := n.ok.few; omega
  have oks : ∀ a ∈ ps.map prAn, AnOk a := fun a h => by
    obtain ⟨p, hp, rfl⟩ := List.mem_map.mp h
    exact n.ok.prs p hp
  have et : (ps.map fun p => ansText (prAn p)) = (ps.map prAn).map ansText := by rw [List.map_map]; rfl
  have etx : tableText xs ps = linesText (thingsLine xs :: (ps.map prAn).map ansText) := by unfold tableText; rw [et]
  have hl1 : (thingsLine xs :: (ps.map prAn).map ansText).length ≤ 1001 := by rw [List.length_cons, List.length_map, List.length_map]; omega
  have free : ∀ l ∈ thingsLine xs :: (ps.map prAn).map ansText, 10 ∉ tl l := fun l h => by
    rcases List.mem_cons.mp h with rfl | h
    · exact things_free n.ok.nms (by decide) (by decide)
    · obtain ⟨a, h1, rfl⟩ := List.mem_map.mp h
      exact ans_free (oks a h1) (by decide) (by decide)
  refine dps_cons (dp_set (d := .lst (dNs (thingsLine xs :: (ps.map prAn).map ansText))) 1 sc_readTable.nd (d_call (fn_linesOf T Dr (thingsLine xs :: (ps.map prAn).map ansText) (by simp) free (lines_len (lines_fit n.ok.nms (ans_lines oks)) hl1)) hr2 (da_1 (dv 0)) (by rw [etx]) fun z hz => hz))
    (dps_cons (dp_tup2 (i := 2) (j := 3) (d1 := .lst (dNs xs)) (d2 := .lst ((ps.map prAn).map dAn)) rfl sc_readTable.nd (d_tup (da_cons (d_call (fn_thingsIn T Dr xs n.ok.nms) hr2 (da_1 (d_ixL (dv 1) d_int (atI_nat (j := 0) rfl))) rfl fun z hz => hz) (da_1 ?_)) (by simp)) rfl rfl (.inr rfl) (.inr rfl))
    (dps_cons (dp_set (d := dTable CT xs ps) 4 sc_readTable.nd ?_) (dps_cons (dp_need Dr hr1 (DV.to ((c_eqS (d_call (fn_showTable T W B S xs ps n.ok.nms n.ok.prs few) hr3 (da_1 (dv 4)) rfl fun z hz => hz) (dv 0)).v) (by simp))) (dps_one (dp_ret (dv 4))))))
  · refine d_lc (F := fun a => .str (ansText a)) (f := dAn) (xs := ps.map prAn) (own := [("line", 5)]) (is := [5]) (u := fun d ds => ds.set 5 (some d)) rfl sc_readTable.nd (.inl (di_lstV (DV.to (d_slL (dv 1) (do_some d_int) do_none) ?_))) (blkOk_by (by rfl)) (fun _ _ _ _ _ => pg_name (i := 5) sc_readTable.nd rfl (Or.inl rfl)) (fun _ _ => tg1) (by decide)
      (fun _ _ _ _ _ y hy => d_call (fn_readAnswer T Dr y (oks y hy)) hr6 (da_1 (dv 5)) rfl fun z hz => hz) (by rw [List.length_map]; exact Nat.le_trans few (by decide))
    refine (congrArg D.lst (cut_from (dNs (thingsLine xs :: (ps.map prAn).map ansText)) 1)).trans ?_
    rw [dNs, List.map_cons, List.drop_one, List.tail_cons, List.map_map]
    rfl
  · refine d_lamcall (k := 8) R.made rfl sc_made (fun _ _ _ _ _ _ us hl => match us, hl with | [_], _ => rfl) rfl R.err rfl (.inl rfl) (fun _ => rfl) R.table.tab rfl tn.inn tn.uni hr (show LamX.LamS (defScope (top 54)) _ from LamX.lamS_by (by decide +kernel)) rfl (fun _ _ _ _ _ => rfl) fun A outer s H E f c' hr8 => ?_
    refine DV.to (d_make (mk_table T B Q xs ps n.ok) hr8 (da_cons (dv 2) (da_1 ?_)) rfl) ?_
    · exact d_lc (F := fun p => dAn (prAn p)) (f := dPr) (xs := ps) (own := [("answer", 6)]) (is := [6]) (u := fun d ds => ds.set 6 (some d)) rfl sc_readTable.nd (.inl (di_lstV (DV.to (dv (d := .lst ((ps.map prAn).map dAn)) 3) (by rw [List.map_map]; rfl)))) (blkOk_by (by rfl)) (fun _ _ _ _ _ => pg_name (i := 6) sc_readTable.nd rfl (Or.inl rfl)) (fun _ _ => tg1) (by decide)
        (fun _ _ _ _ _ y hy => DV.to (d_slT (dv (d := dAn (prAn y)) 6) do_none (do_some d_int)) (congrArg D.tup (cut2 _ _ _))) (Nat.le_trans few (by decide))
    · show D.ob CT (tableF (srtF D.str xs) (srtF dPr ps)) = dTable CT xs ps
      rw [srt_id n.xs, srt_id n.ps]
      rfl
/-! ### scales -/
structure ScN (ws : List Wt) (st : Int) : Prop where
  wt : ∀ p ∈ ws, WtOk p
  wn : WsN ws
  few : ws.length ≤ 1000
  pos : 1 ≤ st
  small : st.natAbs < 10 ^ 40
theorem worth_at : ∀ {ws : List Wt}, (ws.map (·.1)).Nodup → ∀ p ∈ ws, worthOf ws p.1 = p.2
  | [], _, p, h => by cases h
  | q :: ws, nd, p, h => by
    rw [List.map_cons, List.nodup_cons] at nd
    by_cases e : q.1 = p.1
    · rcases List.mem_cons.mp h with rfl | h
      · simp [worthOf]
      · exact absurd (List.mem_map.mpr ⟨p, h, e.symm⟩) nd.1
    · have ih := worth_at nd.2 p ((List.mem_cons.mp h).resolve_left fun z => e (by rw [z]))
      unfold worthOf at ih ⊢
      rw [List.find?_cons, decide_eq_false e]
      exact ih
theorem srtW_id {ws : List Wt} (h : WsN ws) : srtW ws = ws := by
  unfold srtW
  rw [srt_id h.pw, List.map_map]
  exact (List.map_congr_left fun p hp => by show (p.1, worthOf ws p.1) = p; rw [worth_at h.nd p hp]).trans (List.map_id _)
theorem join_two (a b : Str) : Txt.join " " [a, b] = a ++ (" " : Str) ++ b := by
  refine ext_tl ?_
  rw [TL.join_eq, TL.tl_join, tl_append, tl_append]
  show tl a ++ (tl " " ++ tl b) = (tl a ++ tl " ") ++ tl b
  rw [List.append_assoc]
theorem step_two (i : Int) : ("step " : Str) ++ num i = Txt.join " " [("step" : Str), num i] := by
  rw [join_two]
  have e : ("step " : Str) = ("step" : Str) ++ (" " : Str) := by decide
  rw [e]
theorem num_32 (i : Int) : 32 ∉ tl (num i) := num_free (.inl (by decide)) (by decide)
theorem row_step (i : Int) : Txt.split (("step " : Str) ++ num i) " " = [("step" : Str), num i] := by
  rw [step_two]
  refine words_read (by simp) fun l hl => ?_
  rcases List.mem_cons.mp hl with rfl | hl
  · decide
  · rw [List.mem_singleton.mp hl]; exact num_32 i
theorem row_worth {p : Wt} (h : WtOk p) : Txt.split (worthLine p) " " = [p.1, num p.2] := by
  unfold worthLine
  rw [← join_two]
  refine words_read (by simp) fun l hl => ?_
  rcases List.mem_cons.mp hl with rfl | hl
  · exact h.nm.free (by decide)
  · rw [List.mem_singleton.mp hl]; exact num_32 _
theorem worth_free {p : Wt} (h : WtOk p) : 10 ∉ tl (worthLine p) := by
  unfold worthLine
  rw [← join_two]
  refine join_free (by decide) fun l hl => ?_
  rcases List.mem_cons.mp hl with rfl | hl
  · exact h.nm.free (by decide)
  · rw [List.mem_singleton.mp hl]; exact num_free (.inl (by decide)) (by decide)
theorem step_free (i : Int) : 10 ∉ tl (("step " : Str) ++ num i) := by
  rw [step_two]
  refine join_free (by decide) fun l hl => ?_
  rcases List.mem_cons.mp hl with rfl | hl
  · decide
  · rw [List.mem_singleton.mp hl]; exact num_free (.inl (by decide)) (by decide)
abbrev dRow (p : Str × Str) : D := .lst [.str p.1, .str p.2]
def rowsOf (ws : List Wt) (st : Int) : List (Str × Str) := (("step" : Str), num st) :: ws.map fun p => (p.1, num p.2)
theorem sc_readScale : FnScope ["text", "rows", "worths", "step", "scale", "line", "row"] ["text"] (defScope (top 55)) := ⟨rfl, rfl, rfl, by decide +kernel, rfl, by decide +kernel, by decide +kernel⟩
theorem fn_readScale (T : Fk K mg) (W : Fw K mg) (Dr : Fr K w mg) (S : Fsh K mg) (B : Fs K CS) (B2 : Fs2 K CS) {CE cb tb ct tt cs ts : Addr} (Q : Fsc K mg CS) (R : Fmd K base mg CE cb tb ct tt cs ts) (ws : List Wt) (st : Int) (n : ScN ws st) :
    FnT P w K mg base "read_scale" 11 (fun M l => TabIn M ts "read_scale.<locals>.<lambda>" ∧ l = [.str (scaleText ws st)]) (fun _ => Is (dScale CS ws st)) := by
  refine fn_defL R.scale sc_readScale (fun _ _ _ _ _ _ us hl => match us, hl with | [_], _ => rfl) (fun M l ⟨_, e⟩ => by rw [e]; rfl) fun f A outer s H E M l hr ⟨tn, e⟩ => ?_
  subst e
  have hr1 : Room 1 _ := hr.mono (by decide)
  have hr2 : Room 2 _ := hr.mono (by decide)
  have hr4 : Room 4 _ := hr.mono (by decide)
  have few := n.few
  have hz : ws.length ≤ sizeLine := Nat.le_trans few (by decide)
  have long : ∀ l ∈ (("step " : Str) ++ num st) :: ws.map worthLine, l.length ≤ 10000 := fun l h => by
    rcases List.mem_cons.mp h with rfl | h
    · rw [len_app]
      have := num_len n.small
      have h3 : ("step " : Str).length = 5 := by decide
      omega
    · obtain ⟨p, hp, rfl⟩ := List.mem_map.mp h
      exact Nat.le_trans (worth_len (n.wt p hp)) (by decide)
  have free : ∀ l ∈ (("step " : Str) ++ num st) :: ws.map worthLine, 10 ∉ tl l := fun l h => by
    rcases List.mem_cons.mp h with rfl | h
    · exact step_free st
    · obtain ⟨p, hp, rfl⟩ := List.mem_map.mp h
      exact worth_free (n.wt p hp)
  have hl1 : ((("step " : Str) ++ num st) :: ws.map worthLine).length ≤ 1001 := by rw [List.length_cons, List.length_map]; omega
  have erows : ((("step " : Str) ++ num st) :: ws.map worthLine).map (fun l => D.lst ((Txt.split l " ").map .str)) = (rowsOf ws st).map dRow := by
    unfold rowsOf
    rw [List.map_cons, List.map_cons, List.map_map, List.map_map, row_step]
    congr 1
    exact List.map_congr_left fun p hp => by show D.lst ((Txt.split (worthLine p) " ").map .str) = _; rw [row_worth (n.wt p hp)]; rfl
  have tail_ : (cutG ((rowsOf ws st).map dRow) (some 1) none) = ws.map fun p => .lst [.str p.1, .str (num p.2)] := by
    refine (cut_from ((rowsOf ws st).map dRow) 1).trans ?_
    unfold rowsOf
    rw [List.map_cons, List.drop_one, List.tail_cons, List.map_map]
    rfl
  refine dps_consR ((dp_setLc (F := D.str) (f := fun l => D.lst ((Txt.split l " ").map .str)) (xs := (("step " : Str) ++ num st) :: ws.map worthLine) (own := [("line", 5)]) (is := [5]) (u := fun d ds => ds.set 5 (some d)) 1 rfl sc_readScale.nd
      (.inl (di_lstV (d_call (fn_linesOf T Dr ((("step " : Str) ++ num st) :: ws.map worthLine) (by simp) free (lines_len long hl1)) hr2 (da_1 (dv 0)) rfl fun z hz => hz))) (blkOk_by (by rfl)) (fun _ _ _ _ _ => pg_name (i := 5) sc_readScale.nd rfl (Or.inl rfl)) (fun _ _ => tg1) (by decide)
      (fun _ _ _ _ _ l hl => d_split (dv 5) d_str rfl (Nat.le_trans (Nat.add_le_add_right (long l hl) 2) (by rw [sizeLine_eq]; decide))) (Nat.le_trans hl1 (by rw [sizeLine_eq]; decide)))) fun d1 e1 => ?_
  rw [show d1 = _ from e1, erows]
  have hrow : ∀ r ∈ rowsOf ws st, True := fun _ _ => trivial
  refine dps_cons (dp_need Dr hr1 (DV.to (d_and2 (p := true) (q := true) (DV.to (d_all (bs := (rowsOf ws st).map fun _ => true) rfl ?_ T.b.all) (by simp)) fun _ => DV.to ((c_eqS (z := "step") (d_ixL (d_ixL (dv (d := .lst ((rowsOf ws st).map dRow)) 1) d_int (atI_nat (j := 0) rfl)) d_int (atI_nat (j := 0) rfl)) d_str).v) rfl) rfl))
    (dps_cons (dp_need Dr hr1 (DV.to (d_all (bs := ws.map fun _ => true) rfl ?_ T.b.all) (by simp)))
    (dps_cons (dp_tup2 (i := 2) (j := 3) (d1 := dWs ws) (d2 := .int st) rfl sc_readScale.nd (d_tup (da_cons ?_ (da_1 (d_call (fn_numberIn T Dr st n.small) hr2 (da_1 (d_ixL (d_ixL (dv (d := .lst ((rowsOf ws st).map dRow)) 1) d_int (atI_nat (j := 0) rfl)) d_int (atI_nat (j := 1) rfl))) rfl fun z hz => hz))) (by simp)) rfl rfl (.inr rfl) (.inr rfl))
    (dps_cons (dp_set (d := dScale CS ws st) 4 sc_readScale.nd ?_) (dps_cons (dp_need Dr hr1 (DV.to ((c_eqS (d_call (fn_showScale T W B B2 S ws st n.wt few n.small) hr4 (da_1 (dv 4)) rfl fun z hz => hz) (dv 0)).v) (by simp))) (dps_one (dp_ret (dv 4)))))))
  · rw [map_true]
    refine d_lc (F := dRow) (xs := rowsOf ws st) (own := [("row", 6)]) (is := [6]) (u := fun d ds => ds.set 6 (some d)) rfl sc_readScale.nd (.inl (di_lstV (dv (d := .lst ((rowsOf ws st).map dRow)) 1))) (blkOk_by (by rfl)) (fun _ _ _ _ _ => pg_name (i := 6) sc_readScale.nd rfl (Or.inl rfl)) (fun _ _ => tg1) (by decide)
      (fun _ _ _ _ _ r hr => DV.to (d_eqI (d_len (m := 2) (dv (d := dRow r) 6) (.inl ⟨_, rfl, rfl⟩) T.b.len) d_int) rfl) ?_
    unfold rowsOf
    rw [List.length_cons, List.length_map]
    exact Nat.le_trans (Nat.succ_le_succ few) (show 1001 ≤ sizeLine by decide)
  · rw [map_true]
    exact d_lc (F := fun p : Wt => .lst [.str p.1, .str (num p.2)]) (xs := ws) (own := [("row", 6)]) (is := [6]) (u := fun d ds => ds.set 6 (some d)) rfl sc_readScale.nd (.inl (di_lstV (DV.to (d_slL (dv (d := .lst ((rowsOf ws st).map dRow)) 1) (do_some d_int) do_none) (congrArg D.lst tail_)))) (blkOk_by (by rfl)) (fun _ _ _ _ _ => pg_name (i := 6) sc_readScale.nd rfl (Or.inl rfl)) (fun _ _ => tg1) (by decide)
      (fun _ _ _ _ _ p hp => d_call (fn_name T.b T.cn T.name) hr2 (da_1 (d_ixL (dv 6) d_int (atI_nat (j := 0) rfl))) ⟨p.1, rfl, (n.wt p hp).nm⟩ fun z hz => hz) hz
  · exact d_dc (F := fun p : Wt => .lst [.str p.1, .str (num p.2)]) (xs := ws) (kf := fun p => kS p.1) (vf := fun p => .int p.2) (own := [("row", 6)]) (is := [6]) (u := fun d ds => ds.set 6 (some d)) rfl sc_readScale.nd (di_lstV (DV.to (d_slL (dv (d := .lst ((rowsOf ws st).map dRow)) 1) (do_some d_int) do_none) (congrArg D.lst tail_))) (blkOk_by (by rfl)) (fun _ _ _ _ _ => pg_name (i := 6) sc_readScale.nd rfl (Or.inl rfl)) (fun _ _ => tg1) (by decide)
      (fun _ _ _ _ _ p hp => d_ixL (dv 6) d_int (atI_nat (j := 0) rfl)) (fun _ _ _ _ _ p hp => d_call (fn_numberIn T Dr p.2 (n.wt p hp).small) hr2 (da_1 (d_ixL (dv 6) d_int (atI_nat (j := 1) rfl))) rfl fun z hz => hz) (by have := nd_map (f := kS) (fun _ _ e => Sum.inr.inj e) n.wn.nd; rwa [List.map_map] at this) hz
  · refine d_lamcall (k := 5) R.made rfl sc_made (fun _ _ _ _ _ _ us hl => match us, hl with | [_], _ => rfl) rfl R.err rfl (.inl rfl) (fun _ => rfl) R.scale.tab rfl tn.inn tn.uni (hr.mono (by decide)) (show LamX.LamS (defScope (top 55)) _ from LamX.lamS_by (by decide +kernel)) rfl (fun _ _ _ _ _ => rfl) fun A outer s H E f c' hr5 => ?_
    refine DV.to (d_make (mk_scale T B Q ws st (fun p hp => (n.wt p hp).nm) n.wn.nd few n.pos) hr5 (da_cons (dv (d := dWs ws) 2) (da_1 (dv 3))) rfl) ?_
    show D.ob CS (scaleF (srtW ws) st) = dScale CS ws st
    rw [srtW_id n.wn]
    rfl
end BB
set_option maxHeartbeats 1000000
namespace DL
open PySem PySem.Spec PyProof.Rows L2 SO
/-! ### the law's bag: a list of three numbers and a list -/
abbrev noBag (M : Mu) : Mu := ⟨none, 0, M.tab⟩
theorem noBag_le (M : Mu) : Le (noBag M) M := ⟨.inl rfl, .inr rfl⟩
structure Bz where
  n : Int
  m : Int
  k : Int
def bagV (c : Addr) (z : Bz) : List V := [.int z.n, .int z.m, .int z.k, .ref c]
def bagD (ns : List Int) (z : Bz) : D := .lst [.int z.n, .int z.m, .int z.k, .lst (ns.map .int)]
structure BagOk (ns : List Int) (z : Bz) : Prop where
  n : 0 ≤ z.n
  m : 0 ≤ z.m
  m2 : z.m < 2147483647
  k : 0 ≤ z.k
  pos : ∀ x ∈ ns, (0 : Int) ≤ x
  few : ns.length ≤ 63
/-- the bag as it stands -/
structure BagAt (M : Mu) (b : Addr) (ns : List Int) (H : Hp) (z : Bz) : Prop where
  bag : M.bag = some b
  l : H b = some (.lst (bagV M.scr z))
  c : H M.scr = some (.lst (ns.map V.int))
  ne : M.scr ≠ b
  ok : BagOk ns z
theorem BagAt.bg {M : Mu} {b : Addr} {ns : List Int} {H : Hp} {z : Bz} (h : BagAt M b ns H z) : Bag b M.scr H := ⟨z.n, z.m, z.k, ns, h.l, h.c, h.ne, h.ok.n, h.ok.m, h.ok.m2, h.ok.k, h.ok.pos, h.ok.few⟩
def tDB (M : Mu) (K : PySem.W.Frag) (G0 H0 : Hp) (b : Addr) (ns : List Int) (ds : DS) (z : Bz) (Nx : DS → Bz → Prop) (Rt : D → Prop) : TS := fun Z σ H => ∃ G, Sl K G σ ds ∧ Gr M G0 H0 G H ∧ BagAt M b ns H z ∧
  (∀ ds' z' σ' G' H', Nx ds' z' → Sl K G' σ' ds' → Gr M G0 H0 G' H' → BagAt M b ns H' z' → Z.nx σ' H') ∧ ∀ d v G' H', Rt d → Gr M G0 H0 G' H' → Dt K G' v d → Z.rt v H'
/-- data without lists -/
def Loose (d : D) : Prop := ∀ (K : PySem.W.Frag) (G G' : Hp) (v : V), (∀ a o, G a = some o → (∀ xs, o ≠ .lst xs) → G' a = some o) → Dt K G v d → Dt K G' v d
theorem loose_int {i : Int} : Loose (.int i) := fun _ _ _ _ _ t => by cases t; exact .int _
theorem loose_bl {i : Bool} : Loose (.bl i) := fun _ _ _ _ _ t => by cases t; exact .bl _
theorem loose_two {a b : D} (h1 : Loose a) (h2 : Loose b) : Loose (.tup [a, b]) := fun K G G' v k t => by
  cases t with
  | tup h s =>
    cases s with
    | cons t1 s =>
      cases s with
      | cons t2 s =>
        cases s
        rcases h with h | ⟨h, _⟩
        · exact .tup (.inl (k _ _ h fun xs z => by cases z)) (.cons (h1 K G G' _ k t1) (.cons (h2 K G G' _ k t2) .nil))
        · cases h
def cutB (G G1 : Hp) (b c : Addr) : Hp := fun a => if a = b then none else if a = c then G a else G1 a
theorem cutB_b {G G1 : Hp} {b c : Addr} : cutB G G1 b c b = none := if_pos rfl
theorem cutB_c {G G1 : Hp} {b c : Addr} (h : c ≠ b) : cutB G G1 b c c = G c := by unfold cutB; rw [if_neg h, if_pos rfl]
theorem cutB_ne {G G1 : Hp} {a b c : Addr} (h : a ≠ b) (h2 : a ≠ c) : cutB G G1 b c a = G1 a := by unfold cutB; rw [if_neg h, if_neg h2]
section
variable {K : PySem.W.Frag} {M : Mu} {G0 H0 G H : Hp} {b : Addr} {ns : List Int} {z : Bz} {ds : DS} {σ : L2.St}
/-- the bag known while an expression is read -/
theorem bag_eval {R : D → Prop} {Q : VK} (hi : ds[0]? = some (some (.raw (.ref b)))) (s : Sl K G σ ds) (g : Gr M G0 H0 G H) (ok0 : Ok M G0 H0) (B : BagAt M b ns H z)
    (q : ∀ d v G1 H1, R d → Gr M G0 H0 G1 H1 → Same G G1 → BagAt M b ns H1 z → (Loose d → Dt K G1 v d) → Q v H1) : tD (noBag M) K (ds.set 0 (some (bagD ns z))) R σ H Q := by
  have gb : G b = none := (g.ok.bag b B.bag).1
  have exc : Same G (upd G M.scr (.lst (ns.map V.int))) := fun a o e => by
    by_cases h : a = M.scr
    · subst h
      have := g.ok.sub _ _ e
      rw [B.c] at this
      rw [upd_same]; exact this
    · rw [upd_ne h]; exact e
  have gb2 : upd G M.scr (.lst (ns.map V.int)) b = none := by rw [upd_ne (Ne.symm B.ne)]; exact gb
  have ex : Same G (upd (upd G M.scr (.lst (ns.map V.int))) b (.lst (bagV M.scr z))) := exc.trans (same_upd gb2)
  have kb : Dt K (upd (upd G M.scr (.lst (ns.map V.int))) b (.lst (bagV M.scr z))) (.ref b) (bagD ns z) :=
    .lst upd_same (.cons (.int _) (.cons (.int _) (.cons (.int _) (.cons (.lst (by rw [upd_ne B.ne, upd_same]) (dts_ints ns)) .nil))))
  have s2 : Sl K (upd (upd G M.scr (.lst (ns.map V.int))) b (.lst (bagV M.scr z))) σ (ds.set 0 (some (bagD ns z))) := by
    have s3 := (s.mono ex).set 0 kb
    have at0 := raw_at s hi
    have e : σ.set 0 (some (.ref b)) = σ := by
      refine List.ext_getElem? fun j => ?_
      by_cases q : 0 = j
      · subst q
        rw [List.getElem?_set_self (List.getElem?_eq_some_iff.mp at0).1, at0]
      · rw [List.getElem?_set_ne q]
    rwa [e] at s3
  have ok2 : Ok (noBag M) (upd (upd G M.scr (.lst (ns.map V.int))) b (.lst (bagV M.scr z))) H := by
    have ok1 := g.ok.weaken (noBag_le M)
    refine ⟨fun a o e => ?_, fun _ h => (by cases h), ok1.tab, fun a ps e => ?_⟩
    · by_cases h : a = b
      · subst h; rw [upd_same] at e; rw [B.l]; exact e
      · rw [upd_ne h] at e
        by_cases h2 : a = M.scr
        · subst h2; rw [upd_same] at e; rw [B.c]; exact e
        · rw [upd_ne h2] at e; exact g.ok.sub _ _ e
    · by_cases h : a = b
      · subst h; rw [upd_same] at e; cases e
      · rw [upd_ne h] at e
        by_cases h2 : a = M.scr
        · subst h2; rw [upd_same] at e; cases e
        · rw [upd_ne h2] at e; exact g.ok.ntb _ _ e
  refine ⟨_, s2, ok2, fun d v G1 H1 r g1 t => ?_⟩
  have hb1 : H1 b = some (.lst (bagV M.scr z)) := g1.ok.sub _ _ (g1.ex _ _ upd_same)
  have hc1 : H1 M.scr = some (.lst (ns.map V.int)) := g1.ok.sub _ _ (g1.ex _ _ (by rw [upd_ne B.ne, upd_same]))
  have B1 : BagAt M b ns H1 z := ⟨B.bag, hb1, hc1, B.ne, B.ok⟩
  -- what is known behind it, the bag left out
  have sub : ∀ a o, cutB G G1 b M.scr a = some o → H1 a = some o := fun a o e => by
    by_cases h : a = b
    · rw [h, cutB_b] at e; cases e
    · by_cases h2 : a = M.scr
      · rw [h2, cutB_c B.ne] at e
        rw [h2]
        exact g1.ok.sub _ _ (g1.ex _ _ (ex _ _ e))
      · rw [cutB_ne h h2] at e
        exact g1.ok.sub _ _ e
  have exG : Same G (cutB G G1 b M.scr) := fun a o e => by
    have h : a ≠ b := ne_of_none e gb
    by_cases h2 : a = M.scr
    · rw [h2, cutB_c B.ne, ← h2]; exact e
    · rw [cutB_ne h h2]
      exact g1.ex _ _ (ex _ _ e)
  have g2 : Gr M G H (cutB G G1 b M.scr) H1 := by
    refine ⟨exG, ⟨sub, fun b' hb' => ?_, g1.ok.tab, fun a ps e => ?_⟩, fun a o e _ h => g1.fr a o e (by simp) h, fun a ha => ?_⟩
    · have : b' = b := by rw [B.bag] at hb'; exact (Option.some.inj hb').symm
      subst this
      exact ⟨cutB_b, B1.bg⟩
    · by_cases h : a = b
      · rw [h, cutB_b] at e; cases e
      · by_cases h2 : a = M.scr
        · rw [h2, cutB_c B.ne] at e
          exact g.ok.ntb _ ps e
        · rw [cutB_ne h h2] at e
          exact g1.ok.ntb a ps e
    · by_cases h : a = b
      · rw [h, cutB_b] at ha; exact absurd rfl ha
      · by_cases h2 : a = M.scr
        · rw [h2, cutB_c B.ne] at ha
          rw [h2]
          exact .inl ha
        · rw [cutB_ne h h2] at ha
          rcases g1.nw a ha with z | z
          · rw [upd_ne h, upd_ne h2] at z
            exact .inl z
          · exact .inr z
  exact q d v _ H1 r (g.trans ok0 g2) exG B1 fun p => p K G1 _ v (fun a o e nl => by
    have h : a ≠ b := fun z => by rw [z, g1.ex _ _ upd_same] at e; exact nl _ (Option.some.inj e).symm
    have h2 : a ≠ M.scr := fun z => by rw [z, g1.ex _ _ (by rw [upd_ne B.ne, upd_same])] at e; exact nl _ (Option.some.inj e).symm
    rw [cutB_ne h h2]; exact e) t
end
end DL
set_option maxHeartbeats 1000000
namespace DL
open PySem PySem.Spec PyProof.Rows L2 SO
/-! ### statements over the bag -/
section
variable {M : Mu} {G0 H0 G H : Hp} {b : Addr} {ns : List Int} {z z' : Bz}
theorem Gr.pokeB (g : Gr M G0 H0 G H) (B : BagAt M b ns H z) (ok : BagOk ns z') : Gr M G0 H0 G (upd H b (.lst (bagV M.scr z'))) ∧ BagAt M b ns (upd H b (.lst (bagV M.scr z'))) z' := by
  have gb : G b = none := (g.ok.bag b B.bag).1
  have B2 : BagAt M b ns (upd H b (.lst (bagV M.scr z'))) z' := ⟨B.bag, upd_same, by rw [upd_ne B.ne]; exact B.c, B.ne, ok⟩
  have ne : ∀ a x, H a = some x → (∀ xs, x ≠ .lst xs) → a ≠ b := fun a x e n q => by rw [q, B.l] at e; exact n _ (Option.some.inj e).symm
  refine ⟨⟨g.ex, ⟨fun a x e => by rw [upd_ne (ne_of_none e gb)]; exact g.ok.sub a x e, fun b' hb' => ?_, fun q hq => ?_, g.ok.ntb⟩, fun a x e h1 h2 => ?_, g.nw⟩, B2⟩
  · have : b' = b := by rw [B.bag] at hb'; exact (Option.some.inj hb').symm
    subst this
    exact ⟨gb, B2.bg⟩
  · obtain ⟨ps, h1, h2, h3⟩ := g.ok.tab q hq
    refine ⟨ps, by rw [upd_ne (ne _ _ h1 fun xs z => by cases z)]; exact h1, h2, fun pos cv hc => ?_⟩
    obtain ⟨c, e1, e2⟩ := h3 pos cv hc
    exact ⟨c, e1, by rw [upd_ne (ne _ _ e2 fun xs z => by unfold LamX.CodeO at z; cases z)]; exact e2⟩
  · rw [upd_ne fun q => h1 (by rw [q]; exact B.bag)]
    exact g.fr a x e h1 h2
end
abbrev DB (X : Cx) (M : Mu) (G0 H0 : Hp) (b : Addr) (ns : List Int) (st : Stmt) (ds : DS) (z : Bz) (Nx : DS → Bz → Prop) (Rt : D → Prop) : Prop := PS X st (tDB M X.K G0 H0 b ns ds z Nx Rt)
abbrev DBs (X : Cx) (M : Mu) (G0 H0 : Hp) (b : Addr) (ns : List Int) (sts : List Stmt) (ds : DS) (z : Bz) (Nx : DS → Bz → Prop) (Rt : D → Prop) : Prop := PSs X sts (tDB M X.K G0 H0 b ns ds z Nx Rt)
section
variable {X : Cx} {M : Mu} {G0 H0 : Hp} {b : Addr} {ns : List Int} {z z1 : Bz} {ds ds1 : DS} {st : Stmt} {rest sts A B : List Stmt} {Nx N1 : DS → Bz → Prop} {Rt : D → Prop} {e e1 e2 c : Expr} {R : D → Prop} {pos pn p2 px pt : Pos} {i : Nat} {n x : Str}
theorem dbs_nil (h : Nx ds z) : DBs X M G0 H0 b ns [] ds z Nx Rt := PSs.imp pss_nil fun Z σ H ⟨G, s, g, B, n, _⟩ => n ds z σ G H h s g B
theorem dbs_consR (h : DB X M G0 H0 b ns st ds z N1 Rt) (r : ∀ ds1 z1, N1 ds1 z1 → DBs X M G0 H0 b ns rest ds1 z1 Nx Rt) : DBs X M G0 H0 b ns (st :: rest) ds z Nx Rt :=
  PSs.imp (pss_cons h (PSs.ex (ι := DS × Bz) (P := fun y => N1 y.1 y.2) fun y hy => r y.1 y.2 hy)) fun Z σ H ⟨G, s, g, B, n, q⟩ => ⟨G, s, g, B, fun ds1 z1 σ1 G1 H1 hn s1 g1 B1 => ⟨(ds1, z1), hn, G1, s1, g1, B1, n, q⟩, q⟩
theorem dbs_cons (h : DB X M G0 H0 b ns st ds z (fun x y => x = ds1 ∧ y = z1) Rt) (r : DBs X M G0 H0 b ns rest ds1 z1 Nx Rt) : DBs X M G0 H0 b ns (st :: rest) ds z Nx Rt := dbs_consR h fun x y ⟨e1, e2⟩ => by rw [e1, e2]; exact r
theorem dbs_one (h : DB X M G0 H0 b ns st ds z Nx Rt) : DBs X M G0 H0 b ns [st] ds z Nx Rt := PSs.imp (pss_one h) fun _ _ _ q => q
theorem DB.weak {N2 : DS → Bz → Prop} (h : DB X M G0 H0 b ns st ds z Nx Rt) (hn : ∀ x y, Nx x y → N2 x y) : DB X M G0 H0 b ns st ds z N2 Rt := PS.imp h fun Z σ H ⟨G, s, g, B, n, q⟩ => ⟨G, s, g, B, fun x y σ' G' H' h1 => n x y σ' G' H' (hn x y h1), q⟩
theorem DBs.weak {N2 : DS → Bz → Prop} (h : DBs X M G0 H0 b ns sts ds z Nx Rt) (hn : ∀ x y, Nx x y → N2 x y) : DBs X M G0 H0 b ns sts ds z N2 Rt := PSs.imp h fun Z σ H ⟨G, s, g, B, n, q⟩ => ⟨G, s, g, B, fun x y σ' G' H' h1 => n x y σ' G' H' (hn x y h1), q⟩
/-- x = e -/
theorem db_set {i : Nat} {d : D} (ok0 : Ok M G0 H0) (hN : X.N.Nodup) (h0 : ds[0]? = some (some (.raw (.ref b)))) (he : DV X (noBag M) e (ds.set 0 (some (bagD ns z))) d) (hl : Loose d) (hi : X.N[i]? = some x := by rfl) (hx : Loc X.env.scope x := by exact .inl rfl) (hs : swapsWith e (some (.Name x px)) pos.line X.env = pure false := by rfl)
    (hf : X.fn x = true ∨ X.env.scope.names.lookup x = some .local := by first | exact .inl rfl | exact .inr rfl) : DB X M G0 H0 b ns (.Assign [.Name x px] e pos) ds z (fun x y => x = ds.set i (some d) ∧ y = z) Rt :=
  PS.imp (ps_set hN hi hx he hs hf) fun Z σ H ⟨G, s, g, B, n, q⟩ => bag_eval h0 s g ok0 B fun d' v G1 H1 r g1 e1 B1 t => by
    rw [show d' = d from r] at t
    exact n _ z _ G1 H1 ⟨rfl, rfl⟩ ((s.mono e1).set i (t hl)) g1 B1
/-- return e -/
theorem db_ret (ok0 : Ok M G0 H0) (h0 : ds[0]? = some (some (.raw (.ref b)))) (he : DX X (noBag M) e (ds.set 0 (some (bagD ns z))) Rt) (hl : ∀ d, Rt d → Loose d) : DB X M G0 H0 b ns (.Return (some e) pos) ds z Nx Rt :=
  PS.imp (ps_ret he) fun Z σ H ⟨G, s, g, B, n, q⟩ => bag_eval h0 s g ok0 B fun d v G1 H1 r g1 e1 B1 t => q d v G1 H1 r g1 (t (hl d r))
theorem tdt_of {M : Mu} {K : PySem.W.Frag} {ds : DS} {R : Bool → Prop} {σ : L2.St} {H : Hp} {Q : Bool → Hp → Prop} (h : tD M K ds (fun d => ∃ p, d = .bl p ∧ R p) σ H fun v H' => ∃ p, v = .bl p ∧ Q p H') : tDT M K ds R σ H Q :=
  let ⟨G, s, ok, k⟩ := h
  ⟨G, s, ok, fun p G' H' r g => let ⟨q, e, z⟩ := k (.bl p) (.bl p) G' H' ⟨p, rfl, r⟩ g (.bl p); by cases e; exact z⟩
theorem db_if {p : Bool} (ok0 : Ok M G0 H0) (h0 : ds[0]? = some (some (.raw (.ref b)))) (hc : DT X (noBag M) c (ds.set 0 (some (bagD ns z))) (Is p))
    (ha : p = true → DBs X M G0 H0 b ns A ds z Nx Rt) (hb : p = false → DBs X M G0 H0 b ns B ds z Nx Rt) : DB X M G0 H0 b ns (.If c A B pos) ds z Nx Rt :=
  PS.imp (ps_if hc (PSs.ex (ι := Unit) (P := fun _ => p = true) fun _ h => ha h) (PSs.ex (ι := Unit) (P := fun _ => p = false) fun _ h => hb h)) fun Z σ H ⟨G, s, g, B, n, q⟩ => tdt_of (bag_eval h0 s g ok0 B fun d v G1 H1 ⟨p', ed, r⟩ g1 e1 B1 t => by
    subst ed
    have r : p' = p := r
    subst r
    cases t loose_bl
    have y : tDB M X.K G0 H0 b ns ds z Nx Rt Z σ H1 := ⟨G1, s.mono e1, g1, B1, n, q⟩
    refine ⟨p', rfl, ?_⟩
    cases p' with
    | true => refine iteT ?_; exact ⟨(), rfl, y⟩
    | false => refine iteF ?_; exact ⟨(), rfl, y⟩)
/-- bag[j] = e -/
theorem db_store {v' : Int} {j : Nat} {jn : Nat} {p3 : Pos} (ok0 : Ok M G0 H0) (h0 : ds[0]? = some (some (.raw (.ref b)))) (he : DV X (noBag M) e (ds.set 0 (some (bagD ns z))) (.int v')) (ok : BagOk ns z1) (hj : ixN 4 (j : Int) = some jn) (hz : ∀ c, (bagV c z).set jn (.int v') = bagV c z1)
    (hN : X.N[0]? = some n := by rfl) (hv : Vis X.env.scope n := by first | exact Or.inl rfl | exact Or.inr (Or.inl rfl) | exact Or.inr (Or.inr rfl)) (h1 : (n == ("__debug__" : Str)) = false := by decide) (h2 : (n == ("__classdict__" : Str)) = false := by decide)
    (hs : swapsWithSole [.Subscript (.Name n pn) (.Constant (.int (j : Int)) 0 p2) p3] e pos.line X.env = pure false := by rfl) (hw : swappedStores [.Subscript (.Name n pn) (.Constant (.int (j : Int)) 0 p2) p3] e X.env = pure none := by rfl)
    (ha : (assignEach [.Subscript (.Name n pn) (.Constant (.int (j : Int)) 0 p2) p3] X.env).map (·.2) = [assign (.Subscript (.Name n pn) (.Constant (.int (j : Int)) 0 p2) p3) X.env] := by rfl) :
    DB X M G0 H0 b ns (.Assign [.Subscript (.Name n pn) (.Constant (.int (j : Int)) 0 p2) p3] e pos) ds z (fun x y => x = ds ∧ y = z1) Rt :=
  PS.imp (ps_asg he (pg_sub (pe_var (i := 0) hN hv h1 h2) pe_int set_list) hs hw ha) fun Z σ H ⟨G, s, g, B, n, q⟩ => bag_eval h0 s g ok0 B fun d v G1 H1 r g1 e1 B1 t => by
    rw [show d = _ from r] at t
    cases t loose_int
    obtain ⟨g2, B2⟩ := g1.pokeB B1 ok
    refine ⟨.ref b, raw_at s h0, b, bagV M.scr z, j, jn, rfl, rfl, B1.l, hj, ?_⟩
    rw [hz]
    exact n ds z1 σ G1 _ ⟨rfl, rfl⟩ (s.mono e1) g2 B2
def rGetI : V → V → Hp → VK → Prop := fun o i H Q => ∃ p xs v, ∃ j : Nat, o = .ref p ∧ i = .int (j : Int) ∧ H p = some (.lst xs) ∧ xs[j]? = some v ∧ (j : Int) < 2 ^ 63 ∧ Q v H
theorem get_listI : PGet X rGetI := by
  intro pins s σ H o i ov iv Q I ro ri ⟨p, xs, v, j, eo, ei, hp, hv, lt, q⟩
  subst eo ei
  cases ro
  obtain ⟨t, rfl⟩ := ri
  obtain ⟨its, r, pl, _⟩ := I.list (SqL.of (K := X.K) hp)
  obtain ⟨u, hu, ru⟩ := r.get hv
  exact wpAny_getItem_list pl.isList (Int.natCast_nonneg _) lt (by simpa using hu) ⟨v, H, I, ru, q⟩
/-- bag[j] += e -/
theorem db_aug {old v' : Int} {j jn : Nat} {p3 : Pos} (ok0 : Ok M G0 H0) (h0 : ds[0]? = some (some (.raw (.ref b)))) (he : DV X (noBag M) e (ds.set 0 (some (bagD ns z))) (.int v')) (ok : BagOk ns z1) (hj : ixN 4 (j : Int) = some jn) (hj2 : j < 4) (ho : ∀ c, (bagV c z)[j]? = some (.int old)) (hz : ∀ c, (bagV c z).set jn (.int (old + v')) = bagV c z1)
    (hN : X.N[0]? = some n := by rfl) (hv : Vis X.env.scope n := by first | exact Or.inl rfl | exact Or.inr (Or.inl rfl) | exact Or.inr (Or.inr rfl)) (h1 : (n == ("__debug__" : Str)) = false := by decide) (h2 : (n == ("__classdict__" : Str)) = false := by decide)
    (ha : ∀ ov iv new, augStore (.Constant (.int (j : Int)) 0 p2) ov iv new = (do holding [new, ov, iv] (setItem ov iv new); release [new, ov, iv] []; pure .next) := by intros; rfl) :
    DB X M G0 H0 b ns (.AugAssign (.Subscript (.Name n pn) (.Constant (.int (j : Int)) 0 p2) p3) .Add e pos) ds z (fun x y => x = ds ∧ y = z1) Rt :=
  PS.imp (ps_augS (pe_var (i := 0) hN hv h1 h2) pe_int get_listI he ip_add set_list ha) fun Z σ H ⟨G, s, g, B, n, q⟩ => by
    refine ⟨.ref b, raw_at s h0, b, bagV M.scr z, .int old, j, rfl, rfl, B.l, ho _, by omega, ?_⟩
    refine bag_eval h0 s g ok0 B fun d v G1 H1 r g1 e1 B1 t => ?_
    rw [show d = _ from r] at t
    cases t loose_int
    obtain ⟨g2, B2⟩ := g1.pokeB B1 ok
    refine ⟨old, v', rfl, rfl, b, bagV M.scr z, j, jn, rfl, rfl, B1.l, hj, ?_⟩
    rw [hz]
    exact n ds z1 σ G1 _ ⟨rfl, rfl⟩ (s.mono e1) g2 B2
/-- x, bag[0] = e1, e2 -/
theorem db_par {va vb : Int} {i : Nat} {p3 p4 : Pos} {kt k2 : Nat} (ok0 : Ok M G0 H0) (hN : X.N.Nodup) (h0 : ds[0]? = some (some (.raw (.ref b)))) (hi0 : i ≠ 0) (h1 : DV X (noBag M) e1 (ds.set 0 (some (bagD ns z))) (.int va)) (h2 : DV X (noBag M) e2 (ds.set 0 (some (bagD ns z))) (.int vb)) (ok : BagOk ns z1) (hz : ∀ c, (bagV c z).set 0 (.int vb) = bagV c z1) (hc : X.calm = true)
    (hN0 : X.N[0]? = some n := by rfl) (hv : Vis X.env.scope n := by first | exact Or.inl rfl | exact Or.inr (Or.inl rfl) | exact Or.inr (Or.inr rfl)) (hd1 : (n == ("__debug__" : Str)) = false := by decide) (hd2 : (n == ("__classdict__" : Str)) = false := by decide)
    (hi : X.N[i]? = some x := by rfl) (hx : Loc X.env.scope x := by exact .inl rfl) (fx : X.fn x = true ∨ X.env.scope.names.lookup x = some .local := by first | exact .inl rfl | exact .inr rfl)
    (a1 : (assignEach [.Name x px, .Subscript (.Name n pn) (.Constant (.int 0) 0 p2) p3] X.env).map (·.2) = assign (.Name x px) X.env :: (assignEach [.Subscript (.Name n pn) (.Constant (.int 0) 0 p2) p3] X.env).map (·.2) := by rfl)
    (a2 : (assignEach [.Subscript (.Name n pn) (.Constant (.int 0) 0 p2) p3] X.env).map (·.2) = assign (.Subscript (.Name n pn) (.Constant (.int 0) 0 p2) p3) X.env :: (assignEach [] X.env).map (·.2) := by rfl)
    (a3 : (assignEach [.Name x px, .Subscript (.Name n pn) (.Constant (.int 0) 0 p2) p3] X.env).length = 2 := by rfl) (a4 : (assignEach [.Name x px, .Subscript (.Name n pn) (.Constant (.int 0) 0 p2) p3] X.env).findIdx? (·.1) = none := by rfl)
    (b1 : starEach [e1, e2] X.env = (false, eval e1 X.env) :: starEach [e2] X.env := by rfl) (b2 : starEach [e2] X.env = (false, eval e2 X.env) :: starEach [] X.env := by rfl)
    (hs : swapsWithSole [.Tuple [.Name x px, .Subscript (.Name n pn) (.Constant (.int 0) 0 p2) p3] kt pt] (.Tuple [e1, e2] k2 p4) pos.line X.env = pure false := by rfl) (hw : swappedStores [.Tuple [.Name x px, .Subscript (.Name n pn) (.Constant (.int 0) 0 p2) p3] kt pt] (.Tuple [e1, e2] k2 p4) X.env = pure none := by rfl)
    (ha : (assignEach [.Tuple [.Name x px, .Subscript (.Name n pn) (.Constant (.int 0) 0 p2) p3] kt pt] X.env).map (·.2) = [assign (.Tuple [.Name x px, .Subscript (.Name n pn) (.Constant (.int 0) 0 p2) p3] kt pt) X.env] := by rfl) :
    DB X M G0 H0 b ns (.Assign [.Tuple [.Name x px, .Subscript (.Name n pn) (.Constant (.int 0) 0 p2) p3] kt pt] (.Tuple [e1, e2] k2 p4) pos) ds z (fun x y => x = ds.set i (some (.int va)) ∧ y = z1) Rt :=
  PS.imp (ps_asg (d_tup (da_cons h1 (da_cons h2 da_nil b2) b1) (show 2 ≤ 100 by decide)) (pg_tup hc (pgs_cons (pg_name hN hi hx fx) (pgs_cons (pg_sub (pe_var (i := 0) hN0 hv hd1 hd2) pe_int set_list) pgs_nil a2) a1) a3 a4) hs hw ha) fun Z σ H ⟨G, s, g, B, n, q⟩ => bag_eval h0 s g ok0 B fun d v G1 H1 r g1 e1 B1 t => by
    rw [show d = _ from r] at t
    have t := t (loose_two loose_int loose_int)
    cases t with
    | tup hT st =>
      rename_i a xs
      cases st with
      | cons t1 st =>
        cases st with
        | cons t2 st =>
          cases st
          cases t1
          cases t2
          obtain ⟨g2, B2⟩ := g1.pokeB B1 ok
          refine ⟨a, _, rfl, same_t g1.ok.sub hT.sq, rfl, .int va, [.int vb], rfl, .int vb, [], rfl, .ref b, ?_, b, bagV M.scr z, 0, 0, rfl, rfl, B1.l, rfl, rfl, ?_⟩
          · rw [List.getElem?_set_ne hi0]
            exact raw_at s h0
          · rw [hz]
            exact n _ z1 _ G1 _ ⟨rfl, rfl⟩ ((s.mono e1).set i (.int va)) g2 B2
end
end DL
set_option maxHeartbeats 1000000
namespace DL
open PySem PySem.Spec PyProof.Rows L2 SO
theorem dps_of_dbs {X : Cx} {M : Mu} {b : Addr} {sts : List Stmt} {ds : DS} {Nx : DS → Prop} {Rt : D → Prop} (hb : M.bag = some b) (h : ∀ G0 H0 ns z, Ok M G0 H0 → BagOk ns z → DBs X M G0 H0 b ns sts ds z (fun ds' _ => Nx ds') Rt) : DPs X M sts ds Nx Rt :=
  PSs.imp (PSs.ex (ι := Hp × Hp × List Int × Bz) (P := fun y => Ok M y.1 y.2.1 ∧ BagOk y.2.2.1 y.2.2.2) fun y hy => h y.1 y.2.1 y.2.2.1 y.2.2.2 hy.1 hy.2) fun Z σ H ⟨G, s, ok, n, q⟩ => by
    obtain ⟨_, bn, bm, bk, ns, e1, e2, ne, h1, h2, h3, h4, h5, h6⟩ := ok.bag b hb
    have bo : BagOk ns ⟨bn, bm, bk⟩ := ⟨h1, h2, h3, h4, h5, h6⟩
    exact ⟨(G, H, ns, ⟨bn, bm, bk⟩), ⟨ok, bo⟩, G, s, Gr.refl ok, ⟨hb, e1, e2, ne, bo⟩, fun ds' z' σ' G' H' h s' g _ => n ds' σ' G' H' h s' g, q⟩
theorem DBs.forget {X : Cx} {M : Mu} {G0 H0 : Hp} {b : Addr} {ns : List Int} {z : Bz} {ds ds1 : DS} {sts : List Stmt} {Nx : DS → Bz → Prop} {Rt : D → Prop} (h : DBs X M G0 H0 b ns sts ds1 z Nx Rt) (w : WkS ds1 ds) : DBs X M G0 H0 b ns sts ds z Nx Rt :=
  PSs.imp h fun Z σ H ⟨G, s, g, B, n, q⟩ => ⟨G, s.forget w.1 w.2, g, B, n, q⟩
end DL
namespace BB
open PySem PySem.Spec PyProof.Rows L2 DL SO PySem.W
variable {P : Program} {w : World} {K : PySem.W.Frag} {mg : Str → Option Value} {base : Heap}
structure Fl1 (K : PySem.W.Frag) (mg : Str → Option Value) : Prop where
  take : FnAt K mg "_law_take" (top 58)
theorem sc_take : FnScope ["_law_bag_here", "_law_many", "_law_cell", "_law_mixed", "_law_drawn_here", "_law_early", "_law_second"] ["_law_bag_here", "_law_many"] (defScope (top 58)) := ⟨rfl, rfl, rfl, by decide +kernel, rfl, by decide +kernel, by decide +kernel⟩
/-- what the bag's k-th cell is -/
def cellAt (ns : List Int) (k : Int) : Int := (ns.drop k.toNat).headD 0
theorem cell_pos {ns : List Int} {k : Int} (h : ∀ x ∈ ns, (0 : Int) ≤ x) : 0 ≤ cellAt ns k := by
  unfold cellAt
  cases q : ns.drop k.toNat with
  | nil => exact Int.le_refl 0
  | cons x r => exact h x (List.mem_of_mem_drop (by rw [q]; exact List.mem_cons_self))
theorem mod_lt {x m : Int} (h : 0 < m) : 0 ≤ x % m ∧ x % m < m := ⟨Int.emod_nonneg _ (by omega), Int.emod_lt_of_pos _ h⟩
def takePre (M : Mu) (l : List D) : Prop := ∃ b many, M.bag = some b ∧ l = [.raw (.ref b), .int many] ∧ 1 ≤ many ∧ many < 1073741824
def takeRt (l : List D) (d : D) : Prop := ∃ x many r, l = [x, .int many] ∧ d = .int r ∧ 0 ≤ r ∧ r < many
theorem cmulR {i j : Int} (h : -(2 ^ 64) < j ∧ j < 2 ^ 64) : CMul i j := .inr h
theorem fn_take (T : Fk K mg) (L : Fl1 K mg) : FnT P w K mg base "_law_take" 1 takePre takeRt := by
  refine fn_def L.take sc_take (fun _ _ _ _ _ _ us hl => match us, hl with | [_, _], _ => rfl) (fun M l ⟨b, many, _, e, _⟩ => by rw [e]; rfl) fun f cdv A outer s H E M l hr ⟨b, many, hb, e, hm1, hm2⟩ => ?_
  subst e
  have gives : ∀ r : Int, 0 ≤ r → r < many → takeRt [.raw (.ref b), .int many] (.int r) := fun r h1 h2 => ⟨_, many, r, rfl, rfl, h1, h2⟩
  have loose : ∀ d, takeRt [.raw (.ref b), .int many] d → Loose d := fun d ⟨_, _, r, _, e, _⟩ => by rw [e]; exact loose_int
  refine dps_of_dbs hb fun G0 H0 ns z ok0 bo => ?_
  -- the first statement fills the bag anew
  refine dbs_consR (N1 := fun ds' z' => WkS (slots ["_law_bag_here", "_law_many", "_law_cell", "_law_mixed", "_law_drawn_here", "_law_early", "_law_second"] [.raw (.ref b), .int many]) ds' ∧ BagOk ns z') (db_if (p := decide (z.n = 0)) ok0 rfl (c_eqI (d_ixL (dv (d := bagD ns z) 0) d_int (atI_nat (j := 0) rfl)) d_int).t (fun _ => ?_) fun _ => dbs_nil ⟨WkS.refl _, bo⟩) fun ds1 z1 ⟨wk, bo1⟩ => ?_
  · have hk := bo.k
    have hkk : ((z.k.toNat : Nat) : Int) = z.k := Int.toNat_of_nonneg hk
    have cut : cutG (ns.map D.int) (some z.k) none = (ns.drop z.k.toNat).map D.int := by rw [← hkk, cut_from, List.map_drop]; rfl
    have few : (ns.drop z.k.toNat).length ≤ 63 := by have := bo.few; rw [List.length_drop]; omega
    have first : atI ((ns.drop z.k.toNat).map D.int ++ [D.int 0]) 0 = some (.int (cellAt ns z.k)) := by
      unfold cellAt
      cases q : ns.drop z.k.toNat with
      | nil => exact atI_nat (j := 0) rfl
      | cons x r => exact atI_nat (j := 0) rfl
    have cp := cell_pos (k := z.k) bo.pos
    have hn : 0 ≤ cellAt ns z.k * (if decide ((10 : Int) ^ (18 : Int).toNat ≤ cellAt ns z.k) then 1 else 0) := by
      split
      · rw [Int.mul_one]; exact cp
      · rw [Int.mul_zero]; exact Int.le_refl 0
    refine dbs_cons (z1 := z) (db_set (i := 2) (d := .int (cellAt ns z.k)) ok0 sc_take.nd rfl (d_ixL (d_catL (l := (ns.drop z.k.toNat).map D.int) (m := [.int 0]) (DV.to (d_slL (d_ixL (dv (d := bagD ns z) 0) d_int (atI_nat (j := 3) rfl)) (do_some (d_ixL (dv (d := bagD ns z) 0) d_int (atI_nat (j := 2) rfl))) do_none) (congrArg D.lst cut)) (d_lst1 d_int) ?_) d_int first) loose_int) ?_
    · rw [List.length_map]
      exact Nat.le_trans (Nat.add_le_add_right few 1) (by rw [sizeLine_eq]; decide)
    refine dbs_cons (z1 := ⟨z.n, z.m, z.k + 1⟩) (db_aug (j := 2) (jn := 2) (old := z.k) (v' := 1) ok0 rfl d_int ⟨bo.n, bo.m, bo.m2, by show 0 ≤ z.k + 1; omega, bo.pos, bo.few⟩ rfl (by decide) (fun _ => rfl) fun _ => rfl) ?_
    refine dbs_cons (z1 := ⟨cellAt ns z.k * (if decide ((10 : Int) ^ (18 : Int).toNat ≤ cellAt ns z.k) then 1 else 0), z.m, z.k + 1⟩) (db_store (j := 0) (jn := 0) ok0 rfl (d_mul (dv 2) (d_intB (c_ge (dv 2) (d_pow d_int d_int ⟨by decide, by decide, by decide⟩)).v T.b.int) (cmulR ?_)) ⟨?_, bo.m, bo.m2, by show 0 ≤ z.k + 1; omega, bo.pos, bo.few⟩ rfl fun _ => rfl) ?_
    · split <;> decide
    · exact hn
    generalize cellAt ns z.k * (if decide ((10 : Int) ^ (18 : Int).toNat ≤ cellAt ns z.k) then 1 else 0) = n0 at hn ⊢
    have hn0 := hn
    have pm : (0 : Int) < 2147483647 := by decide
    refine dbs_cons (z1 := ⟨n0, z.m, z.k + 1⟩) (db_set (i := 3) (d := .int (z.m * 48271 + cellAt ns z.k % 2147483647 + 7919 * (z.k + 1))) ok0 sc_take.nd rfl (d_add (d_add (d_mul (d_ixL (dv (d := bagD ns ⟨n0, z.m, z.k + 1⟩) 0) d_int (atI_nat (j := 1) rfl)) d_int (cmulR (by decide))) (d_mod (d_int1 (dv 2) T.b.int) d_int pm)) (d_mul d_int (d_ixL (dv (d := bagD ns ⟨n0, z.m, z.k + 1⟩) 0) d_int (atI_nat (j := 2) rfl)) (.inl (by decide)))) loose_int) ?_
    have hm := mod_lt (x := z.m * 48271 + cellAt ns z.k % 2147483647 + 7919 * (z.k + 1)) pm
    refine dbs_one (DB.weak (db_store (z1 := ⟨n0, (z.m * 48271 + cellAt ns z.k % 2147483647 + 7919 * (z.k + 1)) % 2147483647, z.k + 1⟩) (j := 1) (jn := 1) ok0 rfl (d_mod (d_int1 (dv 3) T.b.int) d_int pm) ⟨hn0, hm.1, hm.2, by show 0 ≤ z.k + 1; omega, bo.pos, bo.few⟩ rfl fun _ => rfl) fun x y ⟨e1, e2⟩ => ⟨?_, ?_⟩)
    · rw [e1]; exact ((WkS.refl _).put rfl).put rfl
    · rw [e2]; exact ⟨hn0, hm.1, hm.2, by show 0 ≤ z.k + 1; omega, bo.pos, bo.few⟩
  · refine DBs.forget ?_ wk
    refine dbs_consR (N1 := fun x y => x = slots ["_law_bag_here", "_law_many", "_law_cell", "_law_mixed", "_law_drawn_here", "_law_early", "_law_second"] [.raw (.ref b), .int many] ∧ y = z1) (db_if (p := decide (0 < z1.n)) ok0 rfl (c_gt (d_ixL (dv (d := bagD ns z1) 0) d_int (atI_nat (j := 0) rfl)) d_int).t (fun hp => ?_) fun _ => dbs_nil ⟨rfl, rfl⟩) fun x y ⟨e1, e2⟩ => ?_
    · have h1 := mod_lt (x := z1.n) (m := many) (by omega)
      have h2 : 0 ≤ z1.n / many := Int.ediv_nonneg bo1.n (by omega)
      exact dbs_cons (z1 := ⟨z1.n / many, z1.m, z1.k⟩) (db_par (i := 4) (va := z1.n % many) (vb := z1.n / many) ok0 sc_take.nd rfl (by decide) (d_mod (d_int1 (d_ixL (dv (d := bagD ns z1) 0) d_int (atI_nat (j := 0) rfl)) T.b.int) (dv 1) (by omega)) (d_fdiv (d_int1 (d_ixL (dv (d := bagD ns z1) 0) d_int (atI_nat (j := 0) rfl)) T.b.int) (dv 1) ⟨by omega, hm2⟩) ⟨h2, bo1.m, bo1.m2, bo1.k, bo1.pos, bo1.few⟩ (fun _ => rfl) rfl)
        (dbs_one (db_ret ok0 rfl (DX.weak (dv (d := .int (z1.n % many)) 4) fun d r => by rw [show d = _ from r]; exact gives _ h1.1 h1.2) loose))
    · subst e1 e2
      have b1 := bo1.m
      have b2 := bo1.m2
      have q1 : (0 : Int) < 1000000007 := by decide
      have q2 : (0 : Int) < 998244353 := by decide
      have m1 := mod_lt (x := (y.m + 1) * 39373) q1
      have m2 := mod_lt (x := ((y.m + 1) * 39373) % 1000000007 * (((y.m + 1) * 39373) % 1000000007)) q2
      generalize hE : ((y.m + 1) * 39373) % 1000000007 = E at m1 m2
      have m3 := mod_lt (x := E * E % 998244353 * 30011) q2
      have m4 := mod_lt (x := E * E % 998244353 * 30011 % 998244353 / 7) (m := many) (by omega)
      refine dbs_cons (z1 := y) (db_set (i := 5) (d := .int E) ok0 sc_take.nd rfl (DV.to (d_mod (d_int1 (d_mul (d_add (d_ixL (dv (d := bagD ns y) 0) d_int (atI_nat (j := 1) rfl)) d_int) d_int (cmulR (by decide))) T.b.int) d_int q1) (congrArg D.int hE)) loose_int) ?_
      refine dbs_cons (z1 := y) (db_set (i := 6) (d := .int (E * E % 998244353 * 30011 % 998244353)) ok0 sc_take.nd rfl (d_mod (d_int1 (d_mul (d_mod (d_int1 (d_mul (dv (d := .int E) 5) (dv (d := .int E) 5) (cmulR ⟨by omega, by omega⟩)) T.b.int) d_int q2) d_int (cmulR (by decide))) T.b.int) d_int q2) loose_int) ?_
      exact dbs_one (db_ret ok0 rfl (DX.weak (d_mod (d_int1 (d_fdiv (dv (d := .int (E * E % 998244353 * 30011 % 998244353)) 6) d_int ⟨by decide, by decide⟩) T.b.int) (dv 1) (by omega)) fun d r => by rw [show d = _ from r]; exact gives _ m4.1 m4.2) loose)
end BB
set_option maxHeartbeats 1000000
namespace DL
open PySem PySem.Spec PyProof.Rows L2 SO
/-! ### defs that return a new list of their own -/
def spF (K : PySem.W.Frag) (Pre : Mu → List D → Prop) (Rt : List D → List D → Prop) : Sp := fun vs H Q _ => ∃ M G l, Ok M G H ∧ Dts K G vs l ∧ Pre M l ∧
  ∀ l' ws p G' H', Rt l l' → Gr M G H G' H' → H p = none → G' p = none → H' p = some (.lst ws) → Dts K G' ws l' → Q (.ref p) H'
structure FnF (P : Program) (w : World) (K : PySem.W.Frag) (mg : Str → Option Value) (base : Heap) (x : Str) (k : Nat) (Pre : Mu → List D → Prop) (Rt : List D → List D → Prop) : Prop where
  ex : ∃ f fd ps, FnOk P w K mg base CX0 k f fd ps (spF K Pre Rt) ∧ mg x = some (.ref f) ∧ PySem.W.keepIn K (.ref f) = true ∧ Binds K fd ps []
theorem FnOk.impS {P : Program} {w : World} {K : PySem.W.Frag} {mg : Str → Option Value} {base : Heap} {k : Nat} {f : Addr} {fd : FuncData} {ps : List Str} {sp sp2 : Sp} (F : FnOk P w K mg base CX0 k f fd ps sp) (h : ∀ vs H Q E, sp2 vs H Q E → sp vs H Q E) : FnOk P w K mg base CX0 k f fd ps sp2 :=
  ⟨fun vs H Q E z => F.len vs H Q E (h vs H Q E z), fun A outer s H args us vs Q E hr e0 hb r z => F.run A outer s H args us vs Q E hr e0 hb r (h vs H Q E z)⟩
/-- .. taken as known -/
theorem FnF.toT {P : Program} {w : World} {K : PySem.W.Frag} {mg : Str → Option Value} {base : Heap} {x : Str} {k : Nat} {Pre : Mu → List D → Prop} {Rt : List D → List D → Prop} (F : FnF P w K mg base x k Pre Rt) : FnT P w K mg base x k Pre (fun l d => ∃ l', d = .lst l' ∧ Rt l l') := by
  obtain ⟨f, fd, ps, a, b, c, d⟩ := F.ex
  refine ⟨f, fd, ps, FnOk.impS a fun vs H Q E ⟨M, G, l, ok, t, p, q⟩ => ⟨M, G, l, ok, t, p, fun l' ws p G' H' r g h1 h2 h3 t' => ?_⟩, b, c, d⟩
  have gk := g.know ok h1 h2 h3 (fun ps z => by cases z)
  exact q (.lst l') (.ref p) _ H' ⟨l', rfl, r⟩ gk (.lst upd_same (t'.mono (same_upd h2)))
theorem FnF.mono {P : Program} {w : World} {K : PySem.W.Frag} {mg : Str → Option Value} {base : Heap} {x : Str} {j k : Nat} {Pre : Mu → List D → Prop} {Rt : List D → List D → Prop} (F : FnF P w K mg base x j Pre Rt) (h : j ≤ k) : FnF P w K mg base x k Pre Rt := let ⟨f, fd, ps, a, b, c, d⟩ := F.ex; ⟨f, fd, ps, a.mono h, b, c, d⟩
/-- an expression that makes a new list of its own -/
def tDF (M : Mu) (K : PySem.W.Frag) (ds : DS) (Rl : List D → Prop) : TE := fun σ H Q => ∃ G, Sl K G σ ds ∧ Ok M G H ∧ ∀ l ws p G' H', Rl l → Gr M G H G' H' → H p = none → G' p = none → H' p = some (.lst ws) → Dts K G' ws l → Q (.ref p) H'
abbrev DF (X : Cx) (M : Mu) (e : Expr) (ds : DS) (Rl : List D → Prop) : Prop := PE X e (tDF M X.K ds Rl)
theorem fn_defF {P : Program} {w : World} {K : PySem.W.Frag} {mg : Str → Option Value} {base : Heap} {k : Nat} {N ps : List Str} {x : Str} {Pre : Mu → List D → Prop} {Rt : List D → List D → Prop} {st : Stmt} (F : FnAt K mg x st) (S : FnScope N ps (defScope st)) (hbd : ∀ (kV doc pm : Value) (an : Option Addr) (cdv ct : Value) (us : List Value), us.length = ps.length → bindArgs (PySem.W.fnOf x x (defArgs st) (defBody st) (defScope st) .none kV doc pm an cdv ct) ⟨us, []⟩ = pure (ps.zip us))
    (hl : ∀ M l, Pre M l → l.length = ps.length)
    (hb : ∀ (f : Addr) (cdv : Value) (A : Around) (outer : List Env) (s : Shared) (H : Hp) (E : XK) (M : Mu) (l : List D), Room k (A.deeper (envOfC x (defScope st) s.heap.objs.size f cdv)) → Pre M l → ∀ (G : Hp) (vs : List V) (Q : VK), Ok M G H → Dts K G vs l →
      (∀ l' ws p G' H', Rt l l' → Gr M G H G' H' → H p = none → G' p = none → H' p = some (.lst ws) → Dts K G' ws l' → Q (.ref p) H') →
      ∃ t, PSs (cxOf CX0 P w K mg base N x (defScope st) f cdv A outer s H E).nox (defBody st) t ∧ t { nx := fun _ H' => Q .non H', rt := Q } (L2.start N vs) H) : FnF P w K mg base x (k + 1) Pre Rt := by
  obtain ⟨f, fd, F, hm⟩ := F.ex
  refine ⟨f, fd, ps, F.ok S (fun vs H Q E ⟨M, G, l, ok, t, p, _⟩ => t.length.trans (hl M l p)) fun cdv A outer s H vs Q E hr ⟨M, G, l, ok, t, p, q⟩ => ?_, hm, F.kp, F.bindsN hbd⟩
  obtain ⟨t', h, z⟩ := hb f cdv A outer s H E M l hr p G vs Q ok t q
  exact ⟨t', PSs.nox h, z⟩
end DL
set_option maxHeartbeats 1000000
namespace DL
open PySem PySem.Spec PyProof.Rows L2 SO
section
variable {K : PySem.W.Frag} {M : Mu} {G0 H0 G H : Hp} {p : Addr} {ws : List V} {r : List D} {ds : DS} {σ : L2.St} {i : Nat}
/-- a list of one's own known while an expression is read -/
theorem lst_eval {R : D → Prop} {Q : VK} (hi : ds[i]? = some (some (.raw (.ref p)))) (s : Sl K G σ ds) (g : Gr M G0 H0 G H) (ok0 : Ok M G0 H0) (hp : H0 p = none) (hG : G p = none) (hH : H p = some (.lst ws)) (t : Dts K G ws r)
    (q : ∀ d v G1 H1, R d → Gr M G0 H0 G1 H1 → Same G G1 → G1 p = none → H1 p = some (.lst ws) → (∀ a o, H a = some o → ¬ Imm o → M.bag ≠ some a → H1 a = some o) → (∀ a, G a = none → (∃ o, H a = some o ∧ ¬ Imm o) → G1 a = none) → (Loose d → Dt K G1 v d) → Q v H1) : tD M K (ds.set i (some (.lst r))) R σ H Q := by
  have gk := g.know ok0 hp hG hH (fun ps z => by cases z)
  have ex : Same G (upd G p (.lst ws)) := same_upd hG
  have at0 := raw_at s hi
  have s2 : Sl K (upd G p (.lst ws)) σ (ds.set i (some (.lst r))) := by
    have s3 := (s.mono ex).set i (Dt.lst (K := K) (upd_same (H := G) (a := p) (o := .lst ws)) (t.mono ex))
    have e : σ.set i (some (.ref p)) = σ := by
      refine List.ext_getElem? fun j => ?_
      by_cases q : i = j
      · subst q
        rw [List.getElem?_set_self (List.getElem?_eq_some_iff.mp at0).1, at0]
      · rw [List.getElem?_set_ne q]
    rwa [e] at s3
  refine ⟨_, s2, gk.ok, fun d v G1 H1 hr g1 t1 => ?_⟩
  have kn : G1 p = some (.lst ws) := g1.ex _ _ upd_same
  refine q d v (del G1 p) H1 hr ((gk.trans ok0 g1).unknow ok0 hp) (fun a o e => by rw [del_ne (ne_of_none e hG)]; exact g1.ex _ _ (ex _ _ e)) del_same (g1.ok.sub _ _ kn) (fun a o e ni nb => g1.fr a o e nb fun _ ps z => ni (.inl ⟨ps, z⟩)) (fun a ha ⟨o, ho, ni⟩ => ?_) fun l => l K G1 _ v (fun a o e n => by
    rw [del_ne fun z => by rw [z, kn] at e; exact n _ (Option.some.inj e).symm]; exact e) t1
  by_cases h : a = p
  · rw [h]; exact del_same
  · rw [del_ne h]
    cases z : G1 a with
    | none => rfl
    | some u =>
      rcases g1.nw a (by rw [z]; simp) with y | y
      · rw [upd_ne h] at y; exact absurd ha y
      · exact absurd (y o ho) ni
end
end DL
set_option maxHeartbeats 1000000
namespace BB
open PySem PySem.Spec PyProof.Rows L2 DL SO PySem.W
variable {P : Program} {w : World} {K : PySem.W.Frag} {mg : Str → Option Value} {base : Heap}
structure Fl2 (K : PySem.W.Frag) (mg : Str → Option Value) : Prop where
  l1 : Fl1 K mg
  mix : FnAt K mg "_law_mix" (top 61)
theorem sc_mix : FnScope ["_law_bag_here", "_law_some_here", "_law_rest", "_law_found"] ["_law_bag_here", "_law_some_here"] (defScope (top 61)) := ⟨rfl, rfl, rfl, by decide +kernel, rfl, by decide +kernel, by decide +kernel⟩
/-- what is mixed: a list of flat data, not too many -/
structure MixOk (xs : List D) : Prop where
  shp : ∀ x ∈ xs, Shp 8 x
  few : xs.length ≤ 1000000
def mixPre (M : Mu) (l : List D) : Prop := ∃ b xs, M.bag = some b ∧ l = [.raw (.ref b), .lst xs] ∧ MixOk xs
def mixRt (l : List D) (r : List D) : Prop := ∃ x xs, l = [x, .lst xs] ∧ r.Perm xs
theorem erase_perm2 {α : Type} {l : List α} {i : Nat} {x : α} (h : l[i]? = some x) : (x :: l.eraseIdx i).Perm l := by
  induction l generalizing i with
  | nil => cases h
  | cons a l ih =>
    cases i with
    | zero => cases h; exact List.Perm.refl _
    | succ i =>
      have := ih (i := i) (by simpa using h)
      exact (List.Perm.swap a x _).trans (this.cons a)
theorem dts_erase {K : PySem.W.Frag} {G : Hp} : ∀ {vs : List V} {ds : List D} (i : Nat), Dts K G vs ds → Dts K G (vs.eraseIdx i) (ds.eraseIdx i)
  | _, _, _, .nil => .nil
  | _, _, 0, .cons _ t => t
  | _, _, i + 1, .cons h t => .cons h (dts_erase i t)
abbrev mixDs (b p q : Addr) (xs : List D) : DS := [some (.raw (.ref b)), some (.lst xs), some (.raw (.ref p)), some (.raw (.ref q))]
/-- where the two lists stand -/
structure MixAt (M : Mu) (K : PySem.W.Frag) (G0 H0 : Hp) (b : Addr) (xs : List D) (σ : L2.St) (H G : Hp) (p q : Addr) (r f : List D) (ws vs : List V) : Prop where
  sl : Sl K G σ (mixDs b p q xs)
  gr : Gr M G0 H0 G H
  hp : H0 p = none
  hq : H0 q = none
  ne : p ≠ q
  gp : G p = none
  gq : G q = none
  lp : H p = some (.lst ws)
  lq : H q = some (.lst vs)
  tw : Dts K G ws r
  tv : Dts K G vs f
  pm : (f ++ r).Perm xs
theorem fn_mix (T : Fk K mg) (L : Fl2 K mg) : FnF P w K mg base "_law_mix" 3 mixPre mixRt := by
  refine fn_defF L.mix sc_mix (fun _ _ _ _ _ _ us hl => match us, hl with | [_, _], _ => rfl) (fun M l ⟨b, xs, _, e, _⟩ => by rw [e]; rfl) fun f cdv A outer s H E M l hr ⟨b, xs, hb, e, mo⟩ G vs Q ok t fin => ?_
  subst e
  have hr1 : Room 1 _ := hr.mono (by decide)
  refine ⟨_, pss_cons (ps_par (i := 2) (j := 3) rfl sc_mix.nd rfl rfl (by decide) rfl rfl (pa_cons (pe_callTy call_list_of rfl T.b.list rfl (pa_cons (pe_var (i := 1) rfl (.inl rfl)) pa_nil)) (pa_cons (pe_lst pa_nil) pa_nil)) rfl)
    (pss_cons (ps_while PassesOwn.never
      (PT.ex (ι := Addr × Addr × List D) (P := fun y => ∀ x ∈ y.2.2, Shp 8 x) (t := fun y => tDT M K ((mixDs b y.1 y.2.1 xs).set 2 (some (.lst y.2.2))) (Is (!y.2.2.isEmpty)))
        fun y hy => (c_neD (n := 9) (hu64 hr) (dv (d := .lst y.2.2) 2) (d_lst da_nil) (shp_lst hy) (shp_nil.mono (by decide)) (by decide) (eqv_nil _)).t)
      (pss_one (ps_expr (pe_bm F.plainAttrs_list F.slot_list_append F.type_list_append mt_append (pe_var (i := 3) rfl (.inl rfl)) (pa_cons (pe_bm F.plainAttrs_list F.slot_list_pop F.type_list_pop mt_popAt (pe_var (i := 2) rfl (.inl rfl)) (pa_cons
        (PE.ex (ι := Addr × Addr × List D) (P := fun y => y.2.2 ≠ [] ∧ y.2.2.length ≤ 1000000) (t := fun y => tD M K ((mixDs b y.1 y.2.1 xs).set 2 (some (.lst y.2.2))) (fun d => ∃ i : Int, d = .int i ∧ 0 ≤ i ∧ i < y.2.2.length))
          fun y hy => dx_call (fn_take T L.l1) hr1 Le.rfl' (da_cons (dv (d := .raw (.ref b)) 0) (da_1 (d_len (m := y.2.2.length) (dv (d := .lst y.2.2) 2) (.inl ⟨_, rfl, rfl⟩) T.b.len))) fun l e => by
            rw [show l = _ from e]
            have h1 : 1 ≤ y.2.2.length := List.length_pos_iff.mpr hy.1
            exact ⟨⟨b, _, hb, rfl, by omega, by have := hy.2; omega⟩, fun d ⟨x, many, i, z, ed, i1, i2⟩ => ⟨i, ed, i1, by injection z with _ z; injection z with z _; rw [D.int.inj z]; exact i2⟩⟩) pa_nil)) pa_nil)))))
      (pss_one (ps_ret (pe_var (i := 3) rfl (.inl rfl))))), ?_⟩
  cases t with
  | cons t1 t =>
    cases t with
    | cons t2 t3 =>
      cases t3
      cases t1
      cases t2 with
      | lst hx sx =>
        rename_i a ys
        refine ⟨.ref a, rfl, a, ys, rfl, .inl (SqL.of (ok.sub _ _ hx)), fun p hp => ?_⟩
        refine ⟨by decide, fun q hq => ?_⟩
        have hqH : H q = none := by
          cases z : H q with
          | none => rfl
          | some o => rw [upd_ne (ne_of_none z hp)] at hq; rw [z] at hq; cases hq
        have ne : p ≠ q := fun z => by rw [z, upd_same] at hq; cases hq
        have g1 := Gr.drop (o := .lst ys) ok hp (fun ps z => by cases z)
        have g2 := g1.trans ok (Gr.drop (o := .lst []) g1.ok hq (fun ps z => by cases z))
        have gp := ok.sub.free hp
        have gq := ok.sub.free hqH
        refine ⟨.ref p, .ref q, rfl, ?_⟩
        have st : MixAt M K G H b xs ((L2.start ["_law_bag_here", "_law_some_here", "_law_rest", "_law_found"] [.ref b, .ref a]).set 2 (some (.ref p)) |>.set 3 (some (.ref q))) (upd (upd H p (.lst ys)) q (.lst [])) G p q xs [] ys [] := by
          refine ⟨?_, g2, hp, hqH, ne, gp, gq, by rw [upd_ne ne, upd_same], upd_same, sx, .nil, List.Perm.refl _⟩
          exact ((Sl.start (N := ["_law_bag_here", "_law_some_here", "_law_rest", "_law_found"]) (es := [.raw (.ref b), .lst xs]) (.cons (.raw _) (.cons (.lst hx sx) .nil))).set 2 (.raw (.ref p))).set 3 (.raw (.ref q))
        refine ⟨fun m σ H' => ∃ p q r f ws vs G', m = r.length ∧ MixAt M K G H b xs σ H' G' p q r f ws vs, ⟨_, p, q, xs, [], ys, [], G, rfl, st⟩, ?_⟩
        rintro m σ H1 ⟨p, q, r, fd, ws, us, G1, rfl, A⟩
        have shp : ∀ x ∈ r, Shp 8 x := fun x hx => mo.shp x (A.pm.mem_iff.mp (List.mem_append_right _ hx))
        have len : r.length ≤ 1000000 := by
          have := A.pm.length_eq
          rw [List.length_append] at this
          have := mo.few
          omega
        have next : ∀ {G2 H2}, Gr M G H G2 H2 → Same G1 G2 → G2 p = none → H2 p = some (.lst ws) → (∀ a o, H1 a = some o → ¬ Imm o → M.bag ≠ some a → H2 a = some o) → (∀ a, G1 a = none → (∃ o, H1 a = some o ∧ ¬ Imm o) → G2 a = none) → MixAt M K G H b xs σ H2 G2 p q r fd ws us := fun g2 e2 n1 n2 k1 k2 =>
          ⟨A.sl.mono e2, g2, A.hp, A.hq, A.ne, n1, k2 q A.gq ⟨_, A.lq, imm_lst⟩, n2, k1 q _ A.lq imm_lst (ok.nbag A.hq), A.tw.mono e2, A.tv.mono e2, A.pm⟩
        refine ⟨(p, q, r), shp, tdt_of (lst_eval (i := 2) rfl A.sl A.gr ok A.hp A.gp A.lp A.tw fun d v G2 H2 ⟨pp, ed, rr⟩ g2 e2 n1 n2 k1 k2 tl => ?_)⟩
        subst ed
        have rr : pp = !r.isEmpty := rr
        cases tl loose_bl
        refine ⟨pp, rfl, ?_⟩
        have A2 := next g2 e2 n1 n2 k1 k2
        cases hq2 : r.isEmpty with
        | true =>
          rw [hq2] at rr
          subst rr
          refine iteF ?_
          have r0 : r = [] := List.isEmpty_iff.mp hq2
          subst r0
          refine ⟨.ref q, raw_at A2.sl rfl, ?_⟩
          exact fin fd us q G2 H2 ⟨_, xs, rfl, by have := A2.pm; rwa [List.append_nil] at this⟩ A2.gr A2.hq A2.gq A2.lq A2.tv
        | false =>
          rw [hq2] at rr
          subst rr
          refine iteT ?_
          have rne : r ≠ [] := fun z => by rw [z] at hq2; cases hq2
          refine ⟨fun σ' H' => ∃ p q r' f ws vs G', r'.length < r.length ∧ MixAt M K G H b xs σ' H' G' p q r' f ws vs, fun σ' H' ⟨p, q, r', f, ws, vs, G', lt, B⟩ => ⟨r'.length, lt, p, q, r', f, ws, vs, G', rfl, B⟩, ?_⟩
          refine ⟨.ref q, raw_at A2.sl rfl, .inl ⟨rfl, us, SqL.of A2.lq⟩, ?_⟩
          refine ⟨.ref p, raw_at A2.sl rfl, .inl ⟨rfl, ws, SqL.of A2.lp⟩, ?_⟩
          refine ⟨(p, q, r), ⟨rne, len⟩, lst_eval (i := 2) rfl A2.sl A2.gr ok A2.hp A2.gp A2.lp A2.tw fun d v G3 H3 ⟨i, ed, i1, i2⟩ g3 e3 m1 m2 j1 j2 tl => ?_⟩
          subst ed
          cases tl loose_int
          have A3 : MixAt M K G H b xs σ H3 G3 p q r fd ws us := ⟨A2.sl.mono e3, g3, A2.hp, A2.hq, A2.ne, m1, j2 q A2.gq ⟨_, A2.lq, imm_lst⟩, m2, j1 q _ A2.lq imm_lst (ok.nbag A2.hq), A2.tw.mono e3, A2.tv.mono e3, A2.pm⟩
          have wl := A3.tw.length
          have i2 : i < (r.length : Int) := i2
          have lt : i.toNat < r.length := by omega
          have ir : r[i.toNat]? = some r[i.toNat] := List.getElem?_eq_getElem lt
          obtain ⟨y, hy, ty⟩ := A3.tw.get ir
          refine ⟨p, ws, i, i.toNat, y, rfl, rfl, A3.lp, by omega, by omega, seqIndex_of i1 (by omega), hy, ?_⟩
          have lq3 : upd H3 p (.lst (ws.eraseIdx i.toNat)) q = some (.lst us) := by rw [upd_ne (Ne.symm A3.ne)]; exact A3.lq
          have ul := A3.tv.length
          have pl := A3.pm.length_eq
          rw [List.length_append] at pl
          refine ⟨q, us, y, rfl, rfl, lq3, by have := mo.few; rw [sizeLine_eq]; omega, ?_⟩
          have nt : ∀ (vs : List V) (ps : Array Value), HO.lst vs ≠ .tbl ps := fun _ _ z => by cases z
          have nc : ∀ (vs : List V) (pos : Addr) (cv : Str), HO.lst vs ≠ LamX.CodeO pos cv := fun _ _ _ z => by unfold LamX.CodeO at z; cases z
          have g4 := A3.gr.poke ok A3.hp A3.gp A3.lp (nt _) (nc _) (u := .lst (ws.eraseIdx i.toNat))
          have g5 := g4.poke ok A3.hq A3.gq lq3 (nt _) (nc _) (u := .lst (us ++ [y]))
          refine ⟨p, q, r.eraseIdx i.toNat, fd ++ [r[i.toNat]], ws.eraseIdx i.toNat, us ++ [y], G3, by rw [List.length_eraseIdx_of_lt lt]; omega, A3.sl, g5, A3.hp, A3.hq, A3.ne, A3.gp, A3.gq, by rw [upd_ne A3.ne, upd_same], upd_same, dts_erase _ A3.tw, A3.tv.append (.cons ty .nil), ?_⟩
          rw [List.append_assoc]
          exact (List.Perm.append_left fd (erase_perm2 ir)).trans A3.pm
end BB
set_option maxHeartbeats 1000000
namespace BB
open PySem PySem.Spec PyProof.Rows L2 DL SO PySem.W
variable {P : Program} {w : World} {K : PySem.W.Frag} {mg : Str → Option Value} {base : Heap}
structure Fl3 (K : PySem.W.Frag) (mg : Str → Option Value) : Prop where
  pairs : FnAt K mg "_law_pairs" (top 63)
  every : FnAt K mg "_law_every" (top 72)
theorem sc_pairs : FnScope ["_law_things", "_law_found", "_law_x", "_law_y"] ["_law_things"] (defScope (top 63)) := ⟨rfl, rfl, rfl, by decide +kernel, rfl, by decide +kernel, by decide +kernel⟩
theorem pairs_len (xs ys : List Str) : ((xs.flatMap fun x => (ys.filter fun y => decide (y ≠ x)).map fun y => (x, y)) : List Pr).length ≤ xs.length * ys.length := by
  induction xs with
  | nil => simp
  | cons x xs ih =>
    rw [List.flatMap_cons, List.length_append, List.length_map, List.length_cons, Nat.succ_mul]
    have := List.length_filter_le (fun y => decide (y ≠ x)) ys
    omega
theorem fn_pairs (T : Fk K mg) (L : Fl3 K mg) (xs : List Str) (few : xs.length ≤ 100) : FnT P w K mg base "_law_pairs" 1 (fun M l => l = [.lst (dNs xs)]) (fun _ => Is (.lst ((pairsOf (srtF D.str xs)).map dPr))) := by
  refine fn_def L.pairs sc_pairs (fun _ _ _ _ _ _ us hl => match us, hl with | [_], _ => rfl) (fun M l e => by rw [e]; rfl) fun f cdv A outer s H E M l hr e => ?_
  subst e
  have hz : xs.length ≤ sizeLine := Nat.le_trans few (by decide)
  have hsl : (srtF D.str xs).length ≤ 100 := by rw [srt_len]; exact few
  have line : DV (cxOf CX0 P w K mg base ["_law_things", "_law_found", "_law_x", "_law_y"] "_law_pairs" (defScope (top 63)) f cdv A outer s H E).nox M (.Name "x" ⟨0,0,0,0⟩) [] .non → True := fun _ => trivial
  refine dps_of_dms fun G0 H0 ok0 => dms_phase (C1 := fun q => cLst K q) (c0 := []) (o0 := .lst []) (toD := D.lst) (N := fun q ds' c' => ds' = (slots ["_law_things", "_law_found", "_law_x", "_law_y"] [.lst (dNs xs)]).set 1 (some (.raw (.ref q))) ∧ c' = (pairsOf (srtF D.str xs)).map dPr) 1 ok0 ck_unit sc_pairs.nd cre_lst (fun _ z => by cases z) ini_lst (fun _ => kn_lst)
    (fun G1 H1 q ok1 hq => ?_) (fun q ds' c' ⟨e, _⟩ => by rw [e]; rfl) (fun q ds' c' ⟨e1, e2⟩ => ?_)
  · refine DM.weak (dm_forW (u := fun d ds => ds.set 2 (some d)) (Re := Is (dNs (srtF D.str xs))) (I := fun i c => c = (((srtF D.str xs).take i).flatMap fun x => ((srtF D.str xs).filter fun y => decide (y ≠ x)).map fun y => (x, y)).map dPr) ok1 (ck_lst ok1 hq) PassesOwn.never rfl (di_lstV (DV.to (d_sorted (hu64 hr) (dv (d := .lst (dNs xs)) 0) (.inl rfl) (sortD_str hz) T.b.sorted) (by rw [srtD_map]))) (pg_name (i := 2) sc_pairs.nd rfl (Or.inr rfl)) um1 (fun _ _ _ => tg1) rfl fun i d c1 h hc => ?_) fun x1 y1 ⟨e1, els, e2, e3⟩ => ⟨e1, by rw [e3, show els = _ from e2, List.length_map, List.take_length]; rfl⟩
    obtain ⟨x, hx, rfl⟩ := el_map h
    have hlen : c1.length ≤ 10000 := by
      rw [hc, List.length_map]
      have h1 := pairs_len ((srtF D.str xs).take i) (srtF D.str xs)
      have h2 : ((srtF D.str xs).take i).length ≤ 100 := by rw [List.length_take]; omega
      have h3 : ((srtF D.str xs).take i).length * (srtF D.str xs).length ≤ 100 * 100 := Nat.mul_le_mul h2 hsl
      omega
    have hfl : ((srtF D.str xs).filter fun y => decide (y ≠ x)).length ≤ 100 := Nat.le_trans (List.length_filter_le _ _) hsl
    refine dms_one (DM.weak (dm_extend (i := 1) (m := (((srtF D.str xs).filter fun y => decide (y ≠ x)).map fun y => (x, y)).map dPr) ok1 hq rfl ?_ (by rw [List.length_map, List.length_map, sizeLine_eq]; omega)) fun x1 y1 ⟨e1, e2⟩ => ⟨by rw [e1]; exact (WkS.refl _).put rfl, ?_⟩)
    · rw [List.map_map]
      refine d_lcIf (F := D.str) (f := dPr ∘ fun y => (x, y)) (t := fun y => decide (y ≠ x)) (own := [("_law_y", 3)]) (is := [3]) (u := fun d ds => ds.set 3 (some d)) rfl sc_pairs.nd (.inl (di_lstV (DV.to (d_sorted (hu64 hr) (dv (d := .lst (dNs xs)) 0) (.inl rfl) (sortD_str hz) T.b.sorted) (by rw [srtD_map])))) (blkOk_by (by rfl)) (fun _ _ _ _ _ => pg_name (i := 3) sc_pairs.nd rfl (Or.inl rfl)) (fun _ _ => tg1) (by decide)
        (fun _ _ _ _ _ y hy => ((c_neS (dv 3) (dv (d := .str x) 2)).to (by simp)).t) (fun _ _ _ _ _ y hy _ => d_tup (da_cons (dv (d := .str x) 2) (da_1 (dv 3))) (by simp)) (Nat.le_trans hsl (by decide))
    · rw [e2, hc, show (srtF D.str xs).take (i + 1) = (srtF D.str xs).take i ++ [x] from by rw [List.take_succ, hx]; rfl, List.flatMap_append, List.map_append]
      simp
  · subst e1 e2
    exact DMs.weak (dms_of ok0 ck_unit (N := fun _ => False) (dps_one (dp_ret (dv (d := .lst ((pairsOf (srtF D.str xs)).map dPr)) 1)))) fun _ _ z => z.1.elim
end BB
set_option maxHeartbeats 1000000
namespace DL
open PySem PySem.Spec PyProof.Rows L2 SO
/-! ### list(text), dict(a list of pairs) -/
def oneV (c : Nat) : V := .str ⟨#[c]⟩
theorem vals_signs {z : Str} : ∀ (k : Nat) (us : List Value), us.length = k → (∀ (j : Nat) (v : Value), us[j]? = some v → ∃ c u, z.cps[j]? = some c ∧ v = Value.str ⟨#[c]⟩ u) → Vals ((z.cps.toList.take k).map oneV) us
  | 0, [], _, _ => .nil
  | k + 1, us, hl, h => by
    obtain ⟨ws, w, rfl⟩ : ∃ ws w, us = ws ++ [w] := ⟨us.dropLast, us.getLast (by intro e; rw [e] at hl; cases hl), (List.dropLast_concat_getLast _).symm⟩
    rw [List.length_append] at hl
    have hw : ws.length = k := by simpa using hl
    obtain ⟨c, u, e1, e2⟩ := h k w (by rw [← hw]; simp)
    have ih := vals_signs k ws hw fun j v e => h j v (by
      have := (List.getElem?_eq_some_iff.mp e).1
      rw [List.getElem?_append_left this]; exact e)
    have e1 : z.cps.toList[k]? = some c := by rw [Array.getElem?_toList]; exact e1
    rw [List.take_succ, e1]
    show Vals ((z.cps.toList.take k ++ [c]).map oneV) (ws ++ [w])
    rw [List.map_append]
    have app : ∀ {a b : List V} {u v : List Value}, Vals a u → Vals b v → Vals (a ++ b) (u ++ v) := fun {a b u v} h1 h2 => by
      induction h1 with
      | nil => exact h2
      | cons r _ ih => exact .cons r ih
    exact app ih (.cons (show RelV (oneV c) w from ⟨u, e2⟩) .nil)
theorem call_list_S {X : Cx} (hc : X.calm = true) : CallR X (.type "list") (fun xs H Q => ∃ z : Str, xs = [.str z] ∧ z.length ≤ sizeLine ∧ ∀ l, H l = none → Q (.ref l) (upd H l (.lst (z.cps.toList.map oneV)))) := by
  intro pins s σ H xs us Q I r ⟨z, ex, hz, q⟩
  subst ex
  obtain ⟨u, rfl, rx⟩ := vals1 r
  obtain ⟨t, rfl⟩ := rx
  have hz' : z.cps.size ≤ sizeLine := hz
  refine call_list_str (I.ok.hd hc) z t (hn := hz') fun h' tk acc c' k hS hacc => ?_
  have v := vals_signs (z := z) z.cps.size acc.toList (by simpa using hacc.1) fun j w e => hacc.2 j w (by rw [Array.getElem?_toList] at e; exact e)
  rw [List.take_of_length_le (by simp)] at v
  exact ⟨.ref s.heap.objs.size, _, I.laid (t' := tk) k (Nat.le_refl _) (show ObjOk X.prog X.w _ h' _ (.lst (z.cps.toList.map oneV)) from ⟨by rw [List.length_map, Array.length_toList]; exact hz', acc.toList, c', v, by simpa using hS⟩), rfl, q _ (I.hok.fresh (Nat.le_refl _))⟩
section
variable {X : Cx} {M : Mu} {ds : DS} {e a b c : Expr} {es : List Expr} {R Ra Rb : D → Prop} {pos : Pos}
theorem d_listS {n : Str} {p : Pos} {z : Str} (hc : X.calm = true) (ha : DV X M a ds (.str z)) (hz : z.length ≤ sizeLine) (hm : X.mg n = none) (hg : Gl X n := by rfl) (hv : bootBuiltins n = some (.type "list") := by rfl)
    (hn : n ≠ "__name__" := by decide) (hdb : (n == ("__debug__" : Str)) = false := by decide) (hs : starEach [a] X.env = (false, eval a X.env) :: starEach [] X.env := by rfl) (hpl : (backTo pos (starEach [] X.env)).any (·.1) = false := by rfl) : DV X M (.Call (.Name n p) [a] [] pos) ds (.lst (signsD z)) :=
  dx_callTy (Rl := Is [D.str z]) (call_list_S hc) (da_1 ha hs) (fun m e G H xs Q ok t k => by
    rw [show m = [D.str z] from e] at t
    cases t with
    | cons t1 t2 =>
      cases t2
      cases t1
      refine ⟨z, rfl, hz, fun q hq => ?_⟩
      have s1 : Dts X.K G (z.cps.toList.map oneV) (signsD z) := by
        unfold signsD
        generalize z.cps.toList = l
        induction l with
        | nil => exact .nil
        | cons c l ih => exact .cons (.str _) ih
      obtain ⟨G', g, t⟩ := new_lst ok hq s1
      exact k _ _ _ _ rfl g t) hg hm hv hn hdb hs hpl
theorem merge_nd : ∀ (more kvs : List (Key × V)), ((kvs ++ more).map (·.1)).Nodup → mergeK kvs more = kvs ++ more
  | [], kvs, _ => (List.append_nil _).symm
  | p :: more, kvs, nd => by
    have e : putK kvs p.1 p.2 = kvs ++ [p] := by
      refine putK_new _ ?_
      cases h : valV kvs p.1 with
      | none => rfl
      | some v =>
        rw [List.map_append, List.nodup_append] at nd
        exact absurd rfl (nd.2.2 p.1 (List.mem_map.mpr ⟨(p.1, v), valV_mem h, rfl⟩) p.1 (List.mem_map.mpr ⟨p, List.mem_cons_self, rfl⟩))
    show mergeK (putK kvs p.1 p.2) more = _
    rw [e, merge_nd more (kvs ++ [p]) (by rw [List.append_assoc]; exact nd), List.append_assoc]
    rfl
theorem prd_imp {α β : Type} {F J : α → β → Prop} (h : ∀ a b, F a b → J a b) : ∀ {l : List α} {m : List β}, Paired F l m → Paired J l m
  | _, _, .nil => .nil
  | _, _, .cons r t => .cons (h _ _ r) (prd_imp h t)
theorem prs_of {K : PySem.W.Frag} {G : Hp} : ∀ {kvs : List (Str × D)} {vs : List V}, Dts K G vs (kvs.map fun kv => D.tup [.str kv.1, kv.2]) → ∃ (ps : List Addr) (gs : List V), vs = ps.map V.ref ∧ Dts K G gs (kvs.map (·.2)) ∧ Paired (fun p (kv : Key × V) => SqT K G p [kV kv.1, kv.2]) ps ((kvs.map fun kv => (Sum.inr kv.1 : Key)).zip gs)
  | [], _, t => by cases t; exact ⟨[], [], rfl, .nil, .nil⟩
  | (x, d) :: kvs, _, t => by
    cases t with
    | cons t1 t2 =>
      obtain ⟨ps, gs, rfl, h1, h2⟩ := prs_of t2
      cases t1 with
      | tup ht s =>
        rename_i b us
        cases s with
        | cons s1 s2 =>
          rename_i v1 vr
          cases s1
          cases s2 with
          | cons s3 s4 =>
            rename_i v2 vr2
            cases s4
            exact ⟨b :: ps, v2 :: gs, rfl, .cons s3 h1, .cons ht.sq h2⟩
theorem dx_dictP {n : Str} {p : Pos} (hc : X.calm = true) (ha : DX X M a ds fun x => ∃ kvs : List (Str × D), x = .lst (kvs.map fun kv => .tup [.str kv.1, kv.2]) ∧ (kvs.map (·.1)).Nodup ∧ R (.dk (kvs.map fun kv => (.inr kv.1, kv.2)))) (hm : X.mg n = none) (hg : Gl X n := by rfl) (hv : bootBuiltins n = some (.type "dict") := by rfl)
    (hn : n ≠ "__name__" := by decide) (hdb : (n == ("__debug__" : Str)) = false := by decide) (hs : starEach [a] X.env = (false, eval a X.env) :: starEach [] X.env := by rfl) (hpl : (backTo pos (starEach [] X.env)).any (·.1) = false := by rfl) : DX X M (.Call (.Name n p) [a] [] pos) ds R :=
  dx_callTy (Rl := fun m => ∃ x, m = [x] ∧ ∃ kvs : List (Str × D), x = .lst (kvs.map fun kv => .tup [.str kv.1, kv.2]) ∧ (kvs.map (·.1)).Nodup ∧ R (.dk (kvs.map fun kv => (.inr kv.1, kv.2)))) (call_dictP hc) (da_consR ha da_nil (fun d l h1 h2 => ⟨d, by rw [show l = [] from h2], h1⟩) hs) (fun m e G H xs Q ok t k => by
    obtain ⟨x, rfl, kvs, rfl, nd, r⟩ := e
    cases t with
    | cons t1 t2 =>
      cases t2
      cases t1 with
      | lst h1 s1 =>
        rename_i b us
        obtain ⟨ps, gs, rfl, s2, s3⟩ := prs_of s1
        have hl : gs.length = kvs.length := by rw [s2.length, List.length_map]
        have e1 : ((kvs.map fun kv => (Sum.inr kv.1 : Key)).zip gs).map (·.1) = kvs.map fun kv => (Sum.inr kv.1 : Key) := by
          rw [List.map_fst_zip]; rw [List.length_map, hl]; exact Nat.le_refl _
        have e2 : ((kvs.map fun kv => (Sum.inr kv.1 : Key)).zip gs).map (·.2) = gs := by
          rw [List.map_snd_zip]; rw [List.length_map, hl]; exact Nat.le_refl _
        have nd2 : (kvs.map fun kv => (Sum.inr kv.1 : Key)).Nodup := by
          have : (kvs.map fun kv => (Sum.inr kv.1 : Key)) = (kvs.map (·.1)).map Sum.inr := by rw [List.map_map]; rfl
          rw [this]
          unfold List.Nodup at nd ⊢
          rw [List.pairwise_map]
          exact nd.imp fun h e => h (Sum.inr.inj e)
        refine ⟨b, ps, (kvs.map fun kv => (Sum.inr kv.1 : Key)).zip gs, rfl, SqL.of (ok.sub _ _ h1), ?_, fun q hq => ?_⟩
        · exact prd_imp (fun _ _ h => same_t ok.sub h) s3
        · rw [merge_nd _ [] (by rw [List.nil_append, e1]; exact nd2), List.nil_append]
          have g := Gr.new (o := .dK ((kvs.map fun kv => (Sum.inr kv.1 : Key)).zip gs)) ok hq (fun ps z => by cases z)
          refine k _ _ _ _ r g (.dk (.inl upd_same) ?_ ?_)
          · rw [e1, List.map_map]; rfl
          · rw [e2, List.map_map]; exact s2.mono g.ex) hg hm hv hn hdb hs hpl
end
end DL
set_option maxHeartbeats 1000000
namespace DL
open PySem PySem.Spec PyProof.Rows L2 SO
/-! ### list comprehensions whose items are not told -/
theorem lc_zip {α β : Type} {f : α → β → D} {P : α → β → Prop} : ∀ {xs : List α} {es : List D}, es.length = xs.length → (∀ (i : Nat) (x : α) (e : D), xs[i]? = some x → es[i]? = some e → ∃ y, e = f x y ∧ P x y) →
    ∃ zs : List (α × β), zs.map (·.1) = xs ∧ es = zs.map (fun z => f z.1 z.2) ∧ ∀ z ∈ zs, P z.1 z.2
  | [], [], _, _ => ⟨[], rfl, rfl, fun z h => by cases h⟩
  | [], _ :: _, h, _ => by simp at h
  | _ :: _, [], h, _ => by simp at h
  | x :: xs, e :: es, h, q => by
    obtain ⟨zs, e1, e2, e3⟩ := lc_zip (f := f) (P := P) (xs := xs) (es := es) (by simpa using h) fun i x e h1 h2 => q (i + 1) x e (by simpa using h1) (by simpa using h2)
    obtain ⟨y, e4, e5⟩ := q 0 x e rfl rfl
    refine ⟨(x, y) :: zs, by rw [List.map_cons, e1], by rw [List.map_cons, ← e2, e4], fun z hz => ?_⟩
    rcases List.mem_cons.mp hz with rfl | hz
    · exact e5
    · exact e3 z hz
theorem perm_map {α β : Type} {f : α → β} {l m : List β} (h : l.Perm m) : ∀ {xs : List α}, m = xs.map f → ∃ ys : List α, l = ys.map f ∧ ys.Perm xs := by
  induction h with
  | nil => intro xs e; exact ⟨[], rfl, by cases xs with | nil => exact List.Perm.refl _ | cons _ _ => cases e⟩
  | cons a h ih =>
    intro xs e
    cases xs with
    | nil => cases e
    | cons x xs =>
      rw [List.map_cons] at e
      injection e with e1 e2
      obtain ⟨ys, e3, p⟩ := ih e2
      exact ⟨x :: ys, by rw [List.map_cons, e1, e3], p.cons x⟩
  | swap a b l =>
    intro xs e
    match xs, e with
    | x :: y :: xs, e =>
      rw [List.map_cons, List.map_cons] at e
      injection e with e1 e2
      injection e2 with e2 e3
      exact ⟨y :: x :: xs, by rw [List.map_cons, List.map_cons, e1, e2, e3], List.Perm.swap x y xs⟩
  | trans h1 h2 ih1 ih2 =>
    intro xs e
    obtain ⟨ys, e1, p1⟩ := ih2 e
    obtain ⟨zs, e2, p2⟩ := ih1 e1
    exact ⟨zs, e2, p2.trans p1⟩
section
variable {X : Cx} {M : Mu} {ds : DS} {tg iter elt : Expr} {scope : Scope} {own : List (Str × Nat)} {is : List Nat} {g : TG} {u : D → DS → DS} {pos : Pos}
theorem dx_lcZ {α β : Type} {F : α → D} {f : α → β → D} {P : α → β → Prop} {xs : List α} (hc : X.calm = true) (hN : X.N.Nodup) (fz : DI X M tg iter ds (Is (xs.map F)) ∨ DIF X M tg iter ds (Is (xs.map F))) (ok : BlkOk X.N X.env.scope scope own)
    (hg : ∀ (s : Shared) (H : Hp) (C : Addr) (cl : List (Str × Addr)) (fp : List Addr), PG (X.blk s H scope (compEnvC scope cl C X.env) fp) tg g)
    (tgt : ∀ x ∈ xs, TgOk X.K g is (F x) (u (F x))) (his : ∀ i ∈ is, i ∈ own.map (·.2))
    (he : ∀ (s : Shared) (H : Hp) (C : Addr) (cl : List (Str × Addr)) (fp : List Addr) (x : α), x ∈ xs → DX (X.blk s H scope (compEnvC scope cl C X.env) fp) M elt (u (F x) (wipeD ds (own.map (·.2)))) (fun d => ∃ y, d = f x y ∧ P x y))
    (hz : xs.length ≤ sizeLine) (hs : ∀ x, foldedSetIterable iter X.env x = pure x := by intro _; rfl) :
    DX X M (.ListComp elt [⟨tg, iter, [], 0⟩] scope pos) ds (fun d => ∃ zs : List (α × β), zs.map (·.1) = xs ∧ d = .lst (zs.map fun z => f z.1 z.2) ∧ ∀ z ∈ zs, P z.1 z.2) := by
  have el : ∀ {i : Nat} {d : D}, El (Is (xs.map F)) i d → ∃ x, xs[i]? = some x ∧ d = F x := fun {i d} h => by
    obtain ⟨els, e, h⟩ := h
    rw [show els = _ from e, List.getElem?_map] at h
    cases q : xs[i]? with
    | none => rw [q] at h; cases h
    | some x => rw [q] at h; cases h; exact ⟨x, rfl, rfl⟩
  refine dx_lc (Re := Is (xs.map F)) (Rb := fun i d e => ∃ x, xs[i]? = some x ∧ ∃ y, e = f x y ∧ P x y) (u := u) hc hN fz ok hg (fun i d h => ?_) his (fun s H C cl fp i d h => ?_) (fun els es h1 h2 h3 => ?_) (fun els h1 => by rw [show els = _ from h1, List.length_map]; exact hz) hs
  · obtain ⟨x, hx, rfl⟩ := el h
    exact tgt x (List.mem_of_getElem? hx)
  · obtain ⟨x, hx, rfl⟩ := el h
    exact DX.weak (he s H C cl fp x (List.mem_of_getElem? hx)) fun d r => ⟨x, hx, r⟩
  · subst h1
    obtain ⟨zs, e1, e2, e3⟩ := lc_zip (f := f) (P := P) (xs := xs) (es := es) (by rw [h2, List.length_map]) fun i x e h4 h5 => by
      obtain ⟨x', h6, r⟩ := h3 i (F x) e (by rw [List.getElem?_map, h4]; rfl) h5
      rw [h4] at h6
      cases h6
      exact r
    exact ⟨zs, e1, by rw [e2], e3⟩
end
end DL
set_option maxHeartbeats 1000000
namespace BB
open PySem PySem.Spec PyProof.Rows L2 DL SO PySem.W
variable {P : Program} {w : World} {K : PySem.W.Frag} {mg : Str → Option Value} {base : Heap}
structure Fl4 (K : PySem.W.Frag) (mg : Str → Option Value) : Prop where
  l2 : Fl2 K mg
  l3 : Fl3 K mg
  pick : FnAt K mg "_law_pick" (top 60)
  worths : FnAt K mg "_law_worths" (top 64)
  betters : FnAt K mg "_law_betters" (top 65)
  allA : FnAt K mg "_law_all_answers" (top 66)
  some_ : FnAt K mg "_law_some" (top 67)
  any_ : FnAt K mg "_law_any" (top 68)
  walk : FnAt K mg "_law_walk" (top 69)
/-- a number drawn -/
theorem dx_take {X : Cx} {M : Mu} {ds : DS} {b : Addr} {many : Int} {eb e : Expr} {p pos : Pos} (T : Fk X.K X.mg) (L : Fl1 X.K X.mg) (hM : M.bag = some b) (hr : Room 1 X.A) (hb : DV X M eb ds (.raw (.ref b))) (he : DV X M e ds (.int many)) (h1 : 1 ≤ many) (h2 : many < 1073741824) (hg : Gl X "_law_take" := by rfl)
    (hs : starEach [eb, e] X.env = (false, eval eb X.env) :: starEach [e] X.env := by rfl) (hs2 : starEach [e] X.env = (false, eval e X.env) :: starEach [] X.env := by rfl) (hpl : (backTo pos (starEach [e] X.env)).any (·.1) = false := by rfl) :
    DX X M (.Call (.Name "_law_take" p) [eb, e] [] pos) ds (fun d => ∃ i, d = .int i ∧ 0 ≤ i ∧ i < many) :=
  dx_call (fn_take T L) hr Le.rfl' (da_cons hb (da_1 he hs2) hs) (fun l e => by
    rw [show l = _ from e]
    exact ⟨⟨b, _, hM, rfl, h1, h2⟩, fun d ⟨x, m, i, z, ed, i1, i2⟩ => ⟨i, ed, i1, by injection z with _ z; injection z with z _; rw [D.int.inj z]; exact i2⟩⟩) hg (by decide) hs hpl
theorem at_nat {α : Type} {xs : List α} {i : Int} (h0 : 0 ≤ i) (h1 : i < (xs.length : Int)) : ∃ x, atI xs i = some x ∧ x ∈ xs := by
  have lt : i.toNat < xs.length := by omega
  refine ⟨xs[i.toNat], ?_, List.getElem_mem lt⟩
  have e : i = ((i.toNat : Nat) : Int) := by omega
  have h := atI_nat (List.getElem?_eq_getElem lt)
  rwa [← e] at h
theorem sc_pick : FnScope ["_law_bag_here", "_law_some_here"] ["_law_bag_here", "_law_some_here"] (defScope (top 60)) := ⟨rfl, rfl, rfl, by decide +kernel, rfl, by decide +kernel, by decide +kernel⟩
def pickPre (M : Mu) (l : List D) : Prop := ∃ b xs, M.bag = some b ∧ l = [.raw (.ref b), .lst xs] ∧ xs ≠ [] ∧ xs.length ≤ 1000000
def pickRt (l : List D) (d : D) : Prop := ∃ x xs, l = [x, .lst xs] ∧ d ∈ xs
theorem fn_pick (T : Fk K mg) (L : Fl4 K mg) : FnT P w K mg base "_law_pick" 2 pickPre pickRt := by
  refine fn_def L.pick sc_pick (fun _ _ _ _ _ _ us hl => match us, hl with | [_, _], _ => rfl) (fun M l ⟨b, xs, _, e, _⟩ => by rw [e]; rfl) fun f cdv A outer s H E M l hr ⟨b, xs, hM, e, ne, few⟩ => ?_
  subst e
  have h1 : 1 ≤ xs.length := List.length_pos_iff.mpr ne
  refine dps_one (dp_ret (dx_ixL (dv (d := .lst xs) 1) (dx_take (many := (xs.length : Int)) T L.l2.l1 hM hr (dv (d := .raw (.ref b)) 0) (d_len (m := xs.length) (dv (d := .lst xs) 1) (.inl ⟨_, rfl, rfl⟩) T.b.len) (by omega) (by omega)) fun x y e1 ⟨i, e2, i1, i2⟩ => ?_))
  obtain ⟨z, hz, hm⟩ := at_nat i1 i2
  exact ⟨xs, i, z, e1, e2, hz, _, xs, rfl, hm⟩
/-! ### worths -/
theorem sc_worthsL : FnScope ["_law_bag_here", "_law_things", "_law_step", "_law_wide", "_law_thing"] ["_law_bag_here", "_law_things"] (defScope (top 64)) := ⟨rfl, rfl, rfl, by decide +kernel, rfl, by decide +kernel, by decide +kernel⟩
/-- drawn worths -/
structure WtS (xs : List Str) (ws : List Wt) (st : Int) : Prop where
  nms : ws.map (·.1) = xs
  wt : ∀ p ∈ ws, 0 ≤ p.2 ∧ p.2 < 100
  s1 : 1 ≤ st
  s2 : st ≤ 4
def worthsPre (M : Mu) (l : List D) : Prop := ∃ b xs, M.bag = some b ∧ l = [.raw (.ref b), .lst (dNs xs)] ∧ xs.Nodup ∧ xs.length ≤ 100
def worthsRt (xs : List Str) (d : D) : Prop := ∃ ws st, d = .tup [dWs ws, .int st] ∧ WtS xs ws st
theorem fn_worths (T : Fk K mg) (L : Fl4 K mg) (xs : List Str) (nd : xs.Nodup) (few : xs.length ≤ 100) : FnT P w K mg base "_law_worths" 2 (fun M l => ∃ b, M.bag = some b ∧ l = [.raw (.ref b), .lst (dNs xs)]) (fun _ => worthsRt xs) := by
  refine fn_def L.worths sc_worthsL (fun _ _ _ _ _ _ us hl => match us, hl with | [_, _], _ => rfl) (fun M l ⟨b, _, e⟩ => by rw [e]; rfl) fun f cdv A outer s H E M l hr ⟨b, hM, e⟩ => ?_
  subst e
  refine dps_consR (dp_setR 2 sc_worthsL.nd (dx_opI0 op_add (R := fun d => ∃ st : Int, d = .int st ∧ 1 ≤ st ∧ st ≤ 4) d_int (dx_take (many := 4) T L.l2.l1 hM hr (dv (d := .raw (.ref b)) 0) d_int (by decide) (by decide)) fun x y e1 ⟨i, e2, i1, i2⟩ => ⟨1, i, e1, e2, 1 + i, rfl, by omega, by omega⟩)) fun ds1 ⟨d1, ⟨st, e1, s1, s2⟩, e2⟩ => ?_
  subst e1 e2
  refine dps_consR (dp_setR 3 sc_worthsL.nd (dx_opI op_mul (R := fun d => ∃ wd : Int, d = .int wd ∧ 1 ≤ wd ∧ wd ≤ 36) (Rb := Is (.int st)) (dx_ixL (R := fun d => ∃ i : Int, d = .int i ∧ 1 ≤ i ∧ i ≤ 9) (d_lst (l := [.int 2, .int 3, .int 5, .int 9]) (da_cons d_int (da_cons d_int (da_cons d_int (da_1 d_int))))) (dx_take (many := 4) T L.l2.l1 hM hr (dv (d := .raw (.ref b)) 0) d_int (by decide) (by decide)) fun x y e1 ⟨i, e2, i1, i2⟩ => ?_) (dv 2) fun x y ⟨i, e1, i1, i2⟩ e2 => ?_) (hx := .inr rfl)) fun ds1 ⟨d1, ⟨wd, e1, w1, w2⟩, e2⟩ => ?_
  · obtain ⟨z, hz, hm⟩ := at_nat (xs := [D.int 2, .int 3, .int 5, .int 9]) i1 i2
    refine ⟨_, i, z, e1, e2, hz, ?_⟩
    simp only [List.mem_cons, List.not_mem_nil, or_false] at hm
    rcases hm with rfl | rfl | rfl | rfl
    · exact ⟨2, rfl, by decide, by decide⟩
    · exact ⟨3, rfl, by decide, by decide⟩
    · exact ⟨5, rfl, by decide, by decide⟩
    · exact ⟨9, rfl, by decide, by decide⟩
  · refine ⟨i, st, e1, e2, .inr ⟨by omega, by omega⟩, i * st, rfl, ?_, ?_⟩
    · have := Int.mul_le_mul i1 s1 (by decide) (by omega)
      simpa using this
    · have := Int.mul_le_mul i2 s2 (by omega) (by decide)
      simpa using this
  subst e1 e2
  refine dps_one (dp_ret (dx_tup (Rl := fun l => ∃ ws, l = [dWs ws, .int st] ∧ WtS xs ws st) (da_consR (R := fun d => ∃ ws, d = dWs ws ∧ WtS xs ws st) ?_ (da_1 (dv (d := .int st) 2)) fun d l ⟨ws, e1, h⟩ e2 => ⟨ws, by rw [e1, show l = _ from e2], h⟩) fun l ⟨ws, e, h⟩ => by rw [e]; exact ⟨by show 2 ≤ sizeLine; decide, ws, st, rfl, h⟩))
  refine dx_dictP rfl (DX.weak (dx_lcZ (β := Int) (F := D.str) (f := fun x i => .tup [.str x, .int i]) (P := fun x i => 0 ≤ i ∧ i < 100) (xs := xs) (own := [("_law_thing", 4)]) (is := [4]) (u := fun d ds => ds.set 4 (some d)) rfl sc_worthsL.nd (.inl (di_lstV (dv (d := .lst (dNs xs)) 1))) (blkOk_by (by rfl)) (fun _ _ _ _ _ => pg_name (i := 4) sc_worthsL.nd rfl (Or.inl rfl)) (fun _ _ => tg1) (by decide)
    (fun _ _ _ _ _ x hx => dx_tup (Rl := fun l => ∃ i : Int, l = [.str x, .int i] ∧ 0 ≤ i ∧ i < 100) (da_consR (dv (d := .str x) 4) (da_consR (dx_take (many := wd) T L.l2.l1 hM hr (dv (d := .raw (.ref b)) 0) (dv (d := .int wd) 3) w1 (by omega)) da_nil (Rm := fun l => ∃ i : Int, l = [.int i] ∧ 0 ≤ i ∧ i < 100) fun d l ⟨i, e1, i1, i2⟩ e2 => ⟨i, by rw [e1, show l = _ from e2], i1, by omega⟩) fun d l e1 ⟨i, e2, h⟩ => ⟨i, by rw [show d = _ from e1, e2], h⟩) fun l ⟨i, e, h⟩ => by rw [e]; exact ⟨by show 2 ≤ sizeLine; decide, i, rfl, h⟩) (Nat.le_trans few (by decide))) fun d ⟨zs, e1, e2, e3⟩ => ?_) T.b.dict
  refine ⟨zs.map fun z => (z.1, .int z.2), by rw [e2, List.map_map]; rfl, ?_, zs, ?_, e1, e3, s1, s2⟩
  · rw [List.map_map]
    show (zs.map fun z => z.1).Nodup
    rw [e1]; exact nd
  · unfold dWs
    rw [List.map_map]
    rfl
end BB
set_option maxHeartbeats 1000000
namespace BB
open PySem PySem.Spec PyProof.Rows L2 DL SO PySem.W
variable {P : Program} {w : World} {K : PySem.W.Frag} {mg : Str → Option Value} {base : Heap}
/-! ### betters, answers -/
def betOf (ws : List Wt) (st : Int) : List Pr := (pairsOf (srtF D.str (ws.map (·.1)))).filter fun p => decide (st < worthOf ws p.1 - worthOf ws p.2)
theorem bet_mem {ws : List Wt} {st : Int} {p : Pr} (h : p ∈ betOf ws st) : p.1 ∈ ws.map (·.1) ∧ p.2 ∈ ws.map (·.1) ∧ p.1 ≠ p.2 := by
  have h := (List.mem_filter.mp h).1
  obtain ⟨h1, h2, h3⟩ := pairs_mem.mp h
  exact ⟨srt_mem.mp h1, srt_mem.mp h2, h3⟩
theorem pairs_few {xs : List Str} (few : xs.length ≤ 100) : (pairsOf (srtF D.str xs)).length ≤ 10000 := by
  have h := pairs_len (srtF D.str xs) (srtF D.str xs)
  rw [srt_len] at h
  have := Nat.mul_le_mul few few
  show ((srtF D.str xs).flatMap fun x => ((srtF D.str xs).filter fun y => decide (y ≠ x)).map fun y => (x, y)).length ≤ 10000
  omega
theorem sc_betters : FnScope ["_law_worths_here", "_law_step", "_law_x", "_law_y"] ["_law_worths_here", "_law_step"] (defScope (top 65)) := ⟨rfl, rfl, rfl, by decide +kernel, rfl, by decide +kernel, by decide +kernel⟩
theorem fn_betters (T : Fk K mg) (L : Fl4 K mg) (ws : List Wt) (st : Int) (few : ws.length ≤ 100) : FnT P w K mg base "_law_betters" 2 (fun M l => l = [dWs ws, .int st]) (fun _ => Is (.lst ((betOf ws st).map dPr))) := by
  refine fn_def L.betters sc_betters (fun _ _ _ _ _ _ us hl => match us, hl with | [_, _], _ => rfl) (fun M l e => by rw [e]; rfl) fun f cdv A outer s H E M l hr e => ?_
  subst e
  have few2 : (ws.map (·.1)).length ≤ 100 := by rw [List.length_map]; exact few
  have ek : (ws.map dWk).map (fun p => kD p.1) = dNs (ws.map (·.1)) := by rw [List.map_map, dNs, List.map_map]; rfl
  exact dps_one (dp_ret (d_lcIf (F := dPr) (f := dPr) (t := fun p => decide (st < worthOf ws p.1 - worthOf ws p.2)) (xs := pairsOf (srtF D.str (ws.map (·.1)))) (own := [("_law_x", 2), ("_law_y", 3)]) (is := [2, 3]) (u := u2 2 3) rfl sc_betters.nd
    (.inl (di_lstV (d_call (fn_pairs T L.l3 (ws.map (·.1)) few2) hr (da_1 (DV.to (d_listDk rfl (dv (d := dWs ws) 0) T.b.list) (congrArg D.lst ek))) rfl fun z hz => hz))) (blkOk_by (by rfl))
    (fun _ _ _ _ _ => pg_tup rfl (pgs_cons (pg_name (i := 2) sc_betters.nd rfl (Or.inl rfl)) (pgs_cons (pg_name (i := 3) sc_betters.nd rfl (Or.inl rfl)) pgs_nil))) (fun p _ => tg2) (by decide)
    (fun _ _ _ _ _ p hp => (c_gt (d_sub (d_getK (z := p.1) (hu1 hr) (dv (d := dWs ws) 0) (dv (d := .str p.1) 2) (look_ws (srt_mem.mp (pairs_mem.mp hp).1))) (d_getK (z := p.2) (hu1 hr) (dv (d := dWs ws) 0) (dv (d := .str p.2) 3) (look_ws (srt_mem.mp (pairs_mem.mp hp).2.1)))) (dv (d := .int st) 1)).t)
    (fun _ _ _ _ _ p hp _ => d_tup (da_cons (dv (d := .str p.1) 2) (da_1 (dv (d := .str p.2) 3))) (by simp)) (Nat.le_trans (pairs_few few2) (by decide))))
def allOf (xs : List Str) (bs : List Pr) : List An := (pairsOf (srtF D.str xs)).map fun p => (p.1, p.2, decide (p ∈ bs))
theorem sc_allA : FnScope ["_law_things", "_law_betters_here", "_law_x", "_law_y"] ["_law_things", "_law_betters_here"] (defScope (top 66)) := ⟨rfl, rfl, rfl, by decide +kernel, rfl, by decide +kernel, by decide +kernel⟩
theorem fn_allA (T : Fk K mg) (L : Fl4 K mg) (xs : List Str) (bs : List Pr) (few : xs.length ≤ 100) (hx : ∀ x ∈ xs, Nm x) (hb : ∀ p ∈ bs, PrOk p) : FnT P w K mg base "_law_all_answers" 2 (fun M l => l = [.lst (dNs xs), .lst (bs.map dPr)]) (fun _ => Is (.lst ((allOf xs bs).map dAn))) := by
  refine fn_def L.allA sc_allA (fun _ _ _ _ _ _ us hl => match us, hl with | [_, _], _ => rfl) (fun M l e => by rw [e]; rfl) fun f cdv A outer s H E M l hr e => ?_
  subst e
  refine dps_one (dp_ret (DV.to (d_lc (F := dPr) (f := fun p => dAn (p.1, p.2, decide (p ∈ bs))) (xs := pairsOf (srtF D.str xs)) (own := [("_law_x", 2), ("_law_y", 3)]) (is := [2, 3]) (u := u2 2 3) rfl sc_allA.nd
    (.inl (di_lstV (d_call (fn_pairs T L.l3 xs few) hr (da_1 (dv (d := .lst (dNs xs)) 0)) rfl fun z hz => hz))) (blkOk_by (by rfl))
    (fun _ _ _ _ _ => pg_tup rfl (pgs_cons (pg_name (i := 2) sc_allA.nd rfl (Or.inl rfl)) (pgs_cons (pg_name (i := 3) sc_allA.nd rfl (Or.inl rfl)) pgs_nil))) (fun p _ => tg2) (by decide)
    (fun _ _ _ _ _ p hp => d_tup (da_cons (dv (d := .str p.1) 2) (da_cons (dv (d := .str p.2) 3) (da_1 (CmpD.v (op := .In) (p := decide (p ∈ bs)) ?_)))) (by simp)) (Nat.le_trans (pairs_few few) (by decide))) ?_))
  · refine CmpD.to (c_in (f := dPr) (x := p) (xs := bs) (n := 1) (hu65 hr) eqv_pr (d_tup (da_cons (dv (d := .str p.1) 2) (da_1 (dv (d := .str p.2) 3))) (by simp)) (dv (d := .lst (bs.map dPr)) 1) (.inl rfl) (shp_two (hx _ (srt_mem.mp (pairs_mem.mp hp).1)) (hx _ (srt_mem.mp (pairs_mem.mp hp).2.1))) (fun q hq => shp_prOk (hb q hq)) (by decide)) (decide_eq_decide.mpr Iff.rfl)
  unfold allOf
  rw [List.map_map]
  rfl
/-- answers about different pairs of things -/
structure AnsOf (xs : List Str) (as : List An) : Prop where
  nd : (as.map anP).Nodup
  inn : ∀ a ∈ as, a.1 ∈ xs ∧ a.2.1 ∈ xs ∧ a.1 ≠ a.2.1
  few : as.length ≤ xs.length * xs.length
theorem nd_take {α : Type} {xs : List α} (h : xs.Nodup) (n : Nat) : (xs.take n).Nodup := h.sublist (List.take_sublist n xs)
theorem AnsOf.take {xs : List Str} {as bs : List An} (n : Nat) (h : AnsOf xs as) (p : bs.Perm as) : AnsOf xs (bs.take n) where
  nd := by rw [List.map_take]; exact nd_take ((p.map anP).nodup_iff.mpr h.nd) n
  inn := fun a ha => h.inn a (p.mem_iff.mp (List.mem_of_mem_take ha))
  few := Nat.le_trans (by rw [List.length_take]; omega) (Nat.le_trans (Nat.le_of_eq p.length_eq) h.few)
theorem all_ansOf {xs : List Str} {bs : List Pr} (nd : xs.Nodup) : AnsOf xs (allOf xs bs) where
  nd := by
    unfold allOf
    rw [List.map_map]
    have e : (anP ∘ fun p : Pr => ((p.1, p.2, decide (p ∈ bs)) : An)) = id := rfl
    rw [e, List.map_id]
    exact pairs_nd (srt_nd nd)
  inn := fun a ha => by
    obtain ⟨p, hp, rfl⟩ := List.mem_map.mp ha
    obtain ⟨h1, h2, h3⟩ := pairs_mem.mp hp
    exact ⟨srt_mem.mp h1, srt_mem.mp h2, h3⟩
  few := by
    unfold allOf
    rw [List.length_map]
    have h := pairs_len (srtF D.str xs) (srtF D.str xs)
    rw [srt_len] at h
    exact h
def ansRt (xs : List Str) (d : D) : Prop := ∃ as : List An, d = .lst (as.map dAn) ∧ AnsOf xs as
def u2T := @u2
theorem sc_some : FnScope ["_law_bag_here", "_law_things", "_law_many", "_law_worths_here", "_law_step"] ["_law_bag_here", "_law_things", "_law_many"] (defScope (top 67)) := ⟨rfl, rfl, rfl, by decide +kernel, rfl, by decide +kernel, by decide +kernel⟩
theorem shp8_an {a : An} (h : AnOk a) : Shp 8 (dAn a) := (shp_anOk h).mono (by decide)
theorem shp8_pr {a : Pr} (h : PrOk a) : Shp 8 (dPr a) := (shp_prOk h).mono (by decide)
theorem shp8_str {x : Str} (h : Nm x) : Shp 8 (.str x) := (shp_str (cps_le h)).mono (by decide)
/-- mix of encoded things -/
theorem dx_mix {X : Cx} {M : Mu} {ds : DS} {b : Addr} {α : Type} {f : α → D} {xs : List α} {eb e : Expr} {p pos : Pos} (T : Fk X.K X.mg) (L : Fl2 X.K X.mg) (hM : M.bag = some b) (hr : Room 3 X.A) (hb : DV X M eb ds (.raw (.ref b))) (he : DX X M e ds (fun d => d = .lst (xs.map f))) (sh : ∀ x ∈ xs, Shp 8 (f x)) (few : xs.length ≤ 1000000) (hg : Gl X "_law_mix" := by rfl)
    (hs : starEach [eb, e] X.env = (false, eval eb X.env) :: starEach [e] X.env := by rfl) (hs2 : starEach [e] X.env = (false, eval e X.env) :: starEach [] X.env := by rfl) (hpl : (backTo pos (starEach [e] X.env)).any (·.1) = false := by rfl) :
    DX X M (.Call (.Name "_law_mix" p) [eb, e] [] pos) ds (fun d => ∃ ys : List α, d = .lst (ys.map f) ∧ ys.Perm xs) :=
  dx_call (fn_mix T L).toT hr Le.rfl' (da_cons hb (da_1 (d := .lst (xs.map f)) he hs2) hs) (fun l e => by
    rw [show l = _ from e]
    refine ⟨⟨b, xs.map f, hM, rfl, fun x hx => ?_, by rw [List.length_map]; exact few⟩, fun d ⟨l', ed, x, ys, z, pm⟩ => ?_⟩
    · obtain ⟨y, hy, rfl⟩ := List.mem_map.mp hx
      exact sh y hy
    · injection z with _ z
      injection z with z _
      rw [← D.lst.inj z] at pm
      obtain ⟨zs, e1, p1⟩ := perm_map pm rfl
      exact ⟨zs, by rw [ed, e1], p1⟩) hg (by decide) hs hpl
theorem fn_some (T : Fk K mg) (L : Fl4 K mg) (xs : List Str) (nd : xs.Nodup) (hx : ∀ x ∈ xs, Nm x) (few : xs.length ≤ 100) (n : Nat) : FnT P w K mg base "_law_some" 4 (fun M l => ∃ b, M.bag = some b ∧ l = [.raw (.ref b), .lst (dNs xs), .int (n : Int)]) (fun _ => ansRt xs) := by
  refine fn_def L.some_ sc_some (fun _ _ _ _ _ _ us hl => match us, hl with | [_, _, _], _ => rfl) (fun M l ⟨b, _, e⟩ => by rw [e]; rfl) fun f cdv A outer s H E M l hr ⟨b, hM, e⟩ => ?_
  subst e
  have hr2 : Room 2 _ := hr.mono (by decide)
  refine dps_consR (dp_asgR (is := [3, 4]) (u := u2 3 4) (dx_call (fn_worths T L xs nd few) hr2 Le.rfl' (da_cons (dv (d := .raw (.ref b)) 0) (da_1 (dv (d := .lst (dNs xs)) 1))) (R := worthsRt xs) fun l e => ⟨⟨b, hM, e⟩, fun d r => r⟩)
    (pg_tup rfl (pgs_cons (pg_name (i := 3) sc_some.nd rfl (Or.inl rfl)) (pgs_cons (pg_name (i := 4) sc_some.nd rfl (Or.inl rfl)) pgs_nil))) (fun d ⟨ws, st, e, _⟩ => by rw [e]; exact tg2)) fun ds1 ⟨d1, ⟨ws, st, e1, hw⟩, e2⟩ => ?_
  subst e1 e2
  have fw : ws.length ≤ 100 := by rw [← List.length_map (f := (·.1)), hw.nms]; exact few
  have bok : ∀ p ∈ betOf ws st, PrOk p := fun p hp => by
    obtain ⟨h1, h2, h3⟩ := bet_mem hp
    rw [hw.nms] at h1 h2
    exact ⟨hx _ h1, hx _ h2, h3⟩
  have all := all_ansOf (bs := betOf ws st) nd
  refine dps_one (dp_ret (dx_slL (dx_mix (f := dAn) (xs := allOf xs (betOf ws st)) T L.l2 hM hr (dv (d := .raw (.ref b)) 0)
    (d_call (fn_allA T L xs (betOf ws st) few hx bok) hr2 (da_cons (dv (d := .lst (dNs xs)) 1) (da_1 (d_call (fn_betters T L ws st fw) hr2 (da_cons (dv (d := dWs ws) 3) (da_1 (dv (d := .int st) 4))) rfl fun z hz => hz))) rfl fun z hz => hz)
    (fun a ha => ?_) (Nat.le_trans all.few (Nat.le_trans (Nat.mul_le_mul few few) (by decide)))) do_none (do_some (dv (d := .int (n : Int)) 2)) fun x l u ⟨ys, e1, pm⟩ e2 e3 => ⟨ys.map dAn, e1, ys.take n, ?_, all.take n pm⟩))
  · obtain ⟨h1, h2, h3⟩ := all.inn a ha
    exact shp8_an ⟨hx _ h1, hx _ h2, h3⟩
  · rw [show l = none from e2, show u = _ from e3, cut_upto, List.map_take]
end BB
set_option maxHeartbeats 1000000
namespace BB
open PySem PySem.Spec PyProof.Rows L2 DL SO PySem.W
variable {P : Program} {w : World} {K : PySem.W.Frag} {mg : Str → Option Value} {base : Heap}
theorem sc_any : FnScope ["_law_bag_here", "_law_things", "_law_many", "_law_told", "_law_x", "_law_y"] ["_law_bag_here", "_law_things", "_law_many"] (defScope (top 68)) := ⟨rfl, rfl, rfl, by decide +kernel, rfl, by decide +kernel, by decide +kernel⟩
theorem fn_any (T : Fk K mg) (L : Fl4 K mg) (xs : List Str) (nd : xs.Nodup) (hx : ∀ x ∈ xs, Nm x) (few : xs.length ≤ 100) (n : Nat) : FnT P w K mg base "_law_any" 4 (fun M l => ∃ b, M.bag = some b ∧ l = [.raw (.ref b), .lst (dNs xs), .int (n : Int)]) (fun _ => ansRt xs) := by
  refine fn_def L.any_ sc_any (fun _ _ _ _ _ _ us hl => match us, hl with | [_, _, _], _ => rfl) (fun M l ⟨b, _, e⟩ => by rw [e]; rfl) fun f cdv A outer s H E M l hr ⟨b, hM, e⟩ => ?_
  subst e
  have hr1 : Room 1 _ := hr.mono (by decide)
  have pin : ∀ p ∈ pairsOf (srtF D.str xs), p.1 ∈ xs ∧ p.2 ∈ xs ∧ p.1 ≠ p.2 := fun p hp => by
    obtain ⟨h1, h2, h3⟩ := pairs_mem.mp hp
    exact ⟨srt_mem.mp h1, srt_mem.mp h2, h3⟩
  refine dps_consR (dp_setR 3 sc_any.nd (dx_slL (R := fun d => ∃ ps : List Pr, d = .lst (ps.map dPr) ∧ ∃ qs : List Pr, qs.Perm (pairsOf (srtF D.str xs)) ∧ ps = qs.take n) (dx_mix (f := dPr) (xs := pairsOf (srtF D.str xs)) T L.l2 hM hr (dv (d := .raw (.ref b)) 0)
    (d_call (fn_pairs T L.l3 xs few) hr1 (da_1 (dv (d := .lst (dNs xs)) 1)) rfl fun z hz => hz) (fun p hp => shp8_pr ⟨hx _ (pin p hp).1, hx _ (pin p hp).2.1, (pin p hp).2.2⟩) (Nat.le_trans (pairs_few few) (by decide))) do_none (do_some (dv (d := .int (n : Int)) 2)) fun x l u ⟨qs, e1, pm⟩ e2 e3 => ⟨qs.map dPr, e1, qs.take n, by rw [show l = none from e2, show u = _ from e3, cut_upto, List.map_take], qs, pm, rfl⟩))
    fun ds1 ⟨d1, ⟨ps, e1, qs, pm, e3⟩, e2⟩ => ?_
  subst e1 e2
  have pl : ps.length ≤ (pairsOf (srtF D.str xs)).length := by rw [e3, List.length_take, ← pm.length_eq]; omega
  have pmem : ∀ p ∈ ps, p.1 ∈ xs ∧ p.2 ∈ xs ∧ p.1 ≠ p.2 := fun p hp => pin p (pm.mem_iff.mp (List.mem_of_mem_take (by rw [← e3]; exact hp)))
  have pnd : ps.Nodup := by rw [e3]; exact nd_take (pm.nodup_iff.mpr (pairs_nd (srt_nd nd))) n
  refine dps_one (dp_ret (DX.weak (dx_lcZ (β := Bool) (F := dPr) (f := fun p q => dAn (p.1, p.2, q)) (P := fun _ _ => True) (xs := ps) (own := [("_law_x", 4), ("_law_y", 5)]) (is := [4, 5]) (u := u2 4 5) rfl sc_any.nd (.inl (di_lstV (dv (d := .lst (ps.map dPr)) 3))) (blkOk_by (by rfl))
    (fun _ _ _ _ _ => pg_tup rfl (pgs_cons (pg_name (i := 4) sc_any.nd rfl (Or.inl rfl)) (pgs_cons (pg_name (i := 5) sc_any.nd rfl (Or.inl rfl)) pgs_nil))) (fun p _ => tg2) (by decide)
    (fun _ _ _ _ _ p hp => dx_tup (Rl := fun l => ∃ q : Bool, l = [.str p.1, .str p.2, .bl q]) (da_consR (dv (d := .str p.1) 4) (da_consR (dv (d := .str p.2) 5) (da_consR (R := fun d => ∃ q : Bool, d = .bl q) (dx_cmpI op_lt (dx_take (many := 5) T L.l2.l1 hM hr1 (dv (d := .raw (.ref b)) 0) d_int (by decide) (by decide)) d_int (nomark _) fun x y ⟨i, e1, _⟩ e2 => ⟨i, 3, e1, e2, _, rfl⟩) da_nil
      (Rm := fun l => ∃ q : Bool, l = [.bl q]) fun d l ⟨q, e1⟩ e2 => ⟨q, by rw [e1, show l = _ from e2]⟩) (Rm := fun l => ∃ q : Bool, l = [.str p.2, .bl q]) fun d l e1 ⟨q, e2⟩ => ⟨q, by rw [show d = _ from e1, e2]⟩) fun d l e1 ⟨q, e2⟩ => ⟨q, by rw [show d = _ from e1, e2]⟩) fun l ⟨q, e⟩ => by rw [e]; exact ⟨by show 3 ≤ sizeLine; decide, q, rfl, trivial⟩)
    (Nat.le_trans pl (Nat.le_trans (pairs_few few) (by decide)))) fun d ⟨zs, e1, e2, _⟩ => ⟨zs.map fun z => (z.1.1, z.1.2, z.2), by rw [e2, List.map_map]; rfl, ?_, ?_, ?_⟩))
  · rw [List.map_map]
    show (zs.map fun z => z.1).Nodup
    rw [e1]; exact pnd
  · intro a ha
    obtain ⟨z, hz, rfl⟩ := List.mem_map.mp ha
    exact pmem z.1 (by rw [← e1]; exact List.mem_map.mpr ⟨z, hz, rfl⟩)
  · rw [List.length_map, ← List.length_map (f := (·.1)), e1]
    have h := pairs_len (srtF D.str xs) (srtF D.str xs)
    rw [srt_len] at h
    exact Nat.le_trans pl h
/-! ### all answers -/
def everyOf (xs : List Str) : List An := (pairsOf (srtF D.str xs)).flatMap fun p => [(p.1, p.2, false), (p.1, p.2, true)]
theorem every_mem {xs : List Str} {a : An} (h : a ∈ everyOf xs) : a.1 ∈ xs ∧ a.2.1 ∈ xs ∧ a.1 ≠ a.2.1 := by
  obtain ⟨p, hp, ha⟩ := List.mem_flatMap.mp h
  obtain ⟨h1, h2, h3⟩ := pairs_mem.mp hp
  simp only [List.mem_cons, List.not_mem_nil, or_false] at ha
  rcases ha with rfl | rfl
  · exact ⟨srt_mem.mp h1, srt_mem.mp h2, h3⟩
  · exact ⟨srt_mem.mp h1, srt_mem.mp h2, h3⟩
theorem every_len2 (ps : List Pr) : (ps.flatMap fun p => [((p.1, p.2, false) : An), (p.1, p.2, true)]).length = 2 * ps.length := by
  induction ps with
  | nil => rfl
  | cons p ps ih => rw [List.flatMap_cons, List.length_append, ih]; simp only [List.length_cons, List.length_nil]; omega
theorem every_few {xs : List Str} (few : xs.length ≤ 100) : (everyOf xs).length ≤ 20000 := by
  unfold everyOf
  rw [every_len2]
  have := pairs_few few
  omega
theorem sc_every : FnScope ["_law_things", "_law_found", "_law_x", "_law_y"] ["_law_things"] (defScope (top 72)) := ⟨rfl, rfl, rfl, by decide +kernel, rfl, by decide +kernel, by decide +kernel⟩
theorem fn_every (T : Fk K mg) (L : Fl4 K mg) (xs : List Str) (few : xs.length ≤ 100) : FnT P w K mg base "_law_every" 2 (fun M l => l = [.lst (dNs xs)]) (fun _ => Is (.lst ((everyOf xs).map dAn))) := by
  refine fn_def L.l3.every sc_every (fun _ _ _ _ _ _ us hl => match us, hl with | [_], _ => rfl) (fun M l e => by rw [e]; rfl) fun f cdv A outer s H E M l hr e => ?_
  subst e
  have pf := pairs_few few
  refine dps_of_dms fun G0 H0 ok0 => dms_phase (C1 := fun q => cLst K q) (c0 := []) (o0 := .lst []) (toD := D.lst) (N := fun q ds' c' => ds' = (slots ["_law_things", "_law_found", "_law_x", "_law_y"] [.lst (dNs xs)]).set 1 (some (.raw (.ref q))) ∧ c' = (everyOf xs).map dAn) 1 ok0 ck_unit sc_every.nd cre_lst (fun _ z => by cases z) ini_lst (fun _ => kn_lst)
    (fun G1 H1 q ok1 hq => ?_) (fun q ds' c' ⟨e, _⟩ => by rw [e]; rfl) (fun q ds' c' ⟨e1, e2⟩ => ?_)
  · refine DM.weak (dm_forW (u := u2 2 3) (is := [2, 3]) (Re := Is ((pairsOf (srtF D.str xs)).map dPr)) (I := fun i c => c = (((pairsOf (srtF D.str xs)).take i).flatMap fun p => [((p.1, p.2, false) : An), (p.1, p.2, true)]).map dAn) ok1 (ck_lst ok1 hq) PassesOwn.never rfl (di_lstV (d_call (fn_pairs T L.l3 xs few) hr (da_1 (dv (d := .lst (dNs xs)) 0)) rfl fun z hz => hz)) (pg_tup rfl (pgs_cons (pg_name (i := 2) sc_every.nd rfl (Or.inl rfl)) (pgs_cons (pg_name (i := 3) sc_every.nd rfl (Or.inl rfl)) pgs_nil))) um2 (fun i d h => by obtain ⟨p, _, rfl⟩ := el_map h; exact tg2) rfl fun i d c1 h hc => ?_) fun x1 y1 ⟨e1, els, e2, e3⟩ => ⟨e1, by rw [e3, show els = _ from e2, List.length_map, List.take_length]; rfl⟩
    obtain ⟨p, hp, rfl⟩ := el_map h
    have hlen : c1.length ≤ 20000 := by
      rw [hc, List.length_map, every_len2, List.length_take]
      omega
    refine dms_one (DM.weak (dm_extend (i := 1) (m := ([((p.1, p.2, false) : An), (p.1, p.2, true)]).map dAn) ok1 hq rfl ?_ (by rw [sizeLine_eq, List.length_map]; simp only [List.length_cons, List.length_nil]; omega)) fun x1 y1 ⟨e1, e2⟩ => ⟨by rw [e1]; exact ((WkS.refl _).put rfl).put rfl, ?_⟩)
    · exact d_lst (da_cons (d_tup (da_cons (dv (d := .str p.1) 2) (da_cons (dv (d := .str p.2) 3) (da_1 d_bl))) (by simp)) (da_1 (d_tup (da_cons (dv (d := .str p.1) 2) (da_cons (dv (d := .str p.2) 3) (da_1 d_bl))) (by simp)))) (by simp)
    · rw [e2, hc, show (pairsOf (srtF D.str xs)).take (i + 1) = (pairsOf (srtF D.str xs)).take i ++ [p] from by rw [List.take_succ, hp]; rfl, List.flatMap_append, List.map_append]
      simp
  · subst e1 e2
    exact DMs.weak (dms_of ok0 ck_unit (N := fun _ => False) (dps_one (dp_ret (dv (d := .lst ((everyOf xs).map dAn)) 1)))) fun _ _ z => z.1.elim
/-! ### walks -/
theorem sc_walk : FnScope ["_law_bag_here", "_law_things", "_law_some_here", "_law_k"] ["_law_bag_here", "_law_things"] (defScope (top 69)) := ⟨rfl, rfl, rfl, by decide +kernel, rfl, by decide +kernel, by decide +kernel⟩
def walkRt (xs : List Str) (d : D) : Prop := ∃ as : List An, d = .lst (as.map dAn) ∧ (∀ a ∈ as, a.1 ∈ xs ∧ a.2.1 ∈ xs ∧ a.1 ≠ a.2.1) ∧ as.length ≤ 100
theorem fn_walk (T : Fk K mg) (L : Fl4 K mg) (xs : List Str) (hx : ∀ x ∈ xs, Nm x) (few : xs.length ≤ 100) : FnT P w K mg base "_law_walk" 3 (fun M l => ∃ b, M.bag = some b ∧ l = [.raw (.ref b), .lst (dNs xs)]) (fun _ => walkRt xs) := by
  refine fn_def L.walk sc_walk (fun _ _ _ _ _ _ us hl => match us, hl with | [_, _], _ => rfl) (fun M l ⟨b, _, e⟩ => by rw [e]; rfl) fun f cdv A outer s H E M l hr ⟨b, hM, e⟩ => ?_
  subst e
  have hr1 : Room 1 _ := hr.mono (by decide)
  have ef := every_few few
  refine dps_cons (dp_set (d := .lst ((everyOf xs).map dAn)) 2 sc_walk.nd (d_call (fn_every T L xs few) hr (da_1 (dv (d := .lst (dNs xs)) 1)) rfl fun z hz => hz) (hx := .inr rfl)) ?_
  have sh : ∀ d ∈ (everyOf xs).map dAn, Shp 1 d := fun d h => by
    obtain ⟨a, ha, rfl⟩ := List.mem_map.mp h
    obtain ⟨h1, h2, h3⟩ := every_mem ha
    exact shp_anOk ⟨hx _ h1, hx _ h2, h3⟩
  refine dps_consR (N1 := fun ds' => ds' = (slots ["_law_bag_here", "_law_things", "_law_some_here", "_law_k"] [.raw (.ref b), .lst (dNs xs)]).set 2 (some (.lst ((everyOf xs).map dAn))) ∧ everyOf xs ≠ []) (dp_if (p := ((everyOf xs).map dAn).isEmpty) (c_eqD (n := 2) (hu64 hr) (dv (d := .lst ((everyOf xs).map dAn)) 2) (d_lst da_nil) (shp_lst sh) (shp_nil.mono (by decide)) (by decide) (eqv_nil _)).t
    (fun _ => dps_one (dp_ret (DX.weak (d_lst da_nil) fun d e => ⟨[], e, ⟨fun a h => (List.not_mem_nil h).elim, by decide⟩⟩))) fun h => dps_nil ⟨rfl, fun z => by rw [z] at h; cases h⟩) fun ds1 ⟨e1, ne⟩ => ?_
  subst e1
  refine dps_one (dp_ret ?_)
  refine DX.weak (dx_lc (Re := fun els => ∃ n, els = rngD 0 n ∧ n ≤ 60) (Rb := fun i d e => ∃ a ∈ everyOf xs, e = dAn a) (own := [("_law_k", 3)]) (is := [3]) (u := fun d ds => ds.set 3 (some d)) (R := fun d => ∃ es : List D, d = .lst es ∧ es.length ≤ 60 ∧ ∀ e ∈ es, ∃ a ∈ everyOf xs, e = dAn a) rfl sc_walk.nd (.inl (di_range (Rn := fun n => n ≤ 60) ?_ T.b.range)) (blkOk_by (by rfl)) (fun _ _ _ _ _ => pg_name (i := 3) sc_walk.nd rfl (Or.inl rfl)) (fun _ _ _ => tg1) (by decide)
    (fun _ _ _ _ _ i d _ => dx_call (fn_pick T L) (hr.mono (by decide)) Le.rfl' (da_cons (dv (d := .raw (.ref b)) 0) (da_1 (dv (d := .lst ((everyOf xs).map dAn)) 2))) fun l e => ?_) (fun els es h1 h2 h3 => ?_) (fun els ⟨n, e, h⟩ => by rw [e]; simp only [rngD, List.length_map, List.length_range]; exact Nat.le_trans h (by decide))) fun d ⟨es, e1, e2, e3⟩ => ?_
  · refine dx_ixL (d_lst (l := [.int 0, .int 1, .int 2, .int 3, .int 4, .int 9, .int 60]) (da_cons d_int (da_cons d_int (da_cons d_int (da_cons d_int (da_cons d_int (da_cons d_int (da_1 d_int)))))))) (dx_take (many := 7) T L.l2.l1 hM hr1 (dv (d := .raw (.ref b)) 0) d_int (by decide) (by decide)) fun x y e1 ⟨i, e2, i1, i2⟩ => ?_
    obtain ⟨z, hz, hm⟩ := at_nat (xs := [D.int 0, .int 1, .int 2, .int 3, .int 4, .int 9, .int 60]) i1 i2
    refine ⟨_, i, z, e1, e2, hz, ?_⟩
    simp only [List.mem_cons, List.not_mem_nil, or_false] at hm
    rcases hm with rfl | rfl | rfl | rfl | rfl | rfl | rfl
    · exact ⟨0, rfl, by decide, by decide⟩
    · exact ⟨1, rfl, by decide, by decide⟩
    · exact ⟨2, rfl, by decide, by decide⟩
    · exact ⟨3, rfl, by decide, by decide⟩
    · exact ⟨4, rfl, by decide, by decide⟩
    · exact ⟨9, rfl, by decide, by decide⟩
    · exact ⟨60, rfl, by decide, by decide⟩
  · rw [show l = _ from e]
    refine ⟨⟨b, _, hM, rfl, fun z => ne (List.map_eq_nil_iff.mp z), by rw [List.length_map]; omega⟩, fun d ⟨x, ys, z, hm⟩ => ?_⟩
    injection z with _ z
    injection z with z _
    rw [← D.lst.inj z] at hm
    obtain ⟨a, ha, rfl⟩ := List.mem_map.mp hm
    exact ⟨a, ha, rfl⟩
  · obtain ⟨n, e, hn⟩ := h1
    have hl : els.length = n := by rw [e]; simp [rngD]
    refine ⟨es, rfl, by omega, fun e' he => ?_⟩
    obtain ⟨i, hi⟩ := List.getElem?_of_mem he
    have lt := (List.getElem?_eq_some_iff.mp hi).1
    exact h3 i els[i] e' (List.getElem?_eq_getElem (by omega)) hi
  · have get : ∀ es : List D, (∀ e ∈ es, ∃ a ∈ everyOf xs, e = dAn a) → ∃ as : List An, es = as.map dAn ∧ ∀ a ∈ as, a ∈ everyOf xs := fun es => by
      induction es with
      | nil => intro _; exact ⟨[], rfl, fun a h => by cases h⟩
      | cons e es ih =>
        intro h
        obtain ⟨as, e4, e5⟩ := ih fun e he => h e (List.mem_cons_of_mem _ he)
        obtain ⟨a, ha, e6⟩ := h e List.mem_cons_self
        refine ⟨a :: as, by rw [List.map_cons, e4, e6], fun z hz => ?_⟩
        rcases List.mem_cons.mp hz with rfl | hz
        · exact ha
        · exact e5 z hz
    obtain ⟨as, e4, e5⟩ := get es e3
    refine ⟨as, by rw [e1, e4], fun a ha => every_mem (e5 a ha), ?_⟩
    rw [e4, List.length_map] at e2
    omega
end BB
set_option maxHeartbeats 1000000
namespace BB
open PySem PySem.Spec PyProof.Rows L2 DL SO PySem.W TL
variable {P : Program} {w : World} {K : PySem.W.Frag} {mg : Str → Option Value} {base : Heap}
structure Fl5 (K : PySem.W.Frag) (mg : Str → Option Value) : Prop where
  l4 : Fl4 K mg
  names : FnAt K mg "_law_names" (top 62)
def nmB (x : Str) : Bool := decide (1 ≤ x.length) && (decide (x.length ≤ 8) && x.cps.toList.all letter)
theorem nm_of {x : Str} (h : nmB x = true) : Nm x := by
  unfold nmB at h
  rw [Bool.and_eq_true, Bool.and_eq_true, List.all_eq_true] at h
  exact ⟨of_decide_eq_true h.1, of_decide_eq_true h.2.1, h.2.2⟩
/-- different names, not too many -/
structure NmsL (n : Nat) (xs : List Str) : Prop where
  all : ∀ x ∈ xs, Nm x
  nd : xs.Nodup
  few : xs.length ≤ n
theorem NmsL.perm {n : Nat} {xs ys : List Str} (h : NmsL n xs) (p : ys.Perm xs) : NmsL n ys := ⟨fun x hx => h.all x (p.mem_iff.mp hx), p.nodup_iff.mpr h.nd, by rw [p.length_eq]; exact h.few⟩
theorem NmsL.nms {n : Nat} {xs : List Str} (h : NmsL n xs) (hn : n ≤ 100) : Nms xs := ⟨h.all, h.nd, by have := h.few; omega⟩
def one (c : Nat) : Str := ⟨#[c]⟩
def six : List Str := [one 97, one 98, one 99, one 100, one 101, one 102]
def wordsL : List Str := ["better", "not", "things", "step", "say", "a", "aa", "none", "reached", "open", "zzzzzzzz"]
theorem six_nms (n : Nat) (hn : n ≤ 6) : NmsL 6 (six.take n) := ⟨fun x hx => nm_of (List.all_eq_true.mp (show six.all nmB = true by decide +kernel) x (List.mem_of_mem_take hx)), nd_take (by decide +kernel) n, by rw [List.length_take]; omega⟩
theorem words_nd : ∀ t : Fin 11, (((wordsL ++ wordsL).drop t.1).take 6).Nodup := by decide +kernel
theorem words_nms (t n : Nat) (ht : t < 11) (hn : n ≤ 6) : NmsL 6 (((wordsL ++ wordsL).drop t).take n) := by
  refine ⟨fun x hx => nm_of (List.all_eq_true.mp (show (wordsL ++ wordsL).all nmB = true by decide +kernel) x (List.mem_of_mem_drop (List.mem_of_mem_take hx))), ?_, by rw [List.length_take]; omega⟩
  have e : ((wordsL ++ wordsL).drop t).take n = (((wordsL ++ wordsL).drop t).take 6).take n := by rw [List.take_take, Nat.min_eq_left hn]
  rw [e]
  exact nd_take (words_nd ⟨t, ht⟩) n
def stemL (stem : Str) (t n : Nat) : List Str := (List.range n).map fun i => stem ++ one (97 + (t + 5 * i) % 26)
theorem tl_one (c : Nat) : tl (one c) = [c] := rfl
theorem letter_at (j : Nat) (h : j < 26) : letter (97 + j) = true := by
  unfold letter
  exact decide_eq_true ⟨by omega, by omega⟩
theorem stem_nms {stem : Str} (hl : stem.length ≤ 7) (hs : ∀ c ∈ tl stem, letter c = true) (t n : Nat) (hn : n ≤ 6) : NmsL 6 (stemL stem t n) := by
  refine ⟨fun x hx => ?_, ?_, by unfold stemL; rw [List.length_map, List.length_range]; exact hn⟩
  · obtain ⟨i, _, rfl⟩ := List.mem_map.mp hx
    have e : (stem ++ one (97 + (t + 5 * i) % 26)).length = stem.length + 1 := by rw [len_app]; rfl
    refine ⟨by rw [e]; omega, by rw [e]; omega, fun c hc => ?_⟩
    have hc : c ∈ tl (stem ++ one (97 + (t + 5 * i) % 26)) := hc
    rw [tl_append, List.mem_append, tl_one, List.mem_singleton] at hc
    rcases hc with hc | rfl
    · exact hs c hc
    · exact letter_at _ (Nat.mod_lt _ (by decide))
  · unfold stemL
    unfold List.Nodup
    rw [List.pairwise_map]
    have hr : (List.range n).Pairwise (fun a b => a ≠ b ∧ a < n ∧ b < n) := by
      rw [List.pairwise_iff_getElem]
      intro i j hi hj hij
      rw [List.getElem_range, List.getElem_range]
      rw [List.length_range] at hi hj
      omega
    refine hr.imp fun {a b} ⟨h1, h2, h3⟩ e => h1 ?_
    have e2 := congrArg tl e
    rw [tl_append, tl_append, tl_one, tl_one] at e2
    have e3 := List.append_cancel_left e2
    injection e3 with e3 _
    omega
theorem joinL_ones (cs : List Nat) : joinL [] (cs.map fun c => [c]) = cs := by
  induction cs with
  | nil => rfl
  | cons c cs ih =>
    cases cs with
    | nil => rfl
    | cons d cs =>
      show [c] ++ ([] ++ joinL [] ((d :: cs).map fun c => [c])) = _
      rw [ih]
      rfl
theorem join_ones (cs : List Nat) : tl (Txt.join "" (cs.map one)) = cs := by
  rw [join_eq, tl_join, List.map_map]
  exact joinL_ones cs
theorem letters_at (j : Nat) (h : j < 26) : (Str.ofString "abcdefghijklmnopqrstuvwxyz").cps.toList[j]? = some (97 + j) := by
  have : ∀ j : Fin 26, (Str.ofString "abcdefghijklmnopqrstuvwxyz").cps.toList[j.1]? = some (97 + j.1) := by decide +kernel
  exact this ⟨j, h⟩
theorem signs_six : signsD (Str.ofString "abcdef") = dNs six := by
  unfold signsD
  rw [show (Str.ofString "abcdef").cps.toList = [97, 98, 99, 100, 101, 102] from by decide +kernel]
  rfl
theorem sc_names2 : FnScope ["_law_bag_here", "_law_many", "_law_way", "_law_turn", "_law_letters", "_law_words", "_law_stem", "_law_k"] ["_law_bag_here", "_law_many"] (defScope (top 62)) := ⟨rfl, rfl, rfl, by decide +kernel, rfl, by decide +kernel, by decide +kernel⟩
theorem small62 {n : Nat} (h : n < 1000) : n < 2 ^ 62 := Nat.lt_trans h (by decide)
def namesRt (d : D) : Prop := ∃ xs : List Str, d = .lst (dNs xs) ∧ NmsL 6 xs
theorem di_rangeN {X : Cx} {M : Mu} {ds : DS} {tg a : Expr} {pos p : Pos} {n : Nat} (h : DV X M a ds (.int (n : Int))) (hn : n < 1000) (hm : X.mg "range" = none) (hg : Gl X "range" := by rfl) (hs : starEach [a] X.env = [(false, eval a X.env)] := by rfl)
    (hs2 : starEach [a] X.env = (false, eval a X.env) :: starEach [] X.env := by rfl) : DI X M tg (.Call (.Name "range" p) [a] [] pos) ds (Is ((List.range n).map fun i : Nat => D.int (0 + (i : Nat)))) :=
  PI.imp (di_range (Rn := Is n) (DX.weak h fun d r => ⟨n, r, small62 hn, rfl⟩) hm hg hs hs2) fun σ H R ⟨G, s, ok, k⟩ => ⟨G, s, ok, fun J els G1 H1 ⟨m, e, r⟩ => k J els G1 H1 (by rw [e, show m = n from r]; rfl)⟩
theorem fn_names2 (T : Fk K mg) (L : Fl5 K mg) : FnT P w K mg base "_law_names" 4 (fun M l => ∃ (b : Addr) (n : Nat), M.bag = some b ∧ n ≤ 6 ∧ l = [.raw (.ref b), .int (n : Int)]) (fun _ => namesRt) := by
  refine fn_def L.names sc_names2 (fun _ _ _ _ _ _ us hl => match us, hl with | [_, _], _ => rfl) (fun M l ⟨b, n, _, _, e⟩ => by rw [e]; rfl) fun f cdv A outer s H E M l hr ⟨b, n, hM, hn, e⟩ => ?_
  subst e
  have hr1 : Room 1 _ := hr.mono (by decide)
  refine dps_consR (dp_asgR (is := [2, 3]) (u := u2 2 3) (R := fun d => ∃ w t : Int, d = .tup [.int w, .int t] ∧ 0 ≤ t ∧ t < 26) (dx_tup (Rl := fun l => ∃ w t : Int, l = [.int w, .int t] ∧ 0 ≤ t ∧ t < 26) (da_consR (dx_take (many := 3) T L.l4.l2.l1 hM hr1 (dv (d := .raw (.ref b)) 0) d_int (by decide) (by decide)) (da_consR (dx_take (many := 26) T L.l4.l2.l1 hM hr1 (dv (d := .raw (.ref b)) 0) d_int (by decide) (by decide)) da_nil
    (Rm := fun l => ∃ t : Int, l = [.int t] ∧ 0 ≤ t ∧ t < 26) fun d l ⟨i, e1, h1, h2⟩ e2 => ⟨i, by rw [e1, show l = _ from e2], h1, h2⟩) fun d l ⟨i, e1, _⟩ ⟨t, e2, h1, h2⟩ => ⟨i, t, by rw [e1, e2], h1, h2⟩) fun l ⟨w, t, e, h⟩ => by rw [e]; exact ⟨by show 2 ≤ sizeLine; decide, w, t, rfl, h⟩)
    (pg_tup rfl (pgs_cons (pg_name (i := 2) sc_names2.nd rfl (Or.inl rfl)) (pgs_cons (pg_name (i := 3) sc_names2.nd rfl (Or.inr rfl)) pgs_nil))) (fun d ⟨w, t, e, _⟩ => by rw [e]; exact tg2)) fun ds1 ⟨d1, ⟨w, t, e1, t1, t2⟩, e2⟩ => ?_
  subst e1 e2
  obtain ⟨t, rfl⟩ := Int.eq_ofNat_of_zero_le t1
  have t2 : t < 26 := by omega
  have shp : ∀ {ys : List Str}, NmsL 6 ys → ∀ x ∈ ys, Shp 8 (.str x) := fun h x hx => shp8_str (h.all x hx)
  have few : ∀ {ys : List Str}, NmsL 6 ys → ys.length ≤ 1000000 := fun h => Nat.le_trans h.few (by decide)
  refine dps_cons (dp_set (d := .str "abcdefghijklmnopqrstuvwxyz") 4 sc_names2.nd d_str (hx := .inr rfl)) (dps_cons (dp_set (d := .lst (dNs wordsL)) 5 sc_names2.nd (d_lst (l := dNs wordsL) (da_cons d_str (da_cons d_str (da_cons d_str (da_cons d_str (da_cons d_str (da_cons d_str (da_cons d_str (da_cons d_str (da_cons d_str (da_cons d_str (da_1 d_str)))))))))))))
    (dps_cons (dp_if (p := decide (w = 0)) (c_eqI (dv (d := .int w) 2) d_int).t (fun _ => dps_one (dp_ret (DX.weak (dx_mix (f := D.str) (xs := six.take n) T L.l4.l2 hM hr (dv (d := .raw (.ref b)) 0) (DV.to (d_slL (d_listS rfl d_str (by decide +kernel) T.b.list) do_none (do_some (dv (d := .int (n : Int)) 1))) ?_) (shp (six_nms n hn)) (few (six_nms n hn)))
        fun d ⟨ys, e1, p⟩ => ⟨ys, e1, (six_nms n hn).perm p⟩))) fun _ => dps_nil rfl)
      (dps_cons (dp_if (p := decide (w = 1)) (c_eqI (dv (d := .int w) 2) d_int).t (fun _ => dps_one (dp_ret (DX.weak (dx_mix (f := D.str) (xs := ((wordsL ++ wordsL).drop (t % 11)).take n) T L.l4.l2 hM hr (dv (d := .raw (.ref b)) 0) (DV.to (d_slL (d_slL (d_catL (dv (d := .lst (dNs wordsL)) 5) (dv (d := .lst (dNs wordsL)) 5) (by decide +kernel)) (do_some (DV.to (d_mod (d_int1 (dv (d := .int (t : Int)) 3) T.b.int) d_int (by decide)) (y := .int ((t % 11 : Nat) : Int)) (by rw [Int.natCast_emod]; rfl))) do_none) do_none (do_some (dv (d := .int (n : Int)) 1))) ?_) (shp (words_nms _ n (Nat.mod_lt _ (by decide)) hn)) (few (words_nms _ n (Nat.mod_lt _ (by decide)) hn)))
          fun d ⟨ys, e1, p⟩ => ⟨ys, e1, (words_nms _ n (Nat.mod_lt _ (by decide)) hn).perm p⟩))) fun _ => dps_nil rfl)
        (dps_consR (dp_setR (R := fun d => ∃ cs : List Nat, d = .str (Txt.join "" (cs.map one)) ∧ cs.length ≤ 7 ∧ ∀ c ∈ cs, letter c = true) 6 sc_names2.nd (dx_join (z := "") d_str (DX.weak (dx_lc (Re := fun els => ∃ m, els = rngD 0 m ∧ m ≤ 7) (Rb := fun i d e => ∃ c, e = .str (one c) ∧ letter c = true) (own := [("_law_k", 7)]) (is := [7]) (u := fun d ds => ds.set 7 (some d)) (R := fun d => ∃ es : List D, d = .lst es ∧ es.length ≤ 7 ∧ ∀ e ∈ es, ∃ c, e = .str (one c) ∧ letter c = true) rfl sc_names2.nd
            (.inl (di_range (Rn := fun m => m ≤ 7) (DX.weak (dx_take (many := 8) T L.l4.l2.l1 hM hr1 (dv (d := .raw (.ref b)) 0) d_int (by decide) (by decide)) fun d ⟨i, e1, i1, i2⟩ => ⟨i.toNat, by rw [e1, Int.toNat_of_nonneg i1], small62 (by omega), by omega⟩) T.b.range)) (blkOk_by (by rfl)) (fun _ _ _ _ _ => pg_name (i := 7) sc_names2.nd rfl (Or.inl rfl)) (fun _ _ _ => tg1) (by decide)
            (fun _ _ _ _ _ i d _ => dx_ixS (dv (d := .str "abcdefghijklmnopqrstuvwxyz") 4) (dx_take (many := 26) T L.l4.l2.l1 hM hr1 (dv (d := .raw (.ref b)) 0) d_int (by decide) (by decide)) (by decide +kernel) fun y ⟨i, e1, i1, i2⟩ => ⟨i, 97 + i.toNat, e1, ?_, 97 + i.toNat, rfl, letter_at _ (by omega)⟩) (fun els es h1 h2 h3 => ?_) (fun els ⟨n, e, h⟩ => by rw [e]; simp only [rngD, List.length_map, List.length_range]; exact Nat.le_trans h (by decide))) (R' := fun d => ∃ cs : List Nat, d = .lst ((cs.map one).map .str) ∧ cs.length ≤ 7 ∧ ∀ c ∈ cs, letter c = true) fun d ⟨es, e1, e2, e3⟩ => ?_) fun y ⟨cs, e1, h1, h2⟩ => ⟨cs.map one, e1, ?_, cs, rfl, h1, h2⟩) (hx := .inr rfl)) fun ds1 ⟨d1, ⟨cs, e1, c1, c2⟩, e2⟩ => ?_))))
  · rw [signs_six, cut_upto, List.map_take]
  · rw [cut_from]
    refine congrArg D.lst ((cut_upto _ n).trans ?_)
    rw [List.map_take, List.map_drop, List.map_append]
  · have e : i = ((i.toNat : Nat) : Int) := by omega
    rw [e]
    exact atI_nat (letters_at _ (by omega))
  · obtain ⟨m, e, hm⟩ := h1
    have hl : els.length = m := by rw [e]; simp [rngD]
    refine ⟨es, rfl, by omega, fun e' he => ?_⟩
    obtain ⟨i, hi⟩ := List.getElem?_of_mem he
    have lt := (List.getElem?_eq_some_iff.mp hi).1
    exact h3 i els[i] e' (List.getElem?_eq_getElem (by omega)) hi
  · have get : ∀ es : List D, (∀ e ∈ es, ∃ c, e = .str (one c) ∧ letter c = true) → ∃ cs : List Nat, es = (cs.map one).map .str ∧ ∀ c ∈ cs, letter c = true := fun es => by
      induction es with
      | nil => intro _; exact ⟨[], rfl, fun a h => by cases h⟩
      | cons e es ih =>
        intro h
        obtain ⟨as, e4, e5⟩ := ih fun e he => h e (List.mem_cons_of_mem _ he)
        obtain ⟨a, e6, ha⟩ := h e List.mem_cons_self
        refine ⟨a :: as, by rw [List.map_cons, List.map_cons, e4, e6], fun z hz => ?_⟩
        rcases List.mem_cons.mp hz with rfl | hz
        · exact ha
        · exact e5 z hz
    obtain ⟨cs, e4, e5⟩ := get es e3
    refine ⟨cs, by rw [e1, e4], ?_, e5⟩
    rw [e4, List.length_map, List.length_map] at e2
    exact e2
  · refine join_fits (m := 1) (k := 7) (fun p hp => ?_) (by rw [List.length_map]; exact h1) (by decide +kernel)
    obtain ⟨c, _, rfl⟩ := List.mem_map.mp hp
    exact Nat.le_refl 1
  · subst e1 e2
    have hs : tl (Txt.join "" (cs.map one)) = cs := join_ones cs
    have hl : (Txt.join "" (cs.map one)).length ≤ 7 := by rw [len_tl, hs]; exact c1
    generalize Txt.join "" (cs.map one) = stem at hs hl
    have ok := stem_nms (stem := stem) hl (by rw [hs]; exact c2) t n hn
    refine dps_one (dp_ret (DX.weak (dx_mix (f := D.str) (xs := stemL stem t n) T L.l4.l2 hM hr (dv (d := .raw (.ref b)) 0) (DV.to (d_lc (F := fun i : Nat => D.int (0 + (i : Nat))) (f := fun i => .str (stem ++ one (97 + (t + 5 * i) % 26))) (xs := List.range n) (own := [("_law_k", 7)]) (is := [7]) (u := fun d ds => ds.set 7 (some d)) rfl sc_names2.nd (.inl (di_rangeN (dv (d := .int (n : Int)) 1) (by omega) T.b.range)) (blkOk_by (by rfl)) (fun _ _ _ _ _ => pg_name (i := 7) sc_names2.nd rfl (Or.inl rfl)) (fun _ _ => tg1) (by decide)
      (fun _ _ _ _ _ i hi => d_cat (dv (d := .str stem) 6) (d_ixS (n := 97 + (t + 5 * i) % 26) (dv (d := .str "abcdefghijklmnopqrstuvwxyz") 4) (DV.to (d_mod (d_int1 (d_add (dv (d := .int (t : Int)) 3) (d_mul d_int (dv (d := .int (0 + (i : Nat))) 7) (.inl (by decide)))) T.b.int) d_int (by decide)) (y := .int (((t + 5 * i) % 26 : Nat) : Int)) ?_) (atI_nat (letters_at _ (Nat.mod_lt _ (by decide)))) (by decide +kernel)) ?_) (by rw [List.length_range]; exact Nat.le_trans hn (by decide))) ?_) (shp ok) (few ok)) fun d ⟨ys, e1, p⟩ => ⟨ys, e1, ok.perm p⟩))
    · congr 1
      rw [Int.zero_add, Int.natCast_emod]
      rfl
    · have : (one (97 + (t + 5 * i) % 26)).length = 1 := rfl
      exact Nat.le_trans (Nat.add_le_add hl (Nat.le_refl 1)) (by rw [sizeLine_eq]; decide)
    · unfold stemL
      rw [List.map_map]
      rfl
end BB
set_option maxHeartbeats 1000000
namespace BB
open PySem PySem.Spec PyProof.Rows L2 DL SO PySem.W TL
variable {P : Program} {w : World} {K : PySem.W.Frag} {mg : Str → Option Value} {base : Heap}
structure Fl6 (K : PySem.W.Frag) (mg : Str → Option Value) : Prop where
  l5 : Fl5 K mg
  ansText : FnAt K mg "_law_answer_text" (top 73)
  bookText : FnAt K mg "_law_book_text" (top 74)
  scaleText : FnAt K mg "_law_scale_text" (top 75)
  great : FnAt K mg "_law_great_worths" (top 76)
  drawn : FnAt K mg "_law_drawn" (top 71)
/-! ### the law's own texts -/
def sepW (b : Bool) : Str := if b = true then " better " else " not "
theorem sep_tl (b : Bool) : tl (sepW b) = [32] ++ (tl (wordOf b) ++ [32]) := by cases b <;> decide +kernel
theorem sep_len (b : Bool) : (sepW b).length ≤ 8 := by cases b <;> decide +kernel
theorem ans_eq (a : An) : a.1 ++ sepW a.2.2 ++ a.2.1 = ansText a := by
  refine ext_tl ?_
  unfold ansText
  rw [join_eq, tl_join, tl_append, tl_append, sep_tl]
  show (tl a.1 ++ ([32] ++ (tl (wordOf a.2.2) ++ [32]))) ++ tl a.2.1 = tl a.1 ++ ([32] ++ (tl (wordOf a.2.2) ++ ([32] ++ tl a.2.1)))
  simp [List.append_assoc]
theorem sc_ansText : FnScope ["_law_answer"] ["_law_answer"] (defScope (top 73)) := ⟨rfl, rfl, rfl, by decide +kernel, rfl, by decide +kernel, by decide +kernel⟩
theorem fn_ansText (T : Fk K mg) (L : Fl6 K mg) (a : An) (ha : AnOk a) : FnT P w K mg base "_law_answer_text" 1 (fun M l => l = [dAn a]) (fun _ => Is (.str (ansText a))) := by
  refine fn_def L.ansText sc_ansText (fun _ _ _ _ _ _ us hl => match us, hl with | [_], _ => rfl) (fun M l e => by rw [e]; rfl) fun f cdv A outer s H E M l hr e => ?_
  subst e
  have h1 := ha.n1.short
  have h2 := ha.n2.short
  have h3 := sep_len a.2.2
  refine dps_one (dp_ret (DV.to (d_cat (z := a.1 ++ sepW a.2.2) (d_cat (u := sepW a.2.2) (d_ixT (dv (d := dAn a) 0) d_int (atI_nat (j := 0) rfl)) (d_ixL (d_lst (l := [.str " not ", .str " better "]) (da_cons d_str (da_1 d_str))) (d_intB (d_ixT (d := .bl a.2.2) (dv (d := dAn a) 0) d_int (atI_nat (j := 2) rfl)) T.b.int) ?_) ?_) (d_ixT (dv (d := dAn a) 0) d_int (atI_nat (j := 1) rfl)) ?_) (congrArg D.str (ans_eq a))))
  · cases a.2.2
    · exact atI_nat (j := 0) rfl
    · exact atI_nat (j := 1) rfl
  · have h1 : a.1.length ≤ 8 := h1
    exact Nat.le_trans (Nat.add_le_add h1 h3) (by rw [sizeLine_eq]; decide)
  · have h1 : a.1.length ≤ 8 := h1
    have h2 : a.2.1.length ≤ 8 := h2
    rw [len_app]
    exact Nat.le_trans (Nat.add_le_add (Nat.add_le_add h1 h3) h2) (by rw [sizeLine_eq]; decide)
/-- the rows joined -/
theorem d_rows {X : Cx} {M : Mu} {ds : DS} {rows : List Str} {e s0 s1 : Expr} {x : Str} {scope : Scope} {p pos apos : Pos} (hm : ∀ l ∈ rows, l.length ≤ 10000) (hl : rows.length ≤ 1001) (hz : DV X M s0 ds (.str ""))
    (h : DV X M (.ListComp e [⟨s1, .Name x p, [], 0⟩] scope pos) ds (.lst ((rows.map fun l => l ++ ("\n" : Str)).map .str)))
    (hs : starEach [(Expr.ListComp e [⟨s1, .Name x p, [], 0⟩] scope pos)] X.env = [(false, eval (.ListComp e [⟨s1, .Name x p, [], 0⟩] scope pos) X.env)] := by rfl) (hbase : attributeBase s0 "join" X.env (eval s0 X.env) = eval s0 X.env := by rfl) {p3 : Pos} (hline : (apos.endLine == p3.line) = true := by rfl) :
    DV X M (.Call (.Attribute s0 "join" apos) [.ListComp e [⟨s1, .Name x p, [], 0⟩] scope pos] [] p3) ds (.str (linesText rows)) := by
  refine d_join (ys := rows.map fun l => l ++ ("\n" : Str)) hz h ?_ hs hbase hline
  refine join_fits (m := 10001) (k := 1001) (fun p hp => ?_) (by rw [List.length_map]; exact hl) (by decide)
  obtain ⟨a, h1, rfl⟩ := List.mem_map.mp hp
  rw [len_app]
  exact Nat.add_le_add_right (hm a h1) 1
theorem sc_bookText : FnScope ["_law_things", "_law_answers", "_law_rows", "_law_answer", "_law_row"] ["_law_things", "_law_answers"] (defScope (top 74)) := ⟨rfl, rfl, rfl, by decide +kernel, rfl, by decide +kernel, by decide +kernel⟩
theorem fn_bookText (T : Fk K mg) (L : Fl6 K mg) (xs : List Str) (as : List An) (hx : Nms xs) (ha : ∀ a ∈ as, AnOk a) (hl : as.length ≤ 1000) : FnT P w K mg base "_law_book_text" 2 (fun M l => l = [.lst (dNs xs), .lst (as.map dAn)]) (fun _ => Is (.str (bookText xs as))) := by
  refine fn_def L.bookText sc_bookText (fun _ _ _ _ _ _ us hl => match us, hl with | [_, _], _ => rfl) (fun M l e => by rw [e]; rfl) fun f cdv A outer s H E M l hr e => ?_
  subst e
  have hf := hx.few
  have long : ∀ l ∈ thingsLine xs :: as.map ansText, l.length ≤ 10000 := fun l h => by
    rcases List.mem_cons.mp h with rfl | h
    · exact Nat.le_trans (things_len hx) (by decide)
    · exact ans_lines ha l h
  refine dps_cons (dp_set (d := .lst (dNs (thingsLine xs :: as.map ansText))) 2 sc_bookText.nd (DV.to (d_catL (l := [.str (thingsLine xs)]) (m := as.map fun a => .str (ansText a)) (d_lst1 (d_join (ys := ("things" : Str) :: xs) d_str (DV.to (d_catL (d_lst1 d_str) (dv (d := .lst (dNs xs)) 0) ?_) rfl) ?_))
    (d_lc (F := dAn) (f := fun a => .str (ansText a)) (xs := as) (own := [("_law_answer", 3)]) (is := [3]) (u := fun d ds => ds.set 3 (some d)) rfl sc_bookText.nd (.inl (di_lstV (dv (d := .lst (as.map dAn)) 1))) (blkOk_by (by rfl)) (fun _ _ _ _ _ => pg_name (i := 3) sc_bookText.nd rfl (Or.inl rfl)) (fun _ _ => tg1) (by decide)
      (fun _ _ _ _ _ a h => d_call (fn_ansText T L a (ha a h)) hr (da_1 (dv (d := dAn a) 3)) rfl fun z hz => hz) (Nat.le_trans hl (by decide))) ?_) ?_))
    (dps_one (dp_ret (d_rows (rows := thingsLine xs :: as.map ansText) long (by rw [List.length_cons, List.length_map]; omega) d_str (DV.to (d_lc (F := D.str) (f := fun l => .str (l ++ ("\n" : Str))) (xs := thingsLine xs :: as.map ansText) (own := [("_law_row", 4)]) (is := [4]) (u := fun d ds => ds.set 4 (some d)) rfl sc_bookText.nd (.inl (di_lstV (dv (d := .lst (dNs (thingsLine xs :: as.map ansText))) 2))) (blkOk_by (by rfl)) (fun _ _ _ _ _ => pg_name (i := 4) sc_bookText.nd rfl (Or.inl rfl)) (fun _ _ => tg1) (by decide)
      (fun _ _ _ _ _ y hy => d_cat (dv 4) d_str (Nat.le_trans (Nat.add_le_add_right (long y hy) _) (by rw [sizeLine_eq]; decide))) (by rw [List.length_cons, List.length_map]; exact Nat.le_trans (Nat.succ_le_succ hl) (by rw [sizeLine_eq]; decide))) ?_))))
  · rw [List.length_map, sizeLine_eq]; simp only [List.length_cons, List.length_nil]; omega
  · refine join_fits (m := 8) (k := 1001) (fun p hp => ?_) (by rw [List.length_cons]; omega) (by decide)
    rcases List.mem_cons.mp hp with rfl | hp
    · decide
    · exact (hx.all p hp).short
  · rw [List.length_map, sizeLine_eq]; simp only [List.length_cons, List.length_nil]; omega
  · rw [dNs, List.map_cons, List.map_map]; rfl
  · rw [List.map_map]; rfl
theorem sc_scaleText : FnScope ["_law_worths_here", "_law_step", "_law_rows", "_law_thing", "_law_row"] ["_law_worths_here", "_law_step"] (defScope (top 75)) := ⟨rfl, rfl, rfl, by decide +kernel, rfl, by decide +kernel, by decide +kernel⟩
theorem fn_scaleText (T : Fk K mg) (L : Fl6 K mg) (ws : List Wt) (st : Int) (nd : (ws.map (·.1)).Nodup) (hw : ∀ p ∈ ws, WtOk p) (hl : ws.length ≤ 1000) (hs : st.natAbs < 10 ^ 40) : FnT P w K mg base "_law_scale_text" 1 (fun M l => l = [dWs ws, .int st]) (fun _ => Is (.str (scaleText (srtW ws) st))) := by
  refine fn_def L.scaleText sc_scaleText (fun _ _ _ _ _ _ us hl => match us, hl with | [_, _], _ => rfl) (fun M l e => by rw [e]; rfl) fun f cdv A outer s H E M l hr e => ?_
  subst e
  have hn : (ws.map (·.1)).length ≤ sizeLine := by rw [List.length_map]; exact Nat.le_trans hl (by decide)
  have ek : (ws.map dWk).map (fun p => kD p.1) = dNs (ws.map (·.1)) := by rw [List.map_map, dNs, List.map_map]; rfl
  have wok : ∀ x ∈ srtF D.str (ws.map (·.1)), WtOk (x, worthOf ws x) := fun x hx => by
    obtain ⟨p, hp, e⟩ := List.mem_map.mp (srt_mem.mp hx)
    rw [← e, show worthOf ws p.1 = p.2 from worth_at nd p hp]
    exact hw p hp
  have sl : (srtF D.str (ws.map (·.1))).length = ws.length := by rw [srt_len, List.length_map]
  have es : scaleText (srtW ws) st = linesText ((("step " : Str) ++ num st) :: (srtF D.str (ws.map (·.1))).map fun x => worthLine (x, worthOf ws x)) := by
    unfold scaleText srtW
    rw [List.map_map]
    rfl
  have long : ∀ l ∈ (("step " : Str) ++ num st) :: (srtF D.str (ws.map (·.1))).map (fun x => worthLine (x, worthOf ws x)), l.length ≤ 10000 := fun l h => by
    rcases List.mem_cons.mp h with rfl | h
    · rw [len_app]
      have := num_len hs
      have h3 : ("step " : Str).length = 5 := by decide
      omega
    · obtain ⟨x, hx, rfl⟩ := List.mem_map.mp h
      exact Nat.le_trans (worth_len (wok x hx)) (by decide)
  refine dps_cons (dp_set (d := .lst (dNs ((("step " : Str) ++ num st) :: (srtF D.str (ws.map (·.1))).map fun x => worthLine (x, worthOf ws x)))) 2 sc_scaleText.nd (DV.to (d_catL (l := [.str (("step " : Str) ++ num st)]) (m := (srtF D.str (ws.map (·.1))).map fun x => .str (worthLine (x, worthOf ws x))) (d_lst1 (d_cat d_str (d_strI (dv (d := .int st) 1) (log_small hs) T.b.str) ?_))
    (d_lc (F := D.str) (f := fun x => .str (worthLine (x, worthOf ws x))) (xs := srtF D.str (ws.map (·.1))) (own := [("_law_thing", 3)]) (is := [3]) (u := fun d ds => ds.set 3 (some d)) rfl sc_scaleText.nd (.inl (di_lstV (DV.to (d_sortedDk rfl (hu64 hr) (dv (d := dWs ws) 0) (by rw [ek]; exact sortD_str hn) T.b.sorted) (by rw [ek, srtD_map])))) (blkOk_by (by rfl)) (fun _ _ _ _ _ => pg_name (i := 3) sc_scaleText.nd rfl (Or.inl rfl)) (fun _ _ => tg1) (by decide)
      (fun _ _ _ _ _ x hx => d_cat (d_cat (dv (d := .str x) 3) d_str ?_) (d_strI (d_getK (z := x) (hu1 hr) (dv (d := dWs ws) 0) (dv (d := .str x) 3) (look_ws (srt_mem.mp hx))) (log_small (wok x hx).small) T.b.str) ?_) (by rw [srt_len]; exact hn)) ?_) ?_))
    (dps_one (dp_ret (DV.to (d_rows (rows := (("step " : Str) ++ num st) :: (srtF D.str (ws.map (·.1))).map fun x => worthLine (x, worthOf ws x)) long (by rw [List.length_cons, List.length_map, sl]; omega) d_str (DV.to (d_lc (F := D.str) (f := fun l => .str (l ++ ("\n" : Str))) (xs := (("step " : Str) ++ num st) :: (srtF D.str (ws.map (·.1))).map fun x => worthLine (x, worthOf ws x)) (own := [("_law_row", 4)]) (is := [4]) (u := fun d ds => ds.set 4 (some d)) rfl sc_scaleText.nd (.inl (di_lstV (dv (d := .lst (dNs ((("step " : Str) ++ num st) :: (srtF D.str (ws.map (·.1))).map fun x => worthLine (x, worthOf ws x)))) 2))) (blkOk_by (by rfl)) (fun _ _ _ _ _ => pg_name (i := 4) sc_scaleText.nd rfl (Or.inl rfl)) (fun _ _ => tg1) (by decide)
      (fun _ _ _ _ _ y hy => d_cat (dv 4) d_str (Nat.le_trans (Nat.add_le_add_right (long y hy) _) (by rw [sizeLine_eq]; decide))) (by rw [List.length_cons, List.length_map, sl]; exact Nat.le_trans (Nat.succ_le_succ hl) (by rw [sizeLine_eq]; decide))) ?_)) (congrArg D.str es.symm))))
  · have := num_len hs
    exact Nat.le_trans (Nat.add_le_add_left (show (num st).length ≤ 41 from this) _) (by decide)
  · exact Nat.le_trans (Nat.add_le_add_right (wok x hx).nm.short _) (by decide)
  · have h1 : x.length ≤ 8 := (wok x hx).nm.short
    have h2 : (num (worthOf ws x)).length ≤ 41 := num_len (wok x hx).small
    rw [len_app]
    have h3 : (" " : Str).length = 1 := rfl
    refine Nat.le_trans (Nat.add_le_add (Nat.add_le_add_right h1 _) h2) ?_
    rw [h3]
    decide
  · rw [List.length_map, sl, sizeLine_eq]; simp only [List.length_cons, List.length_nil]; omega
  · rw [dNs, List.map_cons, List.map_map]; rfl
  · rw [List.map_map]; rfl
/-! ### great worths -/
structure WtG (xs : List Str) (ws : List Wt) (st : Int) : Prop where
  nms : ws.map (·.1) = xs
  wt : ∀ p ∈ ws, p.2.natAbs < 10 ^ 40
  s1 : 1 ≤ st
  s2 : st.natAbs < 10 ^ 40
def greatRt (xs : List Str) (d : D) : Prop := ∃ ws st, d = .tup [dWs ws, .int st] ∧ WtG xs ws st
theorem sc_great : FnScope ["_law_bag_here", "_law_things", "_law_worths_here", "_law_step", "_law_by", "_law_thing"] ["_law_bag_here", "_law_things"] (defScope (top 76)) := ⟨rfl, rfl, rfl, by decide +kernel, rfl, by decide +kernel, by decide +kernel⟩
theorem fn_great (T : Fk K mg) (L : Fl6 K mg) : FnT P w K mg base "_law_great_worths" 3 (fun M l => ∃ (b : Addr) (xs : List Str), M.bag = some b ∧ NmsL 6 xs ∧ l = [.raw (.ref b), .lst (dNs xs)]) (fun _ d => ∃ xs, NmsL 6 xs ∧ greatRt xs d) := by
  refine fn_def L.great sc_great (fun _ _ _ _ _ _ us hl => match us, hl with | [_, _], _ => rfl) (fun M l ⟨b, xs, _, _, e⟩ => by rw [e]; rfl) fun f cdv A outer s H E M l hr ⟨b, xs, hM, nm, e⟩ => ?_
  subst e
  have hr1 : Room 1 _ := hr.mono (by decide)
  have nd := nm.nd
  have few : xs.length ≤ 100 := Nat.le_trans nm.few (by decide)
  refine dps_consR (dp_asgR (is := [2, 3]) (u := u2 2 3) (dx_call (fn_worths T L.l5.l4 xs nd few) hr Le.rfl' (da_cons (dv (d := .raw (.ref b)) 0) (da_1 (dv (d := .lst (dNs xs)) 1))) (R := worthsRt xs) fun l e => ⟨⟨b, hM, e⟩, fun d r => r⟩)
    (pg_tup rfl (pgs_cons (pg_name (i := 2) sc_great.nd rfl (Or.inr rfl)) (pgs_cons (pg_name (i := 3) sc_great.nd rfl (Or.inl rfl)) pgs_nil))) (fun d ⟨ws, st, e, _⟩ => by rw [e]; exact tg2)) fun ds1 ⟨d1, ⟨ws, st, e1, hw⟩, e2⟩ => ?_
  subst e1 e2
  have fw : ws.length ≤ 100 := by rw [← List.length_map (f := (·.1)), hw.nms]; exact few
  have hnd : (ws.map (·.1)).Nodup := by rw [hw.nms]; exact nd
  refine dps_consR (dp_setR 4 sc_great.nd (dx_ixL (R := fun d => ∃ y : Int, d = .int y ∧ 1 ≤ y ∧ y ≤ 10 ^ 28) (d_lst (l := [.int 1, .int 1, .int (10 ^ (28 : Int).toNat)]) (da_cons d_int (da_cons d_int (da_1 (d_pow d_int d_int ⟨by decide, by decide, by decide⟩))))) (dx_take (many := 3) T L.l5.l4.l2.l1 hM hr1 (dv (d := .raw (.ref b)) 0) d_int (by decide) (by decide)) fun x y e1 ⟨i, e2, i1, i2⟩ => ?_) (hx := .inr rfl)) fun ds1 ⟨d1, ⟨y, e1, y1, y2⟩, e2⟩ => ?_
  · obtain ⟨z, hz, hm⟩ := at_nat (xs := [D.int 1, .int 1, .int (10 ^ (28 : Int).toNat)]) i1 i2
    refine ⟨_, i, z, e1, e2, hz, ?_⟩
    simp only [List.mem_cons, List.not_mem_nil, or_false] at hm
    rcases hm with rfl | rfl | rfl
    · exact ⟨1, rfl, by decide, by decide⟩
    · exact ⟨1, rfl, by decide, by decide⟩
    · exact ⟨_, rfl, by decide, by decide⟩
  subst e1 e2
  have p28 : (10 : Int) ^ 28 = 10000000000000000000000000000 := by decide
  rw [p28] at y2
  have p40 : (10 : Nat) ^ 40 = 10000000000000000000000000000000000000000 := by decide
  have s1 := hw.s1
  have s2 := hw.s2
  have st40 : 1 ≤ st * y ∧ (st * y).natAbs < 10 ^ 40 := by
    rw [p40]
    have h1 := Int.mul_le_mul s2 y2 (by omega) (by omega)
    have h2 := Int.mul_le_mul s1 y1 (by omega) (by omega)
    omega
  refine dps_one (dp_ret (dx_tup (Rl := fun l => ∃ vs, l = [dWs vs, .int (st * y)] ∧ WtG xs vs (st * y)) (da_consR (R := fun d => ∃ vs, d = dWs vs ∧ WtG xs vs (st * y)) ?_ (da_1 (d_mul (dv (d := .int st) 3) (dv (d := .int y) 4) (.inl ⟨by omega, by omega⟩))) fun d l ⟨ws, e1, h⟩ e2 => ⟨ws, by rw [e1, show l = _ from e2], h⟩) fun l ⟨ws, e, h⟩ => by rw [e]; exact ⟨by show 2 ≤ sizeLine; decide, xs, nm, ws, _, rfl, h⟩))
  refine dx_dictP rfl (DX.weak (dx_lcZ (β := Int) (F := fun p : Wt => .str p.1) (f := fun p i => .tup [.str p.1, .int i]) (P := fun _ i => i.natAbs < 10 ^ 40) (xs := ws) (own := [("_law_thing", 5)]) (is := [5]) (u := fun d ds => ds.set 5 (some d)) rfl sc_great.nd
    (.inr (PI.imp (di_keys (Rk := Is (ws.map dWk)) (DX.weak (dv (d := dWs ws) 2) fun d r => ⟨_, r, rfl⟩)) fun σ H R ⟨G, s, ok, k⟩ => ⟨G, s, ok, fun J els G1 H1 ⟨kvs, e, r⟩ => k J els G1 H1 (by rw [e, show kvs = _ from r, List.map_map]; rfl)⟩)) (blkOk_by (by rfl)) (fun _ _ _ _ _ => pg_name (i := 5) sc_great.nd rfl (Or.inl rfl)) (fun _ _ => tg1) (by decide)
    (fun _ _ _ _ _ p hp => dx_tup (Rl := fun l => ∃ i : Int, l = [.str p.1, .int i] ∧ i.natAbs < 10 ^ 40) (da_consR (dv (d := .str p.1) 5) (da_consR (R := fun d => ∃ i : Int, d = .int i ∧ i.natAbs < 10 ^ 40) (dx_opI0 op_sub (Ra := Is (.int (p.2 * y))) (Rb := fun d => ∃ i : Int, d = .int i ∧ 0 ≤ i ∧ i < 9) (d_mul (DV.to (d_getK (z := p.1) (hu1 hr) (dv (d := dWs ws) 2) (dv (d := .str p.1) 5) (look_ws (List.mem_map.mpr ⟨p, hp, rfl⟩))) (congrArg D.int (worth_at hnd p hp))) (dv (d := .int y) 4) (.inl ?_)) (dx_take (many := 9) T L.l5.l4.l2.l1 hM hr1 (dv (d := .raw (.ref b)) 0) d_int (by decide) (by decide)) fun x z e1 ⟨i, e2, i1, i2⟩ => ⟨p.2 * y, i, e1, e2, p.2 * y - i, rfl, ?_⟩) da_nil (Rm := fun l => ∃ i : Int, l = [.int i] ∧ i.natAbs < 10 ^ 40) fun d l ⟨i, e1, i1⟩ e2 => ⟨i, by rw [e1, show l = _ from e2], i1⟩) fun d l e1 ⟨i, e2, h⟩ => ⟨i, by rw [show d = _ from e1, e2], h⟩) fun l ⟨i, e, h⟩ => by rw [e]; exact ⟨by show 2 ≤ sizeLine; decide, i, rfl, h⟩) (Nat.le_trans fw (by decide))) fun d ⟨zs, e1, e2, e3⟩ => ?_) T.b.dict
  · have := hw.wt p hp
    exact ⟨by omega, by omega⟩
  · have := hw.wt p hp
    have h1 := Int.mul_le_mul (Int.le_of_lt this.2) y2 (by omega) (by omega)
    have h2 : 0 ≤ p.2 * y := Int.mul_nonneg this.1 (by omega)
    rw [p40]
    omega
  · refine ⟨zs.map fun z => (z.1.1, .int z.2), by rw [e2, List.map_map]; rfl, ?_, zs.map fun z => (z.1.1, z.2), ?_, ?_, ?_, st40.1, st40.2⟩
    · rw [List.map_map]
      show (zs.map fun z => z.1.1).Nodup
      rw [show (zs.map fun z => z.1.1) = (zs.map (·.1)).map (·.1) from by rw [List.map_map]; rfl, e1]
      exact hnd
    · unfold dWs
      rw [List.map_map, List.map_map]
      rfl
    · rw [List.map_map]
      show (zs.map fun z => z.1.1) = xs
      rw [show (zs.map fun z => z.1.1) = (zs.map (·.1)).map (·.1) from by rw [List.map_map]; rfl, e1]
      exact hw.nms
    · intro q hq
      obtain ⟨z, hz, rfl⟩ := List.mem_map.mp hq
      exact e3 z hz
end BB
set_option maxHeartbeats 1000000
namespace BB
open PySem PySem.Spec PyProof.Rows L2 DL SO PySem.W TL
variable {P : Program} {w : World} {K : PySem.W.Frag} {mg : Str → Option Value} {base : Heap}
/-! ### a book's things and answers drawn -/
theorem AnsOf.srt {xs : List Str} {as : List An} (h : AnsOf xs as) : ((srtF dAn as).map anP).Nodup := ((srt_perm (f := dAn) (xs := as)).map anP).nodup_iff.mpr h.nd
theorem ansOf_bkn {xs : List Str} {as : List An} (hx : Nms xs) (pw : xs.Pairwise fun a b => leF D.str a b = true) (few : xs.length ≤ 12) (h : AnsOf xs as) : BkN xs (srtF dAn as) := by
  have ok : ∀ a ∈ srtF dAn as, a.1 ∈ xs ∧ a.2.1 ∈ xs ∧ a.1 ≠ a.2.1 := fun a ha => h.inn a (srt_mem.mp ha)
  refine ⟨⟨hx, fun a ha => ?_, fun a ha => ⟨(ok a ha).1, (ok a ha).2.1⟩, cons_of_pairs h.srt, ?_⟩, pw, ⟨h.srt, an_pw h.srt srt_pw⟩⟩
  · obtain ⟨h1, h2, h3⟩ := ok a ha
    exact ⟨hx.all _ h1, hx.all _ h2, h3⟩
  · rw [srt_len]
    exact Nat.le_trans h.few (Nat.le_trans (Nat.mul_le_mul few few) (by decide))
def drawnRt (d : D) : Prop := ∃ xs as, d = .tup [.lst (dNs xs), .lst (as.map dAn)] ∧ BkN xs as ∧ xs.length ≤ 6 ∧ as.length ≤ 36
theorem sc_drawn : FnScope ["_law_bag_here", "_law_upto", "_law_things", "_law_many"] ["_law_bag_here", "_law_upto"] (defScope (top 71)) := ⟨rfl, rfl, rfl, by decide +kernel, rfl, by decide +kernel, by decide +kernel⟩
theorem fn_drawn (T : Fk K mg) (L : Fl6 K mg) : FnT P w K mg base "_law_drawn" 5 (fun M l => ∃ (b : Addr), M.bag = some b ∧ l = [.raw (.ref b), .int 6]) (fun _ => drawnRt) := by
  refine fn_def L.drawn sc_drawn (fun _ _ _ _ _ _ us hl => match us, hl with | [_, _], _ => rfl) (fun M l ⟨b, _, e⟩ => by rw [e]; rfl) fun f cdv A outer s H E M l hr ⟨b, hM, e⟩ => ?_
  subst e
  have hr1 : Room 1 _ := hr.mono (by decide)
  refine dps_consR (dp_setR (R := fun d => ∃ xs, d = .lst (dNs xs) ∧ NmsL 6 xs ∧ xs.Pairwise fun a b => leF D.str a b = true) 2 sc_drawn.nd (dx_sorted (hu64 hr) (dx_call (fn_names2 T L.l5) hr Le.rfl' (Rl := fun l => ∃ n : Nat, n ≤ 6 ∧ l = [.raw (.ref b), .int (n : Int)]) (da_consR (dv (d := .raw (.ref b)) 0) (da_consR (dx_take (many := 6 + 1) T L.l5.l4.l2.l1 hM hr1 (dv (d := .raw (.ref b)) 0) (d_add (dv (d := .int 6) 1) d_int) (by decide) (by decide)) da_nil (Rm := fun l => ∃ n : Nat, n ≤ 6 ∧ l = [.int (n : Int)])
    fun d l ⟨i, e1, i1, i2⟩ e2 => ⟨i.toNat, by omega, by rw [e1, show l = _ from e2, Int.toNat_of_nonneg i1]⟩) fun d l e1 ⟨n, hn, e2⟩ => ⟨n, hn, by rw [show d = _ from e1, e2]⟩) fun l ⟨n, hn, e⟩ => ⟨⟨b, n, hM, hn, e⟩, fun d ⟨xs, e1, nm⟩ => ⟨dNs xs, .inl e1, sortD_str (Nat.le_trans nm.few (by decide)), srtF D.str xs, by rw [srtD_map], ⟨fun x hx => nm.all x (srt_mem.mp hx), srt_nd nm.nd, by rw [srt_len]; exact nm.few⟩, srt_pw⟩⟩) T.b.sorted)) fun ds1 ⟨d1, ⟨xs, e1, nm, pw⟩, e2⟩ => ?_
  subst e1 e2
  have few := nm.few
  have sq : (xs.length : Int) * (xs.length : Int) ≤ 36 := by
    have h := Nat.mul_le_mul few few
    have h2 : ((xs.length * xs.length : Nat) : Int) ≤ 36 := by omega
    rwa [Int.natCast_mul] at h2
  have sq0 : 0 ≤ (xs.length : Int) * (xs.length : Int) := Int.mul_nonneg (by omega) (by omega)
  refine dps_consR (dp_setR (R := fun d => ∃ m : Nat, d = .int (m : Int)) 3 sc_drawn.nd (DX.weak (dx_take (many := (xs.length : Int) * (xs.length : Int) + 1) T L.l5.l4.l2.l1 hM hr1 (dv (d := .raw (.ref b)) 0) (d_add (d_mul (d_len (m := xs.length) (dv (d := .lst (dNs xs)) 2) (.inl ⟨_, rfl, by rw [List.length_map]⟩) T.b.len) (d_len (m := xs.length) (dv (d := .lst (dNs xs)) 2) (.inl ⟨_, rfl, by rw [List.length_map]⟩) T.b.len) (.inl ⟨by omega, by omega⟩)) d_int) (by omega) (by omega)) fun d ⟨i, e, i1, i2⟩ => ⟨i.toNat, by rw [e, Int.toNat_of_nonneg i1]⟩)) fun ds1 ⟨d1, ⟨m, e1⟩, e2⟩ => ?_
  subst e1 e2
  have fin : ∀ d, ansRt xs d → ∃ ys, (d = .lst ys ∨ d = .tup ys) ∧ SortD ys ∧ ∃ as, D.lst (srtD ys) = .lst (as.map dAn) ∧ BkN xs as ∧ as.length ≤ 36 := fun d ⟨as, e, h⟩ => by
    have bk := ansOf_bkn (nm.nms (by decide)) pw (by omega) h
    refine ⟨as.map dAn, .inl e, sortD_an ?_, srtF dAn as, by rw [srtD_map], bk, by rw [srt_len]; exact Nat.le_trans h.few (Nat.le_trans (Nat.mul_le_mul few few) (by decide))⟩
    have := bk.ok.few
    rw [srt_len] at this
    exact Nat.le_trans this (by decide)
  have give : ∀ l : List D, (∃ as, l = [D.lst (dNs xs), .lst (as.map dAn)] ∧ BkN xs as ∧ as.length ≤ 36) → l.length ≤ sizeLine ∧ drawnRt (.tup l) := fun l ⟨as, e, bk, fa⟩ => by
    rw [e]
    exact ⟨by show 2 ≤ sizeLine; decide, xs, as, rfl, bk, few, fa⟩
  refine dps_consR (N1 := Is (((slots ["_law_bag_here", "_law_upto", "_law_things", "_law_many"] [.raw (.ref b), .int 6]).set 2 (some (.lst (dNs xs)))).set 3 (some (.int (m : Int))))) (dp_ifR (Rc := fun _ => True) (dt_cmp op_eq (Ra := fun d => ∃ i : Int, d = .int i ∧ 0 ≤ i ∧ i < 3) (Rb := Is (.int 0)) (dx_take (many := 3) T L.l5.l4.l2.l1 hM hr1 (dv (d := .raw (.ref b)) 0) d_int (by decide) (by decide)) d_int (nomark _) fun x y ⟨i, e1, _⟩ e2 G H v w Q ok t1 t2 k => ?_)
    (fun _ => dps_one (dp_ret (dx_tup (Rl := fun l => ∃ as, l = [D.lst (dNs xs), .lst (as.map dAn)] ∧ BkN xs as ∧ as.length ≤ 36) (da_consR (dv (d := .lst (dNs xs)) 2) (da_consR (R := fun d => ∃ as, d = .lst (as.map dAn) ∧ BkN xs as ∧ as.length ≤ 36) (dx_sorted (hu64 hr) (dx_call (fn_any T L.l5.l4 xs nm.nd nm.all (by omega) m) (hr.mono (by decide)) Le.rfl' (da_cons (dv (d := .raw (.ref b)) 0) (da_cons (dv (d := .lst (dNs xs)) 2) (da_1 (dv (d := .int (m : Int)) 3)))) fun l e => ⟨⟨b, hM, e⟩, fin⟩) T.b.sorted) da_nil (Rm := fun l => ∃ as, l = [D.lst (as.map dAn)] ∧ BkN xs as ∧ as.length ≤ 36)
      fun d l ⟨as, e1, bk⟩ e2 => ⟨as, by rw [e1, show l = _ from e2], bk⟩) fun d l e1 ⟨as, e2, bk⟩ => ⟨as, by rw [show d = _ from e1, e2], bk⟩) give))) fun _ => dps_nil rfl) fun ds1 e1 => ?_
  · subst e1
    rw [show y = _ from e2] at t2
    cases t1; cases t2
    exact ⟨rfl, k (.bl _) _ G H ⟨_, rfl, trivial⟩ (Gr.refl ok) (.bl _)⟩
  · rw [show ds1 = _ from e1]
    refine dps_one (dp_ret (dx_tup (Rl := fun l => ∃ as, l = [D.lst (dNs xs), .lst (as.map dAn)] ∧ BkN xs as ∧ as.length ≤ 36) (da_consR (dv (d := .lst (dNs xs)) 2) (da_consR (R := fun d => ∃ as, d = .lst (as.map dAn) ∧ BkN xs as ∧ as.length ≤ 36) (dx_sorted (hu64 hr) (dx_call (fn_some T L.l5.l4 xs nm.nd nm.all (by omega) m) (hr.mono (by decide)) Le.rfl' (da_cons (dv (d := .raw (.ref b)) 0) (da_cons (dv (d := .lst (dNs xs)) 2) (da_1 (dv (d := .int (m : Int)) 3)))) fun l e => ⟨⟨b, hM, e⟩, fin⟩) T.b.sorted) da_nil (Rm := fun l => ∃ as, l = [D.lst (as.map dAn)] ∧ BkN xs as ∧ as.length ≤ 36)
      fun d l ⟨as, e1, bk⟩ e2 => ⟨as, by rw [e1, show l = _ from e2], bk⟩) fun d l e1 ⟨as, e2, bk⟩ => ⟨as, by rw [show d = _ from e1, e2], bk⟩) give))
end BB
set_option maxHeartbeats 1000000
namespace DL
open PySem PySem.Spec PyProof.Rows L2 SO
/-! ### lists of one's own, made behind others -/
/-- nothing stood there, but perhaps a table of code objects that may change -/
def Fre (M : Mu) (H : Hp) (p : Addr) : Prop := ∀ o, H p = some o → M.tab ≠ [] ∧ ∃ ps, o = .tbl ps
section
variable {M : Mu} {G H G' H' G1 H1 : Hp} {p : Addr}
theorem Fre.of (h : H p = none) : Fre M H p := fun o e => by rw [h] at e; cases e
theorem Fre.nlst {xs : List V} (h : Fre M H p) (e : H p = some (.lst xs)) : False := by
  obtain ⟨_, ps, z⟩ := h _ e
  cases z
theorem Fre.nbag (h : Fre M H p) (ok : Ok M G H) : M.bag ≠ some p := fun e => by
  obtain ⟨_, B⟩ := ok.bag p e
  obtain ⟨xs, hx⟩ := B.lst
  exact h.nlst hx
theorem Fre.nscr (h : Fre M H p) (ok : Ok M G H) : M.bag ≠ none → M.scr ≠ p := fun hb e => by
  cases q : M.bag with
  | none => exact hb q
  | some b =>
    obtain ⟨_, n, m, k, ns, _, e2, _⟩ := ok.bag b q
    rw [e] at e2
    exact h.nlst e2
theorem Fre.g (h : Fre M H p) (ok : Ok M G H) : G p = none := by
  cases q : G p with
  | none => rfl
  | some o =>
    obtain ⟨_, ps, z⟩ := h o (ok.sub _ _ q)
    rw [z] at q
    exact absurd q (ok.ntb p ps)
/-- what is free behind was free before -/
theorem Fre.back (h : Fre M H1 p) (g : Gr M G H G1 H1) : Fre M H p := fun o e => by
  have nb := h.nbag g.ok
  by_cases t : M.tab ≠ [] ∧ ∃ ps, o = .tbl ps
  · exact t
  · exact h o (g.fr p o e nb fun ht ps z => t ⟨ht, ps, z⟩)
theorem Gr.unknowF (ok0 : Ok M G H) (hp : Fre M H p) (g : Gr M G H G' H') : Gr M G H (del G' p) H' := by
  have h0 : G p = none := hp.g ok0
  have sub : ∀ a o, del G' p a = some o → G' a = some o := fun a o e => by
    by_cases q : a = p
    · subst q; rw [del_same] at e; cases e
    · rwa [del_ne q] at e
  refine ⟨fun a o e => by rw [del_ne (ne_of_none e h0)]; exact g.ex a o e, ⟨fun a o e => g.ok.sub a o (sub a o e), fun b hb => ?_, g.ok.tab, fun a ps e => g.ok.ntb a ps (sub a _ e)⟩, g.fr, fun a ha => g.nw a fun z => ha ?_⟩
  · obtain ⟨h1, h2⟩ := g.ok.bag b hb
    refine ⟨?_, h2⟩
    by_cases q : b = p
    · rw [q]; exact del_same
    · rw [del_ne q]; exact h1
  · by_cases q : a = p
    · rw [q]; exact del_same
    · rw [del_ne q]; exact z
theorem Gr.knowF {o : HO} (ok0 : Ok M G H) (g : Gr M G H G' H') (hp : Fre M H p) (hG : G' p = none) (hH : H' p = some o) (ho : ∀ ps, o ≠ .tbl ps) : Gr M G H (upd G' p o) H' := by
  have ex : Same G' (upd G' p o) := fun a x e => by rw [upd_ne (ne_of_none e hG)]; exact e
  refine ⟨g.ex.trans ex, ⟨fun a x e => ?_, fun b hb => ?_, g.ok.tab, fun a ps e => ?_⟩, g.fr, fun a ha => ?_⟩
  · by_cases q : a = p
    · subst q; rw [upd_same] at e; rw [hH]; exact e
    · rw [upd_ne q] at e; exact g.ok.sub a x e
  · obtain ⟨gb, B⟩ := g.ok.bag b hb
    exact ⟨by rw [upd_ne (fun z : b = p => hp.nbag ok0 (z ▸ hb))]; exact gb, B⟩
  · by_cases q : a = p
    · subst q; rw [upd_same] at e; exact ho ps (Option.some.inj e)
    · rw [upd_ne q] at e; exact g.ok.ntb a ps e
  · by_cases q : a = p
    · subst q; exact .inr fun x e => by obtain ⟨_, ps, z⟩ := hp x e; exact .inl ⟨ps, z⟩
    · rw [upd_ne q] at ha; exact g.nw a ha
theorem Gr.pokeF {o u : HO} (ok0 : Ok M G H) (g : Gr M G H G' H') (hp : Fre M H p) (hG : G' p = none) (hH : H' p = some o) (ho : ∀ ps, o ≠ .tbl ps) (hc : ∀ pos cv, o ≠ LamX.CodeO pos cv) : Gr M G H G' (upd H' p u) := by
  have ne : ∀ a x, H' a = some x → a ≠ p → upd H' p u a = some x := fun a x e h => by rw [upd_ne h]; exact e
  refine ⟨g.ex, ⟨fun a x e => ne a x (g.ok.sub a x e) (fun z => by rw [z, hG] at e; cases e), fun b hb => ?_, fun q hq => ?_, g.ok.ntb⟩, fun a x e h1 h2 => ne a x (g.fr a x e h1 h2) (fun z => by rw [z] at e; obtain ⟨t, ps, y⟩ := hp x e; exact h2 t ps y), g.nw⟩
  · obtain ⟨gb, n, m, k, ns, e1, e2, r⟩ := g.ok.bag b hb
    refine ⟨gb, n, m, k, ns, ne _ _ e1 (fun z => hp.nbag ok0 (z ▸ hb)), ne _ _ e2 (hp.nscr ok0 (by rw [hb]; simp)), r⟩
  · obtain ⟨ps, h1, h2, h3⟩ := g.ok.tab q hq
    refine ⟨ps, ne _ _ h1 (fun z => by rw [z, hH] at h1; exact ho ps (Option.some.inj h1)), h2, fun pos cv hcv => ?_⟩
    obtain ⟨c, e1, e2⟩ := h3 pos cv hcv
    exact ⟨c, e1, ne _ _ e2 (fun z => by rw [z, hH] at e2; exact hc _ _ (Option.some.inj e2))⟩
/-- a list's change -/
theorem Gr.pokeL {xs ys : List V} (ok0 : Ok M G H) (g : Gr M G H G' H') (hp : Fre M H p) (hG : G' p = none) (hH : H' p = some (.lst xs)) : Gr M G H G' (upd H' p (.lst ys)) :=
  g.pokeF ok0 hp hG hH (fun ps z => by cases z) (fun pos cv z => by unfold LamX.CodeO at z; cases z)
end
/-- where a list of one's own stands -/
structure LsAt (M : Mu) (K : PySem.W.Frag) (H0 : Hp) (p : Addr) (G H : Hp) (ws : List V) (r : List D) : Prop where
  f : Fre M H0 p
  g : G p = none
  h : H p = some (.lst ws)
  t : Dts K G ws r
theorem LsAt.keep {M : Mu} {K : PySem.W.Frag} {G0 H0 G H G1 H1 : Hp} {p : Addr} {ws : List V} {r : List D} (ok0 : Ok M G0 H0) (A : LsAt M K H0 p G H ws r) (g : Gr M G H G1 H1) : LsAt M K H0 p G1 H1 ws r := by
  obtain ⟨h1, h2⟩ := g.keepD A.g A.h imm_lst (A.f.nbag ok0)
  exact ⟨A.f, h1, h2, A.t.mono g.ex⟩
section
variable {K : PySem.W.Frag} {M : Mu} {G0 H0 G H : Hp} {p q : Addr} {ws vs : List V} {r f : List D} {ds : DS} {σ : L2.St} {i j : Nat}
theorem sl_raw {G : Hp} {l : D} (s : Sl K G σ ds) (hi : ds[i]? = some (some (.raw (.ref p)))) (t : Dt K G (.ref p) l) : Sl K G σ (ds.set i (some l)) := by
  have s3 := s.set i t
  have at0 := raw_at s hi
  have e : σ.set i (some (.ref p)) = σ := by
    refine List.ext_getElem? fun j => ?_
    by_cases q : i = j
    · subst q
      rw [List.getElem?_set_self (List.getElem?_eq_some_iff.mp at0).1, at0]
    · rw [List.getElem?_set_ne q]
  rwa [e] at s3
/-- such a list known while an expression is read; the state behind it is told from the state before -/
theorem ls_eval {R : D → Prop} {Q : VK} (hi : ds[i]? = some (some (.raw (.ref p)))) (s : Sl K G σ ds) (g : Gr M G0 H0 G H) (ok0 : Ok M G0 H0) (A : LsAt M K H0 p G H ws r)
    (k : ∀ d v G1 H1, R d → Gr M G0 H0 G1 H1 → Same G G1 → LsAt M K H0 p G1 H1 ws r → (∀ a, G a = none → (∃ o, H a = some o ∧ ¬ Imm o) → M.bag ≠ some a → G1 a = none ∧ H1 a = H a) → (Loose d → Dt K G1 v d) → Q v H1) : tD M K (ds.set i (some (.lst r))) R σ H Q := by
  have gk := g.knowF ok0 A.f A.g A.h (fun ps z => by cases z)
  have ex : Same G (upd G p (.lst ws)) := same_upd A.g
  refine ⟨_, sl_raw (s.mono ex) hi (Dt.lst (K := K) (upd_same (H := G) (a := p) (o := .lst ws)) (A.t.mono ex)), gk.ok, fun d v G1 H1 hr g1 t1 => ?_⟩
  have kn : G1 p = some (.lst ws) := g1.ex _ _ upd_same
  have ex1 : Same G (del G1 p) := fun a o e => by rw [del_ne (ne_of_none e A.g)]; exact g1.ex _ _ (ex _ _ e)
  refine k d v (del G1 p) H1 hr ((gk.trans ok0 g1).unknowF ok0 A.f) ex1 ⟨A.f, del_same, g1.ok.sub _ _ kn, A.t.mono ex1⟩ (fun a ha ⟨o, ho, ni⟩ nb => ?_) fun l => l K G1 _ v (fun a o e n => by
    rw [del_ne fun z => by rw [z, kn] at e; exact n _ (Option.some.inj e).symm]; exact e) t1
  refine ⟨?_, by rw [ho]; exact g1.fr a o ho nb fun _ ps z => ni (.inl ⟨ps, z⟩)⟩
  by_cases h : a = p
  · rw [h]; exact del_same
  · rw [del_ne h]
    cases z : G1 a with
    | none => rfl
    | some u =>
      rcases g1.nw a (by rw [z]; simp) with y | y
      · rw [upd_ne h] at y; exact absurd ha y
      · exact absurd (y o ho) ni
/-- two such lists -/
theorem ls_eval2 {R : D → Prop} {Q : VK} (ij : i ≠ j) (pq : p ≠ q) (hi : ds[i]? = some (some (.raw (.ref p)))) (hj : ds[j]? = some (some (.raw (.ref q)))) (s : Sl K G σ ds) (g : Gr M G0 H0 G H) (ok0 : Ok M G0 H0) (A : LsAt M K H0 p G H ws r) (B : LsAt M K H0 q G H vs f)
    (k : ∀ d v G1 H1, R d → Gr M G0 H0 G1 H1 → Same G G1 → LsAt M K H0 p G1 H1 ws r → LsAt M K H0 q G1 H1 vs f → (Loose d → Dt K G1 v d) → Q v H1) : tD M K ((ds.set i (some (.lst r))).set j (some (.lst f))) R σ H Q := by
  have gk := g.knowF ok0 A.f A.g A.h (fun ps z => by cases z)
  have ex : Same G (upd G p (.lst ws)) := same_upd A.g
  have s2 := sl_raw (s.mono ex) hi (Dt.lst (K := K) (upd_same (H := G) (a := p) (o := .lst ws)) (A.t.mono ex))
  refine ls_eval (by rw [List.getElem?_set_ne ij]; exact hj) s2 gk ok0 ⟨B.f, by rw [upd_ne (Ne.symm pq)]; exact B.g, B.h, B.t.mono ex⟩ fun d v G1 H1 hr g1 e1 B1 _ lo => ?_
  have kn : G1 p = some (.lst ws) := e1 _ _ upd_same
  have ex1 : Same G (del G1 p) := fun a o e => by rw [del_ne (ne_of_none e A.g)]; exact e1 _ _ (ex _ _ e)
  refine k d v (del G1 p) H1 hr (g1.unknowF ok0 A.f) ex1 ⟨A.f, del_same, g1.ok.sub _ _ kn, A.t.mono ex1⟩ ⟨B.f, by rw [del_ne (Ne.symm pq)]; exact B1.g, B1.h, B.t.mono ex1⟩ fun l => l K G1 _ v (fun a o e n => by
    rw [del_ne fun z => by rw [z, kn] at e; exact n _ (Option.some.inj e).symm]; exact e) (lo l)
end
/-- an expression that makes a new list of its own -/
def tDG (M : Mu) (K : PySem.W.Frag) (ds : DS) (Rl : List D → Prop) : TE := fun σ H Q => ∃ G, Sl K G σ ds ∧ Ok M G H ∧ ∀ l ws p G' H', Rl l → Gr M G H G' H' → LsAt M K H p G' H' ws l → Q (.ref p) H'
abbrev DG (X : Cx) (M : Mu) (e : Expr) (ds : DS) (Rl : List D → Prop) : Prop := PE X e (tDG M X.K ds Rl)
section
variable {X : Cx} {M M' : Mu} {ds : DS} {e o : Expr} {es : List Expr} {R Ra : D → Prop} {x m : Str} {k : Nat} {p pos apos : Pos} {Pre : Mu → List D → Prop} {Rt : List D → List D → Prop} {Rl : List D → Prop}
theorem dg_call {R : List D → Prop} (F : FnF X.prog X.w X.K X.mg X.base x k Pre Rt) (hr : Room k X.A) (ha : DA X M (e :: es) ds Rl) (h : ∀ l, Rl l → Pre M l ∧ ∀ d, Rt l d → R d) (hg : Gl X x := by rfl) (hdb : (x == ("__debug__" : Str)) = false := by decide)
    (he : starEach (e :: es) X.env = (false, eval e X.env) :: starEach es X.env := by rfl) (hpl : (backTo pos (starEach es X.env)).any (·.1) = false := by rfl) : DG X M (.Call (.Name x p) (e :: es) [] pos) ds R := by
  obtain ⟨f, fd, ps, F, hm, hk, hb⟩ := F.ex
  refine PE.imp (pe_call F hr hg hm hk hb .nil pass0 ha hdb he hpl) fun σ H Q ⟨G, s, ok, q⟩ => ⟨G, s, ok, fun l vs G1 H1 r1 g1 t1 => ?_⟩
  obtain ⟨h1, h2⟩ := h l r1
  rw [List.append_nil]
  exact ⟨M, G1, l, g1.ok, t1, h1, fun l' ws p G' H' hd g' e1 e2 e3 t' => q l' ws p G' H' (h2 l' hd) (g1.trans ok g') ⟨(Fre.of e1).back g1, e2, e3, t'⟩⟩
/-- .. taken as known -/
theorem dg_dx {R : List D → Prop} (h : DG X M e ds R) : DX X M e ds (fun d => ∃ l, d = .lst l ∧ R l) :=
  PE.imp h fun σ H Q ⟨G, s, ok, q⟩ => ⟨G, s, ok, fun l ws p G' H' r g A => q (.lst l) (.ref p) _ H' ⟨l, rfl, r⟩ (g.knowF ok A.f A.g A.h (fun ps z => by cases z)) (.lst upd_same (A.t.mono (same_upd A.g)))⟩
end
end DL
set_option maxHeartbeats 1000000
namespace BB
open PySem PySem.Spec PyProof.Rows L2 DL SO PySem.W TL
variable {P : Program} {w : World} {K : PySem.W.Frag} {mg : Str → Option Value} {base : Heap} {CB : Addr}
structure Fl7 (K : PySem.W.Frag) (mg : Str → Option Value) : Prop where
  l6 : Fl6 K mg
  made : FnAt K mg "_law_made" (top 70)
/-! ### a book made of answers told in any order, some twice -/
theorem norm_same {as zs : List An} (h : AsN as) (m : ∀ a, a ∈ zs ↔ a ∈ as) : normA zs = as := by
  have cas := cons_of_pairs h.nd
  have czs : Cons zs := fun a ha b hb => cas a ((m a).mp ha) b ((m b).mp hb)
  have cu := uniq_cons czs
  have p1 : (uniqA zs).Perm as := (List.perm_ext_iff_of_nodup uniq_nd (nd_of_pairs h.nd)).mpr fun a => uniq_mem.trans (m a)
  have e : srtF dPr ((uniqA zs).map anP) = as.map anP := (srt_eq inj_pr (p1.map anP)).trans (srt_id h.pw)
  unfold normA
  rw [e, List.map_map]
  have : ∀ a ∈ as, (mkA (uniqA zs) ∘ anP) a = a := fun a ha => mkA_of cu (p1.mem_iff.mpr ha)
  rw [List.map_congr_left this]
  exact List.map_id' as
theorem srt_same {xs ys : List Str} (pw : xs.Pairwise fun a b => leF D.str a b = true) (p : ys.Perm xs) : srtF D.str ys = xs := (srt_eq inj_str p).trans (srt_id pw)
theorem eqv_int (x y : Int) : PyData.eqv (py (.int x)) (py (.int y)) = decide (x = y) := by
  rw [py, py, PyData.eqv]
  by_cases h : x = y
  · subst h; simp
  · rw [decide_eq_false h]; exact beq_eq_false_iff_ne.mpr h
theorem sc_made2 : FnScope ["_law_bag_here", "_law_things", "_law_answers", "_law_names_here", "_law_way", "_law_told", "_law_book"] ["_law_bag_here", "_law_things", "_law_answers"] (defScope (top 70)) := ⟨rfl, rfl, rfl, by decide +kernel, rfl, by decide +kernel, by decide +kernel⟩
abbrev mdDs (b p : Addr) (i : Int) (xs : List Str) (as : List An) : DS := [some (.raw (.ref b)), some (.lst (dNs xs)), some (.lst (as.map dAn)), some (.raw (.ref p)), some (.int i), none, none]
abbrev mdDs2 (b p q : Addr) (i : Int) (xs : List Str) (as : List An) : DS := [some (.raw (.ref b)), some (.lst (dNs xs)), some (.lst (as.map dAn)), some (.raw (.ref p)), some (.int i), some (.raw (.ref q)), none]
/-- what is told: all answers, one of them perhaps more than once -/
def Told (as zs : List An) : Prop := ∃ bs : List An, zs.Perm (as ++ bs) ∧ (∀ a ∈ bs, a ∈ as) ∧ bs.length ≤ 2
theorem Told.mem {as zs : List An} (h : Told as zs) (a : An) : a ∈ zs ↔ a ∈ as := by
  obtain ⟨bs, p, s, _⟩ := h
  rw [p.mem_iff, List.mem_append]
  exact ⟨fun z => z.elim id (s a), .inl⟩
theorem Told.len {as zs : List An} (h : Told as zs) : zs.length ≤ as.length + 2 := by
  obtain ⟨bs, p, _, l⟩ := h
  rw [p.length_eq, List.length_append]
  omega
theorem loose_book {xs : List Str} {as : List An} : Loose (dBook CB xs as) := by
  have stq : ∀ (K : PySem.W.Frag) (G G' : Hp) (xs : List Str) (vs : List V), Dts K G vs (dNs xs) → Dts K G' vs (dNs xs) := fun K G G' xs vs t => by rw [Dts.strs t]; exact dts_strs xs
  have tup : ∀ (K : PySem.W.Frag) (G G' : Hp), (∀ a o, G a = some o → (∀ xs, o ≠ .lst xs) → G' a = some o) → ∀ {a : Addr} {vs : List V}, TupAt K G a vs → TupAt K G' a vs := fun K G G' k a vs h => by
    rcases h with h | ⟨e, h⟩
    · exact .inl (k _ _ h fun xs z => by cases z)
    · refine .inr ⟨e, ?_⟩
      rcases h with (h | ⟨o, h⟩) | h
      · exact .inl (.inl (k _ _ h fun xs z => by cases z))
      · exact .inl (.inr ⟨o, k _ _ h fun xs z => by cases z⟩)
      · exact .inr h
  have an : ∀ (K : PySem.W.Frag) (G G' : Hp), (∀ a o, G a = some o → (∀ xs, o ≠ .lst xs) → G' a = some o) → ∀ (a : An) (v : V), Dt K G v (dAn a) → Dt K G' v (dAn a) := fun K G G' k a v t => by
    cases t with
    | tup h s =>
      refine .tup (tup K G G' k h) ?_
      cases s with
      | cons t1 s =>
        cases s with
        | cons t2 s =>
          cases s with
          | cons t3 s =>
            cases s
            cases t1; cases t2; cases t3
            exact .cons (.str _) (.cons (.str _) (.cons (.bl _) .nil))
  intro K G G' v k t
  cases t with
  | ob h hk s =>
    refine .ob (k _ _ h fun xs z => by cases z) hk ?_
    generalize hvs : List.map (fun x : Str × V => x.2) _ = vs at s
    cases s with
    | cons t1 s =>
      cases s with
      | cons t2 s =>
        cases s with
        | cons t3 s =>
          cases s
          refine .cons ?_ (.cons ?_ (.cons ?_ .nil))
          · cases t1 with
            | tup h1 s1 => exact .tup (tup K G G' k h1) (stq K G G' _ _ s1)
          · cases t2 with
            | dt h2 hk2 s2 =>
              refine .dt ?_ hk2 ?_
              · rcases h2 with h | ⟨o, h⟩
                · exact .inl (k _ _ h fun xs z => by cases z)
                · exact .inr ⟨o, k _ _ h fun xs z => by cases z⟩
              · generalize hw : List.map (fun x : List Key × V => x.2) _ = ws at s2 ⊢
                have e : (as.map fun a => ([kS a.1, kS a.2.1], D.bl a.2.2)).map (·.2) = (as.map fun a => a.2.2).map D.bl := by rw [List.map_map, List.map_map]; rfl
                rw [e] at s2 ⊢
                have : ∀ (bs : List Bool) (ws : List V), Dts K G ws (bs.map D.bl) → Dts K G' ws (bs.map D.bl) := fun bs => by
                  induction bs with
                  | nil => intro ws t; cases t; exact .nil
                  | cons b bs ih => intro ws t; cases t with
                    | cons t1 t2 => cases t1; exact .cons (.bl _) (ih _ t2)
                exact this _ _ s2
          · cases t3 with
            | tup h3 s3 =>
              refine .tup (tup K G G' k h3) ?_
              have : ∀ (bs : List An) (ws : List V), Dts K G ws (bs.map dAn) → Dts K G' ws (bs.map dAn) := fun bs => by
                induction bs with
                | nil => intro ws t; cases t; exact .nil
                | cons b bs ih => intro ws t; cases t with
                  | cons t1 t2 => exact .cons (an K G G' k b _ t1) (ih _ t2)
              exact this _ _ s3
end BB
set_option maxHeartbeats 1000000
namespace BB
open PySem PySem.Spec PyProof.Rows L2 DL SO PySem.W TL
variable {P : Program} {w : World} {K : PySem.W.Frag} {mg : Str → Option Value} {base : Heap} {CB : Addr}
theorem lsAt_reb {M : Mu} {K : PySem.W.Frag} {H0 G1 H1 G0 G H : Hp} {p : Addr} {ws : List V} {r : List D} (A : LsAt M K H1 p G H ws r) (g : Gr M G0 H0 G1 H1) : LsAt M K H0 p G H ws r := ⟨A.f.back g, A.g, A.h, A.t⟩
theorem fn_made2 (T : Fk K mg) (B : Fb K CB) {e0 : Addr} (Q : Fbk K mg CB e0) (L : Fl7 K mg) (xs : List Str) (as : List An) (n : BkN xs as) (fx : xs.length ≤ 100) (fa : as.length ≤ 100) : FnT P w K mg base "_law_made" 9 (fun M l => ∃ b, M.bag = some b ∧ l = [.raw (.ref b), .lst (dNs xs), .lst (as.map dAn)]) (fun _ => Is (dBook CB xs as)) := by
  refine fn_def L.made sc_made2 (fun _ _ _ _ _ _ us hl => match us, hl with | [_, _, _], _ => rfl) (fun M l ⟨b, _, e⟩ => by rw [e]; rfl) fun f cdv A outer s H E M l hr ⟨b, hM, e⟩ => ?_
  subst e
  have hr1 : Room 1 _ := hr.mono (by decide)
  have hr3 : Room 3 _ := hr.mono (by decide)
  have Lm := L.l6.l5.l4.l2
  have cutn : ∀ {l : List An} {m : Nat}, cutG (l.map dAn) none (some (m : Int)) = (l.take m).map dAn := fun {l m} => by rw [cut_upto, List.map_take]
  -- a book of names, of what is told
  have bok : ∀ {ys : List Str} {zs : List An}, ys.Perm xs → (∀ a ∈ zs, a ∈ as) → zs.length ≤ 102 → BkOk ys zs := fun {ys zs} p m l => by
    have ok := n.ok
    exact ⟨⟨fun x hx => ok.nms.all x (p.mem_iff.mp hx), p.nodup_iff.mpr ok.nms.nd, by rw [p.length_eq]; exact ok.nms.few⟩, fun a ha => ok.ans a (m a ha), fun a ha => ⟨p.mem_iff.mpr (ok.inn a (m a ha)).1, p.mem_iff.mpr (ok.inn a (m a ha)).2⟩, fun a ha c hc => ok.cons a (m a ha) c (m c hc), by omega⟩
  refine PSs.imp (pss_cons (ps_par (i := 3) (j := 4) rfl sc_made2.nd rfl rfl (by decide) rfl rfl (pa_cons (dg_call (M := M) (R := fun l => ∃ ys : List Str, l = dNs ys ∧ ys.Perm xs) (Rl := Is [.raw (.ref b), .lst (dNs xs)]) (fn_mix T Lm) hr3 (da_cons (dv (ds := slots ["_law_bag_here", "_law_things", "_law_answers", "_law_names_here", "_law_way", "_law_told", "_law_book"] [.raw (.ref b), .lst (dNs xs), .lst (as.map dAn)]) (d := .raw (.ref b)) 0) (da_1 (dv (d := .lst (dNs xs)) 1))) fun l e => ?_)
        (pa_cons (PE.ex (ι := Unit) (P := fun _ => True) (t := fun _ => tD M K (slots ["_law_bag_here", "_law_things", "_law_answers", "_law_names_here", "_law_way", "_law_told", "_law_book"] [.raw (.ref b), .lst (dNs xs), .lst (as.map dAn)]) (fun d => ∃ i : Int, d = .int i)) fun _ _ => DX.weak (dx_take (many := 4) T Lm.l1 hM hr1 (dv (d := .raw (.ref b)) 0) d_int (by decide) (by decide)) fun d ⟨i, e, _⟩ => ⟨i, e⟩) pa_nil)) rfl)
    (pss_cons (ps_set (i := 5) sc_made2.nd rfl (.inl rfl) (PE.ex (ι := Addr × Int) (P := fun _ => True) (t := fun y => tDG M K (mdDs b y.1 y.2 xs as) (fun l => ∃ zs : List An, l = zs.map dAn ∧ Told as zs)) fun y _ => dg_call (R := fun l => ∃ zs : List An, l = zs.map dAn ∧ Told as zs) (Rl := fun l => ∃ bs : List An, l = [.raw (.ref b), .lst ((as ++ bs).map dAn)] ∧ (∀ a ∈ bs, a ∈ as) ∧ bs.length ≤ 2) (fn_mix T Lm) hr3
        (da_consR (dv (d := .raw (.ref b)) 0) (da_consR (R := fun d => ∃ bs : List An, d = .lst ((as ++ bs).map dAn) ∧ (∀ a ∈ bs, a ∈ as) ∧ bs.length ≤ 2) (dx_catL (Ra := Is (.lst (as.map dAn))) (Rb := fun d => ∃ bs : List An, d = .lst (bs.map dAn) ∧ (∀ a ∈ bs, a ∈ as) ∧ bs.length ≤ 2) (dv (d := .lst (as.map dAn)) 2)
            (dx_rep (Ra := fun d => ∃ bs : List An, d = .lst (bs.map dAn) ∧ (∀ a ∈ bs, a ∈ as) ∧ bs.length ≤ 1) (dx_slL (Rl := Is none) (Rh := Is (some ((1 : Nat) : Int))) (dx_catL (Ra := fun d => ∃ bs : List An, d = .lst (bs.map dAn) ∧ (∀ a ∈ bs, a ∈ as) ∧ bs.length ≤ 100) (Rb := Is (.lst (as.map dAn))) (R := fun d => ∃ bs : List An, d = .lst (bs.map dAn) ∧ (∀ a ∈ bs, a ∈ as))
                (dx_slL (Rl := fun o => ∃ m : Nat, o = some (m : Int)) (dv (d := .lst (as.map dAn)) 2) (dx_some (DX.weak (dx_take (many := (as.length : Int) + 1) T Lm.l1 hM hr1 (dv (d := .raw (.ref b)) 0) (d_add (d_len (m := as.length) (dv (d := .lst (as.map dAn)) 2) (.inl ⟨_, rfl, by rw [List.length_map]⟩) T.b.len) d_int) (by omega) (by omega)) fun d ⟨i, e, i1, _⟩ => ⟨i, e, i.toNat, by rw [Int.toNat_of_nonneg i1]⟩)) do_none fun x l u e1 ⟨m, e2⟩ e3 => ⟨as.map dAn, e1, as.drop m, by rw [e2, show u = none from e3, cut_from, List.map_drop], fun a ha => List.mem_of_mem_drop ha, by rw [List.length_drop]; omega⟩)
                (dv (d := .lst (as.map dAn)) 2) fun x z ⟨bs, e1, m1, l1⟩ e2 => ⟨bs.map dAn, as.map dAn, e1, e2, by rw [List.length_map, List.length_map, sizeLine_eq]; omega, bs ++ as, by rw [List.map_append], fun a ha => (List.mem_append.mp ha).elim (m1 a) id⟩) do_none (do_some d_int) fun x l u ⟨bs, e1, m1⟩ e2 e3 => ⟨bs.map dAn, e1, bs.take 1, by rw [show l = none from e2, show u = _ from e3, cutn], fun a ha => m1 a (List.mem_of_mem_take ha), by rw [List.length_take]; omega⟩)
              (dx_take (many := 3) T Lm.l1 hM hr1 (dv (d := .raw (.ref b)) 0) d_int (by decide) (by decide)) fun x z ⟨bs, e1, m1, l1⟩ ⟨i, e2, i1, i2⟩ => ⟨bs.map dAn, i, e1, e2, by omega, by omega, ?_, (List.replicate i.toNat bs).flatten, ?_, ?_, ?_⟩)
            fun x z e1 ⟨bs, e2, m2, l2⟩ => ⟨as.map dAn, bs.map dAn, e1, e2, by rw [List.length_map, List.length_map, sizeLine_eq]; omega, bs, by rw [List.map_append], m2, l2⟩) da_nil (Rm := fun l => ∃ bs : List An, l = [.lst ((as ++ bs).map dAn)] ∧ (∀ a ∈ bs, a ∈ as) ∧ bs.length ≤ 2) fun d l ⟨bs, e1, h⟩ e2 => ⟨bs, by rw [e1, show l = _ from e2], h⟩) fun d l e1 ⟨bs, e2, h⟩ => ⟨bs, by rw [show d = _ from e1, e2], h⟩) fun l ⟨bs, e, m, len⟩ => ?_))
    (pss_cons (ps_if (PT.ex (ι := Addr × Addr × Int × List An) (P := fun y => Told as y.2.2.2) (t := fun y => tDT M K ((mdDs2 b y.1 y.2.1 y.2.2.1 xs as).set 5 (some (.lst (y.2.2.2.map dAn)))) (Is ((y.2.2.2.map dAn).isEmpty && decide (y.2.2.1 = 0)))) fun y hy => dt_and (c_eqD (n := 2) (hu64 hr) (dv (d := .lst (y.2.2.2.map dAn)) 5) (d_lst da_nil) (shp_lst fun d hd => ?_) (shp_nil.mono (by decide)) (by decide) (eqv_nil _)).t fun _ => (c_eqI (dv (d := .int y.2.2.1) 4) d_int).t)
        (pss_one (ps_ret (PE.ex (ι := Addr × Addr × Int × List Str) (P := fun y => y.2.2.2.Perm xs) (t := fun y => tD M K ((mdDs2 b y.1 y.2.1 y.2.2.1 xs as).set 3 (some (.lst (dNs y.2.2.2)))) (Is (dBook CB xs []))) fun y hy => DV.to (d_make (mk_book1 T B Q y.2.2.2 (bok (zs := []) hy (fun a h => (List.not_mem_nil h).elim) (by decide)) (x := .tup (dNs y.2.2.2)) (.inr rfl)) hr (da_1 (d_tupleOf (DX.weak (dv (d := .lst (dNs y.2.2.2)) 3) fun d e => .inl e) T.b.tuple)) rfl) ?_))) pss_nil)
    (pss_cons (ps_set (i := 6) sc_made2.nd rfl (.inl rfl) (PE.ex (ι := Addr × Addr × Int × List Str × List An) (P := fun y => y.2.2.2.1.Perm xs ∧ Told as y.2.2.2.2) (t := fun y => tD M K (((mdDs2 b y.1 y.2.1 y.2.2.1 xs as).set 3 (some (.lst (dNs y.2.2.2.1)))).set 5 (some (.lst (y.2.2.2.2.map dAn)))) (Is (dBook CB xs as))) fun y hy => DV.to (d_make (mk_book T B Q y.2.2.2.1 y.2.2.2.2 (bok hy.1 (fun a h => (hy.2.mem a).mp h) (by have := hy.2.len; omega)) (x := if decide (1 < y.2.2.1) = true then .lst (dNs y.2.2.2.1) else .tup (dNs y.2.2.2.1)) (y := if decide (y.2.2.1 ∈ [(0 : Int), 2]) = true then .lst (y.2.2.2.2.map dAn) else .tup (y.2.2.2.2.map dAn)) ?_ ?_) hr
        (da_cons (d_if (p := decide (1 < y.2.2.1)) (c_gt (dv (d := .int y.2.2.1) 4) d_int).t (fun h => DV.to (dv (d := .lst (dNs y.2.2.2.1)) 3) (by rw [if_pos h])) fun h => DV.to (d_tupleOf (DX.weak (dv (d := .lst (dNs y.2.2.2.1)) 3) fun d e => .inl e) T.b.tuple) (by rw [if_neg (by rw [h]; exact Bool.false_ne_true)]))
          (da_1 (d_if (p := decide (y.2.2.1 ∈ [(0 : Int), 2])) ((c_in (f := D.int) (x := y.2.2.1) (xs := [0, 2]) (n := 0) (hu65 hr) eqv_int (dv (d := .int y.2.2.1) 4) (d_tup (da_cons d_int (da_1 d_int)) (by decide)) (.inr rfl) shp_int (fun z hz => shp_int) (by decide)).to (decide_eq_decide.mpr Iff.rfl)).t (fun h => DV.to (dv (d := .lst (y.2.2.2.2.map dAn)) 5) (by rw [if_pos h])) fun h => DV.to (d_tupleOf (DX.weak (dv (d := .lst (y.2.2.2.2.map dAn)) 5) fun d e => .inl e) T.b.tuple) (by rw [if_neg (by rw [h]; exact Bool.false_ne_true)])))) rfl) ?_))
    (pss_cons (ps_expr (pe_bm F.plainAttrs_list F.slot_list_append F.type_list_append mt_append (pe_var (i := 3) rfl (.inl rfl)) (pa_cons pe_str pa_nil)))
    (pss_cons (ps_expr (pe_bm0 F.plainAttrs_list F.slot_list_clear F.type_list_clear mt_clear (pe_var (i := 5) rfl (.inl rfl))))
    (pss_one (ps_ret (pe_var (i := 6) rfl (.inl rfl)))))))))) fun Z σ H ⟨G, s, ok, _, fin⟩ => ?_
  · rw [show l = _ from e]
    refine ⟨⟨b, dNs xs, hM, rfl, fun d hd => ?_, by rw [List.length_map]; omega⟩, fun l' ⟨x, ms, z, pm⟩ => ?_⟩
    · obtain ⟨y, hy, rfl⟩ := List.mem_map.mp hd
      exact shp8_str (n.ok.nms.all y hy)
    · injection z with _ z
      injection z with z _
      rw [← D.lst.inj z] at pm
      exact perm_map pm rfl
  · have h1 : bs.length * i.toNat ≤ 1 * 2 := Nat.mul_le_mul l1 (by omega)
    rw [List.length_map, sizeLine_eq]
    omega
  · rw [List.map_flatten, List.map_replicate]
  · intro a ha
    obtain ⟨l, hl, ha⟩ := List.mem_flatten.mp ha
    rw [(List.mem_replicate.mp hl).2] at ha
    exact m1 a ha
  · have h1 : i.toNat * bs.length ≤ 2 * 1 := Nat.mul_le_mul (by omega) l1
    rw [List.length_flatten, List.map_replicate, List.sum_replicate_nat]
    omega
  · rw [e]
    refine ⟨⟨b, (as ++ bs).map dAn, hM, rfl, fun d hd => ?_, by rw [List.length_map, List.length_append]; omega⟩, fun l' ⟨x, ms, z, pm⟩ => ?_⟩
    · obtain ⟨y, hy, rfl⟩ := List.mem_map.mp hd
      exact shp8_an (n.ok.ans y ((List.mem_append.mp hy).elim id (m y)))
    · injection z with _ z
      injection z with z _
      rw [← D.lst.inj z] at pm
      obtain ⟨zs, e1, p1⟩ := perm_map pm rfl
      exact ⟨zs, e1, bs, p1, m, len⟩
  · obtain ⟨a, ha, rfl⟩ := List.mem_map.mp hd
    exact shp_anOk (n.ok.ans a ((hy.mem a).mp ha))
  · show D.ob CB (bookF (srtF D.str y.2.2.2) (normA [])) = dBook CB xs []
    rw [srt_same n.xs hy, norm_id (as := []) List.nodup_nil .nil]
    rfl
  · split
    · exact .inl rfl
    · exact .inr rfl
  · split
    · exact .inl rfl
    · exact .inr rfl
  · show D.ob CB (bookF (srtF D.str y.2.2.2.1) (normA y.2.2.2.2)) = dBook CB xs as
    rw [srt_same n.xs hy.1, norm_same n.as hy.2.mem]
    rfl
  refine ⟨G, s, ok, fun l ws p G1 H1 ⟨ys, el, pm⟩ g1 A1 => ?_⟩
  subst el
  refine ⟨(), trivial, G1, s.mono g1.ex, g1.ok, fun d v G2 H2 ⟨i, e⟩ g2 t2 => ?_⟩
  subst e
  cases t2
  refine ⟨.ref p, .int i, rfl, ?_⟩
  have g02 := g1.trans ok g2
  have A2 := A1.keep ok g2
  have s2 : Sl K G2 _ (mdDs b p i xs as) := ((s.mono g02.ex).set 3 (.raw (.ref p))).set 4 (.int i)
  refine ⟨(p, i), trivial, G2, s2, g02.ok, fun l vs q G3 H3 ⟨zs, el, tz⟩ g3 B3 => ?_⟩
  subst el
  have pq : p ≠ q := fun z => (z ▸ B3.f : Fre M H2 p).nlst A2.h
  have g03 := g02.trans ok g3
  have A3 := A2.keep ok g3
  have B3' := lsAt_reb B3 g02
  have s3 : Sl K G3 _ (mdDs2 b p q i xs as) := (s2.mono g3.ex).set 5 (.raw (.ref q))
  refine ⟨(p, q, i, zs), tz, tdt_of (ls_eval (i := 5) rfl s3 g03 ok B3' fun d v G4 H4 ⟨c, ed, rc⟩ g4 e4 B4 other tl => ?_)⟩
  subst ed
  cases tl loose_bl
  refine ⟨c, rfl, ?_⟩
  obtain ⟨o1, o2⟩ := other p A3.g ⟨_, A3.h, imm_lst⟩ (A3.f.nbag ok)
  have A4 : LsAt M K H p G4 H4 ws (dNs ys) := ⟨A3.f, o1, o2.trans A3.h, A3.t.mono e4⟩
  have s4 := s3.mono e4
  have rc : c = ((zs.map dAn).isEmpty && decide (i = 0)) := rc
  cases c with
  | true =>
    refine iteT ?_
    have z0 : zs = [] := by
      have := (Bool.and_eq_true_iff.mp rc.symm).1
      exact List.map_eq_nil_iff.mp (List.isEmpty_iff.mp this)
    have a0 : as = [] := by
      cases as with
      | nil => rfl
      | cons a r =>
        have := (tz.mem a).mpr List.mem_cons_self
        rw [z0] at this
        cases this
    refine ⟨(p, q, i, ys), pm, ls_eval (i := 3) rfl s4 g4 ok A4 fun d v G5 H5 rd g5 e5 A5 _ tl => ?_⟩
    have rd : d = dBook CB xs [] := rd
    subst rd
    exact fin _ v G5 H5 (by rw [a0]; rfl) g5 (tl loose_book)
  | false =>
    refine iteF ?_
    refine ⟨(p, q, i, ys, zs), ⟨pm, tz⟩, ls_eval2 (i := 3) (j := 5) (by decide) pq rfl rfl s4 g4 ok A4 B4 fun d v G5 H5 rd g5 e5 A5 B5 tl => ?_⟩
    have rd : d = dBook CB xs as := rd
    subst rd
    have s5 := (s4.mono e5).set 6 (tl loose_book)
    have wl : ws.length < sizeLine := by
      have h1 := A5.t.length
      rw [List.length_map, pm.length_eq] at h1
      rw [sizeLine_eq]
      omega
    refine ⟨.ref p, raw_at s5 rfl, .inl ⟨rfl, ws, SqL.of A5.h⟩, p, ws, .str "zz", rfl, rfl, A5.h, wl, ?_⟩
    have g6 := g5.pokeL ok A5.f A5.g A5.h (ys := ws ++ [.str "zz"])
    have hq6 : upd H5 p (.lst (ws ++ [.str "zz"])) q = some (.lst vs) := by rw [upd_ne (Ne.symm pq)]; exact B5.h
    refine ⟨.ref q, raw_at s5 rfl, .inl ⟨rfl, vs, SqL.of hq6⟩, q, vs, rfl, rfl, hq6, ?_⟩
    have g7 := g6.pokeL ok B5.f B5.g hq6 (ys := [])
    obtain ⟨v', hv, tv⟩ := s5.2 6 _ rfl
    exact ⟨v', hv, fin _ v' G5 _ rfl g7 tv⟩
end BB
set_option maxHeartbeats 1000000
namespace DL
open PySem PySem.Spec PyProof.Rows L2 SO
/-! ### expressions that make a list of one's own -/
theorem dts_loose {K : PySem.W.Frag} {G G' : Hp} (k : ∀ a o, G a = some o → (∀ xs, o ≠ .lst xs) → G' a = some o) : ∀ {vs : List V} {es : List D}, (∀ e ∈ es, Loose e) → Dts K G vs es → Dts K G' vs es
  | _, _, _, .nil => .nil
  | _, _, h, .cons t s => .cons (h _ List.mem_cons_self K G G' _ k t) (dts_loose k (fun e he => h e (List.mem_cons_of_mem _ he)) s)
section
variable {X : Cx} {M : Mu} {ds : DS} {tg iter elt a b c : Expr} {Rl : List D → Prop} {scope : Scope} {own : List (Str × Nat)} {is : List Nat} {g : TG} {u : D → DS → DS} {pos : Pos}
theorem dg_nil : DG X M (.List [] pos) ds (Is []) :=
  PE.imp (pe_lst pa_nil) fun σ H Q ⟨G, s, ok, k⟩ => ⟨by show 0 ≤ sizeLine; decide, fun p hp => k [] [] p G _ rfl (Gr.drop ok hp fun ps z => by cases z) ⟨Fre.of hp, ok.sub.free hp, upd_same, .nil⟩⟩
theorem DG.weak {R2 : List D → Prop} (h : DG X M a ds Rl) (f : ∀ l, Rl l → R2 l) : DG X M a ds R2 := PE.imp h fun σ H Q ⟨G, s, ok, k⟩ => ⟨G, s, ok, fun l ws p G' H' r => k l ws p G' H' (f l r)⟩
theorem dg_if {p : Bool} (hc : DT X M c ds (Is p)) (ha : p = true → DG X M a ds Rl) (hb : p = false → DG X M b ds Rl) : DG X M (.IfExp c a b pos) ds Rl :=
  PE.imp (pe_ifExp hc (PE.ex (ι := Unit) (P := fun _ => p = true) fun _ h => ha h) (PE.ex (ι := Unit) (P := fun _ => p = false) fun _ h => hb h)) fun σ H Q ⟨G, s, ok, k⟩ => ⟨G, s, ok, fun q G1 H1 r g1 => by
    have r : q = p := r
    subst r
    have y : tDG M X.K ds Rl σ H1 Q := ⟨G1, s.mono g1.ex, g1.ok, fun l ws q' G' H' r' g' A => k l ws q' G' H' r' (g1.trans ok g') ⟨A.f.back g1, A.g, A.h, A.t⟩⟩
    cases q with
    | true => refine iteT ?_; exact ⟨(), rfl, y⟩
    | false => refine iteF ?_; exact ⟨(), rfl, y⟩⟩
theorem dg_lc {α : Type} {F f : α → D} {xs : List α} (hc : X.calm = true) (hN : X.N.Nodup) (hi : DI X M tg iter ds (Is (xs.map F))) (ok : BlkOk X.N X.env.scope scope own)
    (hg : ∀ (s : Shared) (H : Hp) (C : Addr) (cl : List (Str × Addr)) (fp : List Addr), PG (X.blk s H scope (compEnvC scope cl C X.env) fp) tg g)
    (tgt : ∀ x ∈ xs, TgOk X.K g is (F x) (u (F x))) (his : ∀ i ∈ is, i ∈ own.map (·.2))
    (he : ∀ (s : Shared) (H : Hp) (C : Addr) (cl : List (Str × Addr)) (fp : List Addr) (x : α), x ∈ xs → DV (X.blk s H scope (compEnvC scope cl C X.env) fp) M elt (u (F x) (wipeD ds (own.map (·.2)))) (f x))
    (lo : ∀ x ∈ xs, Loose (f x)) (hz : xs.length ≤ sizeLine) (hs : ∀ x, foldedSetIterable iter X.env x = pure x := by intro _; rfl) :
    DG X M (.ListComp elt [⟨tg, iter, [], 0⟩] scope pos) ds (Is (xs.map f)) := by
  refine PE.imp (pe_lc (g := g) (tt := fun σ H Q => Q true H) (te := fun σ H Q => ∃ z : α, z ∈ xs ∧ tD M X.K (u (F z) (wipeD ds (own.map (·.2)))) (Is (f z)) σ H Q) hc hN hi ok hg (fun _ _ _ _ _ => pts_nil) (fun s H C cl fp => PE.ex fun z hz => he s H C cl fp z hz) hs) fun σ H Q ⟨G, s, ok0, k⟩ => ?_
  refine ⟨G, s, ok0, fun J els G1 H1 re g1 wk D' hD => ?_⟩
  have re : els = xs.map F := re
  subst re
  have get : ∀ {i : Nat} {d : D}, (xs.map F)[i]? = some d → ∃ x, xs[i]? = some x ∧ d = F x := fun {i d} h => by
    rw [List.getElem?_map] at h
    cases q : xs[i]? with
    | none => rw [q] at h; cases h
    | some x => rw [q] at h; cases h; exact ⟨x, rfl, rfl⟩
  refine lc_D (g := g) (tt := fun σ H Q => Q true H) (te := fun σ H Q => ∃ z : α, z ∈ xs ∧ tD M X.K (u (F z) (wipeD ds (own.map (·.2)))) (Is (f z)) σ H Q) (Qd := fun H2 => Q (.ref D') H2) (T := fun _ _ => true) (R := fun i d e => ∃ x, xs[i]? = some x ∧ e = f x) (u := u) wk g1.ok (s.mono g1.ex) hD (fun d hd => ?_) his (fun i d hd σ H Q ⟨G, s, ok0, k⟩ => k true G H rfl (Gr.refl ok0)) (fun i d hd _ σ H Q q => ?_) (by rw [List.length_map]; exact hz) fun es G2 H2 a g2 t2 => ?_
  · obtain ⟨x, hx, rfl⟩ := List.mem_map.mp hd
    exact tgt x hx
  · obtain ⟨x, hx, rfl⟩ := get hd
    obtain ⟨G, s, ok0, k⟩ := q
    exact ⟨x, List.mem_of_getElem? hx, G, s, ok0, fun d v G' H' r => k d v G' H' ⟨x, hx, r⟩⟩
  · obtain ⟨e1, e2⟩ := a.all fun _ _ => rfl
    have ee : es = xs.map f := by
      refine List.ext_getElem? fun i => ?_
      rw [List.getElem?_map]
      rw [List.length_map] at e1
      cases q : xs[i]? with
      | none =>
        rw [List.getElem?_eq_none_iff] at q
        exact List.getElem?_eq_none_iff.mpr (by omega)
      | some x =>
        have lt := (List.getElem?_eq_some_iff.mp q).1
        have h := List.getElem?_eq_getElem (show i < es.length by omega)
        obtain ⟨y, h1, h2⟩ := e2 i (F x) es[i] (by rw [List.getElem?_map, q]; rfl) h
        rw [q] at h1; cases h1
        rw [h, h2]; rfl
    subst ee
    cases t2 with
    | lst h1 s1 =>
      rename_i ws
      have fr := Fre.of (M := M) hD
      refine k _ ws D' (del G2 D') H2 rfl (g1.trans ok0 (g2.unknowF g1.ok fr)) ⟨fr.back g1, del_same, g2.ok.sub _ _ h1, dts_loose (fun a o e n => by
        rw [del_ne fun z => by rw [z, h1] at e; exact n _ (Option.some.inj e).symm]; exact e) (fun e he => ?_) s1⟩
      obtain ⟨x, hx, rfl⟩ := List.mem_map.mp he
      exact lo x hx
end
/-! ### defs that return such a list -/
def spL (K : PySem.W.Frag) (Pre : Mu → List D → Prop) (Rt : List D → List D → Prop) : Sp := fun vs H Q _ => ∃ M G l, Ok M G H ∧ Dts K G vs l ∧ Pre M l ∧
  ∀ l' ws p G' H', Rt l l' → Gr M G H G' H' → LsAt M K H p G' H' ws l' → Q (.ref p) H'
structure FnLs (P : Program) (w : World) (K : PySem.W.Frag) (mg : Str → Option Value) (base : Heap) (x : Str) (k : Nat) (Pre : Mu → List D → Prop) (Rt : List D → List D → Prop) : Prop where
  ex : ∃ f fd ps, FnOk P w K mg base CX0 k f fd ps (spL K Pre Rt) ∧ mg x = some (.ref f) ∧ PySem.W.keepIn K (.ref f) = true ∧ Binds K fd ps []
theorem fn_defLs {P : Program} {w : World} {K : PySem.W.Frag} {mg : Str → Option Value} {base : Heap} {k : Nat} {N ps : List Str} {x : Str} {Pre : Mu → List D → Prop} {Rt : List D → List D → Prop} {st : Stmt} (F : FnAt K mg x st) (S : FnScope N ps (defScope st)) (hbd : ∀ (kV doc pm : Value) (an : Option Addr) (cdv ct : Value) (us : List Value), us.length = ps.length → bindArgs (PySem.W.fnOf x x (defArgs st) (defBody st) (defScope st) .none kV doc pm an cdv ct) ⟨us, []⟩ = pure (ps.zip us))
    (hl : ∀ M l, Pre M l → l.length = ps.length)
    (hb : ∀ (f : Addr) (cdv : Value) (A : Around) (outer : List Env) (s : Shared) (H : Hp) (E : XK) (M : Mu) (l : List D), Room k (A.deeper (envOfC x (defScope st) s.heap.objs.size f cdv)) → Pre M l → ∀ (G : Hp) (vs : List V) (Q : VK), Ok M G H → Dts K G vs l →
      (∀ l' ws p G' H', Rt l l' → Gr M G H G' H' → LsAt M K H p G' H' ws l' → Q (.ref p) H') →
      ∃ t, PSs (cxOf CX0 P w K mg base N x (defScope st) f cdv A outer s H E).nox (defBody st) t ∧ t { nx := fun _ H' => Q .non H', rt := Q } (L2.start N vs) H) : FnLs P w K mg base x (k + 1) Pre Rt := by
  obtain ⟨f, fd, F, hm⟩ := F.ex
  refine ⟨f, fd, ps, F.ok S (fun vs H Q E ⟨M, G, l, ok, t, p, _⟩ => t.length.trans (hl M l p)) fun cdv A outer s H vs Q E hr ⟨M, G, l, ok, t, p, q⟩ => ?_, hm, F.kp, F.bindsN hbd⟩
  obtain ⟨t', h, z⟩ := hb f cdv A outer s H E M l hr p G vs Q ok t q
  exact ⟨t', PSs.nox h, z⟩
theorem dg_callL {X : Cx} {M : Mu} {ds : DS} {e : Expr} {es : List Expr} {x : Str} {k : Nat} {p pos : Pos} {Pre : Mu → List D → Prop} {Rt : List D → List D → Prop} {Rl : List D → Prop} {R : List D → Prop} (F : FnLs X.prog X.w X.K X.mg X.base x k Pre Rt) (hr : Room k X.A) (ha : DA X M (e :: es) ds Rl) (h : ∀ l, Rl l → Pre M l ∧ ∀ d, Rt l d → R d) (hg : Gl X x := by rfl) (hdb : (x == ("__debug__" : Str)) = false := by decide)
    (he : starEach (e :: es) X.env = (false, eval e X.env) :: starEach es X.env := by rfl) (hpl : (backTo pos (starEach es X.env)).any (·.1) = false := by rfl) : DG X M (.Call (.Name x p) (e :: es) [] pos) ds R := by
  obtain ⟨f, fd, ps, F, hm, hk, hb⟩ := F.ex
  refine PE.imp (pe_call F hr hg hm hk hb .nil pass0 ha hdb he hpl) fun σ H Q ⟨G, s, ok, q⟩ => ⟨G, s, ok, fun l vs G1 H1 r1 g1 t1 => ?_⟩
  obtain ⟨h1, h2⟩ := h l r1
  rw [List.append_nil]
  exact ⟨M, G1, l, g1.ok, t1, h1, fun l' ws p G' H' hd g' A => q l' ws p G' H' (h2 l' hd) (g1.trans ok g') ⟨A.f.back g1, A.g, A.h, A.t⟩⟩
end DL
set_option maxHeartbeats 1000000
namespace BB
open PySem PySem.Spec PyProof.Rows L2 DL SO PySem.W TL
variable {P : Program} {w : World} {K : PySem.W.Frag} {mg : Str → Option Value} {base : Heap} {CB : Addr}
theorem loose_tupAt {K : PySem.W.Frag} {G G' : Hp} (k : ∀ a o, G a = some o → (∀ xs, o ≠ .lst xs) → G' a = some o) {a : Addr} {vs : List V} (h : TupAt K G a vs) : TupAt K G' a vs := by
  rcases h with h | ⟨e, h⟩
  · exact .inl (k _ _ h fun xs z => by cases z)
  · refine .inr ⟨e, ?_⟩
    rcases h with (h | ⟨o, h⟩) | h
    · exact .inl (.inl (k _ _ h fun xs z => by cases z))
    · exact .inl (.inr ⟨o, k _ _ h fun xs z => by cases z⟩)
    · exact .inr h
theorem loose_str {z : Str} : Loose (.str z) := fun _ _ _ _ _ t => by cases t; exact .str _
theorem loose_tup {l : List D} (h : ∀ d ∈ l, Loose d) : Loose (.tup l) := fun K G G' v k t => by
  cases t with
  | tup h1 s => exact .tup (loose_tupAt k h1) (dts_loose k h s)
theorem loose_an {a : An} : Loose (dAn a) := loose_tup fun d hd => by
  simp only [List.mem_cons, List.not_mem_nil, or_false] at hd
  rcases hd with rfl | rfl | rfl
  · exact loose_str
  · exact loose_str
  · exact loose_bl
theorem loose_pr {a : Pr} : Loose (dPr a) := loose_tup fun d hd => by
  simp only [List.mem_cons, List.not_mem_nil, or_false] at hd
  rcases hd with rfl | rfl
  · exact loose_str
  · exact loose_str
theorem fn_readWalkF (T : Fk K mg) (W : Fw K mg) (Dr : Fr K w mg) (as : List An) (ha : ∀ a ∈ as, AnOk a) (hl : as.length ≤ 1000) : FnLs P w K mg base "read_walk" 7 (fun M l => l = [.str (walkText as)]) (fun _ l => l = as.map dAn) := by
  refine fn_defLs Dr.readWalk sc_readWalk (fun _ _ _ _ _ _ us hl => match us, hl with | [_], _ => rfl) (fun M l e => by rw [e]; rfl) fun f cdv A outer s H E M l hr e G vs Q ok t fin => ?_
  subst e
  obtain ⟨t0, he⟩ := W.empty
  have hr1 : Room 1 _ := hr.mono (by decide)
  refine ⟨_, pss_cons (dp_need (Rt := fun _ => False) (M := M) (ds := slots ["text", "part"] [.str (walkText as)]) Dr hr1 (d_isi (T := "str") (dv (d := .str (walkText as)) 0) rfl (by decide +kernel) T.b.isi T.b.str)) (pss_one (ps_ret (dg_if (M := M) (ds := slots ["text", "part"] [.str (walkText as)]) (Rl := Is (as.map dAn)) (c_neS (dv (d := .str (walkText as)) 0) (d_gstr he)).t (fun h => ?_) fun h => ?_))), ?_⟩
  · have hne : as ≠ [] := fun z => by
      have := (walk_empty ha).mpr z
      rw [this] at h
      simp at h
    have es : Txt.split (walkText as) ", " = as.map ansText := by
      unfold walkText
      rw [if_neg hne]
      exact parts_read (by simpa using hne) fun l hl => by
        obtain ⟨a, h1, rfl⟩ := List.mem_map.mp hl
        exact ans_free (ha a h1) (by decide) (by decide)
    exact dg_lc (F := fun a : An => .str (ansText a)) (own := [("part", 1)]) (is := [1]) (u := fun d ds => ds.set 1 (some d)) rfl sc_readWalk.nd (di_lstV (DV.to (d_split (dv 0) d_str rfl (walk_len ha hl)) (by rw [es, List.map_map]; rfl))) (blkOk_by (by rfl)) (fun _ _ _ _ _ => pg_name (i := 1) sc_readWalk.nd rfl (Or.inl rfl)) (fun _ _ => tg1) (by decide)
        (fun _ _ _ _ _ y hy => d_call (fn_readAnswer T Dr y (ha y hy)) hr (da_1 (dv 1)) rfl fun z hz => hz) (fun a _ => loose_an) (Nat.le_trans hl (by decide))
  · have h0 : as = [] := (walk_empty ha).mp (by simpa using h)
    subst h0
    exact dg_nil
  · refine ⟨G, Sl.start t, ok, fun ds' σ' G1 H1 e1 s1 g1 => ?_, fun d v G' H' h => h.elim⟩
    subst e1
    refine ⟨G1, s1, g1.ok, fun l ws p G2 H2 r g2 A => ?_⟩
    exact fin l ws p G2 H2 r (g1.trans ok g2) ⟨A.f.back g1, A.g, A.h, A.t⟩
end BB
set_option maxHeartbeats 1000000
namespace DL
open PySem PySem.Spec PyProof.Rows L2 SO
/-! ### repr and == of lists that may hold dicts of numbers -/
mutual
theorem flat_nodict : ∀ d : D, flat d = true → (py d).hasDict = false
  | .non, _ => by simp only [py, PyData.hasDict]
  | .bl _, _ => by simp only [py, PyData.hasDict]
  | .int _, _ => by simp only [py, PyData.hasDict]
  | .str _, _ => by simp only [py, PyData.hasDict]
  | .lst xs, h => by simp only [py, PyData.hasDict]; exact flats_nodict xs (by simpa only [flat] using h)
  | .tup xs, h => by simp only [py, PyData.hasDict]; exact flats_nodict xs (by simpa only [flat] using h)
  | .dk _, h => by simp only [flat] at h; cases h
  | .dt _, h => by simp only [flat] at h; cases h
  | .ob _ _, h => by simp only [flat] at h; cases h
  | .raw _, h => by simp only [flat] at h; cases h
theorem flats_nodict : ∀ ds : List D, flats ds = true → PyData.hasDictAll (pys ds) = false
  | [], _ => by simp only [pys, PyData.hasDictAll]
  | d :: ds, h => by
    rw [flats, Bool.and_eq_true] at h
    simp only [pys, PyData.hasDictAll, flat_nodict d h.1, flats_nodict ds h.2, Bool.or_self]
end
def dNum (ws : List (Key × Int)) : List (Key × D) := ws.map fun p => (p.1, .int p.2)
/-- an item: flat, or a dict of numbers -/
def Ele (d : D) : Prop := Shp 40 d ∨ ∃ ws : List (Key × Int), d = .dk (dNum ws)
/-- what stands there is read as d -/
def Rdb (h : Heap) (u : Value) (d : D) : Prop := ∃ as, Reads h u (py d) as ∧ ((py d).hasDict = true → sysModules ∉ as)
inductive RdA (h : Heap) : List Value → List D → Prop
  | nil : RdA h [] []
  | cons {u : Value} {d : D} {us : List Value} {ds : List D} : Rdb h u d → RdA h us ds → RdA h (u :: us) (d :: ds)
section
variable {X : Cx} {pins : List (Addr × Obj)} {σ : L2.St} {H : Hp} {s : Shared}
theorem key_reads {h : Heap} {k : Key} {v : Value} (e : keyIs k v = true) : Reads h v (pyK k) [] := by
  rcases keyIs_shape e with ⟨i, t, rfl, rfl⟩ | ⟨x, t, rfl, rfl⟩
  · exact .int i t
  · exact .str x t
theorem pairs_reads {P : Program} {w : World} {K : PySem.W.Frag} {h : Heap} : ∀ {ws : List (Key × Int)} {kvs : List (Key × V)} {vs : List (Key × Value)} {es : List DictEntry}, Pairs (mixKind P w) es vs → KV kvs vs → kvs.map (·.1) = ws.map (·.1) → Dts K H (kvs.map (·.2)) (ws.map fun p => .int p.2) →
    ReadsAll h (es.map (·.key)) ((pyk (dNum ws)).map (·.1)) [] ∧ ReadsAll h (es.map (·.val)) ((pyk (dNum ws)).map (·.2)) []
  | [], kvs, vs, es, p, k, e, t => by
    cases kvs with
    | cons _ _ => cases e
    | nil =>
      cases k
      cases p
      exact ⟨.nil, .nil⟩
  | w0 :: ws, kvs, vs, es, p, k, e, t => by
    cases kvs with
    | nil => cases e
    | cons kv kvs =>
      cases k with
      | cons k1 k2 =>
        cases p with
        | cons p1 p2 p3 =>
          cases t with
          | cons t1 t2 =>
            obtain ⟨a1, a2⟩ := k1
            obtain ⟨kk, vv⟩ := kv
            rename_i q vs1 e1 es1
            obtain ⟨qk, qv⟩ := q
            have a1 : kk = qk := a1
            subst a1
            rw [List.map_cons, List.map_cons] at e
            injection e with e2 e3
            have e2 : kk = w0.1 := e2
            have t1 : Dt K H vv (.int w0.2) := t1
            cases t1
            obtain ⟨tk, a2⟩ := a2
            have p2 : e1.val = qv := p2
            have a2 : qv = Value.int w0.2 tk := a2
            obtain ⟨h1, h2⟩ := pairs_reads (h := h) p3 k2 e3 t2
            have r1 : Reads h e1.key (pyK w0.1) [] := key_reads (e2 ▸ p1)
            have r2 : Reads h e1.val (.int w0.2) [] := by rw [p2, a2]; exact .int _ _
            have hd : pyk (dNum (w0 :: ws)) = (pyK w0.1, .int w0.2) :: pyk (dNum ws) := by simp only [dNum, List.map_cons, pyk, py]
            rw [hd]
            exact ⟨ReadsAll.cons r1 h1, ReadsAll.cons r2 h2⟩
theorem ele_reads (I : Inv X pins σ H s) {v : V} {d : D} {u : Value} (t : Dt X.K H v d) (e : Ele d) (r : RelV v u) : Rdb s.heap u d := by
  rcases e with e | ⟨ws, rfl⟩
  · obtain ⟨as, h⟩ := Dp.reads I (py d) v u (t.dp (Same.refl H) e.1) r
    exact ⟨as, h, fun z => by rw [flat_nodict d e.1] at z; cases z⟩
  · cases t with
    | dk h1 hk t1 =>
      cases r
      obtain ⟨_, ne, vs, rv, o, es, ep, ho, ex, hd, _, prs, _⟩ := dk_rd I.hok h1
      have hk' : _ = ws.map (·.1) := hk.trans (by unfold dNum; rw [List.map_map]; rfl)
      have t2 := t1
      unfold dNum at t2
      rw [List.map_map] at t2
      obtain ⟨q1, q2⟩ := pairs_reads (h := s.heap) prs rv hk' t2
      refine ⟨_, by rw [py]; exact Reads.dict ho ex.1 hd q1 q2, fun _ m => ?_⟩
      simp only [List.append_nil, List.mem_singleton] at m
      rw [m] at ne
      simp at ne
theorem eles_reads (I : Inv X pins σ H s) : ∀ {vs : List V} {ds : List D} {us : List Value}, Dts X.K H vs ds → (∀ d ∈ ds, Ele d) → Vals vs us → RdA s.heap us ds
  | _, _, _, .nil, _, r => by cases r; exact .nil
  | _, _, _, .cons t1 t2, e, r => by
    cases r with
    | cons r1 r2 => exact .cons (ele_reads I t1 (e _ List.mem_cons_self) r1) (eles_reads I t2 (fun d hd => e d (List.mem_cons_of_mem _ hd)) r2)
end
theorem RdA.all {h : Heap} : ∀ {us : List Value} {ds : List D}, RdA h us ds → ∃ as, ReadsAll h us (pys ds) as
  | _, _, .nil => ⟨[], by rw [pys]; exact .nil⟩
  | _, _, .cons ⟨a, r, _⟩ t => let ⟨b, q⟩ := t.all; ⟨a ++ b, by rw [pys]; exact .cons r q⟩
theorem RdA.reprs {P : Program} {w : World} {h : Heap} : ∀ {us : List Value} {ds : List D}, RdA h us ds → PyData.showableAll (pys ds) = true → (∀ t ∈ PyData.shownAll (pys ds), t.length ≤ sizeLine) → ∀ n, PyData.depthAll (pys ds) ≤ n →
    ∃ bs, ReadAtMost h n bs ∧ ReprAllK P w bs h n us (PyData.shownAll (pys ds))
  | _, _, .nil, _, _, n, _ => ⟨[], (fun b hb => by cases hb), by simp only [pys, PyData.shownAll]; exact .nil⟩
  | _, _, .cons (d := d) (ds := ds) ⟨a, r, hs⟩ t, sh, sz, n, hn => by
    simp only [pys, PyData.showableAll, Bool.and_eq_true] at sh
    simp only [pys, PyData.shownAll] at sz ⊢
    simp only [pys, PyData.depthAll] at hn
    obtain ⟨b1, h1, k1⟩ := ReprK.of_reads (prog := P) (w := w) r sh.1 hs (sz _ List.mem_cons_self)
    obtain ⟨b2, h2, k2⟩ := t.reprs (P := P) (w := w) sh.2 (fun z hz => sz z (List.mem_cons_of_mem _ hz)) n (by omega)
    refine ⟨b1 ++ b2, fun b hb => ?_, .cons ((k1.more fun b m => List.mem_append.mpr (.inl m)).level_le (by omega)) (k2.more_le (fun b m => List.mem_append.mpr (.inr m)) (Nat.le_refl n))⟩
    rcases List.mem_append.mp hb with m | m
    · obtain ⟨d1, a1, r1, l1⟩ := h1 b m
      exact ⟨d1, a1, r1, by omega⟩
    · exact h2 b m
/-- what alike is asked of -/
structure Alk (d : D) : Prop where
  kind : (Shp 50 d ∧ ∃ xs, d = .lst xs ∨ d = .tup xs) ∨ ∃ ds, d = .lst ds ∧ ds ≠ [] ∧ ∀ e ∈ ds, Ele e
  sh : (py d).showable = true
  sz : (py d).shown.length ≤ sizeLine
  dp : (py d).depth ≤ 50
section
variable {X : Cx}
theorem cr_repr (hg : X.A.guards = some []) (hu : X.A.units + 64 < cLine) : CallR X (.builtin "repr") (fun xs H Q => ∃ G v d, xs = [v] ∧ Same G H ∧ Dt X.K G v d ∧ Alk d ∧ Q (.str (py d).shown) H) := by
  intro pins s σ H xs us Q I r ⟨G, v, d, ex, ss, t, al, q⟩
  subst ex
  obtain ⟨u, rfl, ru⟩ := vals1 r
  have t := t.mono ss
  have hd := al.dp
  rcases al.kind with ⟨fl, xs, hx⟩ | ⟨ds, rfl, ne, el⟩
  · obtain ⟨as, rd⟩ := Dp.reads I (py d) v u (t.dp (Same.refl H) fl.1) ru
    obtain ⟨a, rfl⟩ : ∃ a, u = .ref a := by
      rcases hx with rfl | rfl
      · cases t; exact ⟨_, ru⟩
      · cases t; exact ⟨_, ru⟩
    exact repr_of_reads' rd al.sh (fun z => by rw [flat_nodict d fl.1] at z; cases z) hg (by omega) (fun _ _ e => e) (fun h' u tk hk => ⟨.str _, H, I.kept hk, ⟨_, rfl⟩, q⟩) al.sz
  · cases t with
    | lst h1 s1 =>
      rename_i a vs
      cases ru
      obtain ⟨its, rv, ⟨o, n, ho, hc, hn, hdt⟩, _⟩ := I.list (SqL.of (K := X.K) h1)
      have ra := eles_reads I s1 el rv
      have sh := al.sh
      have sz := al.sz
      simp only [py, PyData.showable] at sh
      simp only [py, PyData.shown] at sz q
      simp only [py, PyData.depth] at hd
      obtain ⟨bs, hb, hk⟩ := ra.reprs (P := X.prog) (w := X.w) sh (fun z hz => Nat.le_trans (listText_mem_le hz) sz) _ (Nat.le_refl _)
      obtain ⟨as, rall⟩ := ra.all
      have hdt' : o.data = .seq its.toArray n := by first | exact hdt | exact hn
      have rd : Reads s.heap (.ref a) (.list (pys ds)) (a :: as) := Reads.list ho hc hdt' (by simpa using rall)
      have na : a ∉ bs := not_mem_of_deeper rd (by simp only [PyData.depth]; omega) hb
      cases its with
      | nil =>
        cases rv
        cases s1
        exact absurd rfl ne
      | cons x l =>
        refine call_repr_slot (by omega) ⟨o, ho, hc⟩ PySem.F.slot_list_repr.toG (call_list_reprK ho hc hdt' na (by simpa using hk.length_eq) (fun i y e => hk.item i y (by simpa using e)) (show X.A.in1.guards = some [] from hg) (fun b _ => Clear.nil b) (by show X.A.units + 1 + _ < cLine; omega) (fun _ _ e => e) (fun h' u tk hk => ?_) sz)
        exact ⟨_, _, rfl, .str _, H, I.kept hk, ⟨_, rfl⟩, q⟩
end
end DL
set_option maxHeartbeats 1000000
namespace DL
open PySem PySem.Spec PyProof.Rows L2 SO PySem.W
/-! ### == of such lists -/
section
variable {X : Cx} {pins : List (Addr × Obj)} {σ : L2.St} {H : Hp} {s : Shared}
theorem kv_ints {K : PySem.W.Frag} : ∀ {ws : List (Key × Int)} {kvs : List (Key × V)} {vs : List (Key × Value)}, KV kvs vs → kvs.map (·.1) = ws.map (·.1) → Dts K H (kvs.map (·.2)) (ws.map fun p => .int p.2) →
    vs.map (·.1) = ws.map (·.1) ∧ ∀ k v, (k, v) ∈ vs → ∃ i t, (k, i) ∈ ws ∧ v = Value.int i t
  | [], kvs, vs, k, e, t => by
    cases kvs with
    | cons _ _ => cases e
    | nil => cases k; exact ⟨rfl, fun _ _ z => by cases z⟩
  | w0 :: ws, kvs, vs, k, e, t => by
    cases kvs with
    | nil => cases e
    | cons kv kvs =>
      cases k with
      | cons k1 k2 =>
        cases t with
        | cons t1 t2 =>
          obtain ⟨a1, a2⟩ := k1
          obtain ⟨kk, vv⟩ := kv
          rename_i q vs1
          obtain ⟨qk, qv⟩ := q
          have a1 : kk = qk := a1
          subst a1
          rw [List.map_cons, List.map_cons] at e
          injection e with e2 e3
          have e2 : kk = w0.1 := e2
          have t1 : Dt K H vv (.int w0.2) := t1
          cases t1
          obtain ⟨tk, a2⟩ := a2
          obtain ⟨h1, h2⟩ := kv_ints k2 e3 t2
          refine ⟨by rw [List.map_cons, List.map_cons, h1, ← e2], fun k v m => ?_⟩
          rcases List.mem_cons.mp m with z | m
          · injection z with z1 z2
            refine ⟨w0.2, tk, ?_, z2.trans a2⟩
            have e4 : (kk, w0.2) = w0 := by rw [show kk = w0.1 from e2]
            rw [z1, e4]
            exact List.mem_cons_self
          · obtain ⟨i, t, h3, h4⟩ := h2 k v m
            exact ⟨i, t, List.mem_cons_of_mem _ h3, h4⟩
theorem nd_val {α β : Type} {l : List (α × β)} (nd : (l.map (·.1)).Nodup) {k : α} {x y : β} (hx : (k, x) ∈ l) (hy : (k, y) ∈ l) : x = y := by
  induction l with
  | nil => cases hx
  | cons p l ih =>
    rw [List.map_cons, List.nodup_cons] at nd
    rcases List.mem_cons.mp hx with e1 | m1
    · rcases List.mem_cons.mp hy with e2 | m2
      · rw [← e1] at e2; injection e2 with _ e2; exact e2.symm
      · exact absurd (List.mem_map.mpr ⟨(k, y), m2, by rw [← e1]⟩) nd.1
    · rcases List.mem_cons.mp hy with e2 | m2
      · exact absurd (List.mem_map.mpr ⟨(k, x), m1, by rw [← e2]⟩) nd.1
      · exact ih nd.2 m1 m2
theorem valueAt_mem {kb : List (Key × Value)} {k : Key} {y : Value} (h : valueAt kb k = some y) : (k, y) ∈ kb := by
  unfold valueAt at h
  cases q : kb.find? fun kv => decide (kv.1 = k) with
  | none => rw [q] at h; cases h
  | some p =>
    rw [q] at h
    have h1 := List.mem_of_find?_eq_some q
    have h2 : p.1 = k := of_decide_eq_true (List.find?_some (p := fun kv : Key × Value => decide (kv.1 = k)) q)
    have h3 : p.2 = y := Option.some.inj h
    rw [← h2, ← h3]
    exact h1
theorem valueAt_is {kb : List (Key × Value)} {k : Key} (h : k ∈ kb.map (·.1)) : (valueAt kb k).isSome = true := by
  unfold valueAt
  cases q : kb.find? fun kv => decide (kv.1 = k) with
  | some p => rfl
  | none =>
    obtain ⟨p, hp, e⟩ := List.mem_map.mp h
    have := List.find?_eq_none.mp q p hp
    simp [e] at this
theorem ele_tree (I : Inv X pins σ H s) {v v' : V} {d : D} {u u' : Value} (t : Dt X.K H v d) (t' : Dt X.K H v' d) (e : Ele d) (r : RelV v u) (r' : RelV v' u') : EqTree X.prog X.w s 50 u u' true := by
  rcases e with e | ⟨ws, rfl⟩
  · obtain ⟨as, h⟩ := Dp.reads I (py d) v u (t.dp (Same.refl H) e.1) r
    obtain ⟨bs, h'⟩ := Dp.reads I (py d) v' u' (t'.dp (Same.refl H) e.1) r'
    refine .leaf fun A hA => ?_
    have q := SeqAt.eqAt_reads (py d) (py d) A s u u' as bs h h' e.2.1 e.2.1 (by have := e.2.2; omega)
    rwa [SeqAt.eqv_refl (py d) e.2.1] at q
  · cases t with
    | dk h1 hk t1 =>
      cases t' with
      | dk h1' hk' t1' =>
        rename_i a kvs a' kvs'
        cases r
        cases r'
        by_cases ab : a = a'
        · subst ab
          exact .same
        · obtain ⟨_, ne, vs, rv, da⟩ := dk_rd I.hok h1
          obtain ⟨_, ne', vs', rv', da'⟩ := dk_rd I.hok h1'
          have t2 := t1
          have t2' := t1'
          unfold dNum at hk hk' t2 t2'
          rw [List.map_map] at hk hk' t2 t2'
          obtain ⟨k1, k2⟩ := kv_ints rv hk t2
          obtain ⟨k1', k2'⟩ := kv_ints rv' hk' t2'
          have nd : (ws.map (·.1)).Nodup := by
            obtain ⟨_, _, _, _, _, _, _, _, nd⟩ := da
            rwa [k1] at nd
          have T : EqTree X.prog X.w s 50 (.ref a) (.ref a') (vs.length == vs'.length && vs.all fun p => (valueAt vs' p.1).isSome && (fun _ : Key => true) p.1) := by
            refine EqTree.dicts (knd := mixKind X.prog X.w) (n := 49) (e := fun _ => true) ab ne ne' da da' fun k v y m m' => ?_
            obtain ⟨i, ti, h3, h4⟩ := k2 k v m
            obtain ⟨j, tj, h5, h6⟩ := k2' k y (valueAt_mem m')
            have ij := nd_val nd h3 h5
            subst ij
            refine .leaf fun A hA => ?_
            rw [h4, h6]
            have q := SeqAt.EqAt.int_int (A := A) (s := s) i ti i tj
            rwa [beq_self_eq_true] at q
          have l1 : vs.length = vs'.length := by
            have := congrArg List.length (k1.trans k1'.symm)
            rwa [List.length_map, List.length_map] at this
          have e1 : (vs.length == vs'.length && vs.all fun p => (valueAt vs' p.1).isSome && (fun _ : Key => true) p.1) = true := by
            rw [l1, beq_self_eq_true, Bool.true_and, List.all_eq_true]
            intro p hp
            rw [valueAt_is (by rw [k1', ← k1]; exact List.mem_map.mpr ⟨p, hp, rfl⟩)]
            rfl
          rwa [e1] at T
theorem eles_tree (I : Inv X pins σ H s) : ∀ {vs vs' : List V} {ds : List D} {us us' : List Value}, Dts X.K H vs ds → Dts X.K H vs' ds → (∀ d ∈ ds, Ele d) → Vals vs us → Vals vs' us' →
    us.length = us'.length ∧ ∀ (j : Nat) (u u' : Value), us[j]? = some u → us'[j]? = some u' → EqTree X.prog X.w s 50 u u' true
  | _, _, _, _, _, .nil, .nil, _, r, r' => by
    cases r; cases r'
    exact ⟨rfl, fun j u u' h => by simp at h⟩
  | _, _, _, _, _, .cons t1 t2, .cons t1' t2', e, r, r' => by
    cases r with
    | cons r1 r2 =>
      cases r' with
      | cons r1' r2' =>
        obtain ⟨h1, h2⟩ := eles_tree I t2 t2' (fun d hd => e d (List.mem_cons_of_mem _ hd)) r2 r2'
        refine ⟨by rw [List.length_cons, List.length_cons, h1], fun j u u' q q' => ?_⟩
        cases j with
        | zero =>
          cases q; cases q'
          exact ele_tree I t1 t1' (e _ List.mem_cons_self) r1 r1'
        | succ j => exact h2 j u u' (by simpa using q) (by simpa using q')
def rEqA (K : PySem.W.Frag) : R2 := fun x y H Q => ∃ ds, Dt K H x (.lst ds) ∧ Dt K H y (.lst ds) ∧ (∀ e ∈ ds, Ele e) ∧ Q (.bl true) H
theorem op_eqA (hu : X.A.units + 64 < cLine) : OpR X (compareOp .Eq) (rEqA X.K) := by
  intro pins s σ H x y v u Q I rx ry ⟨ds, t, t', el, q⟩
  cases t with
  | lst h1 s1 =>
    cases t' with
    | lst h1' s1' =>
      cases rx
      cases ry
      obtain ⟨its, rv, pl, _⟩ := I.list (SqL.of (K := X.K) h1)
      obtain ⟨its', rv', pl', _⟩ := I.list (SqL.of (K := X.K) h1')
      obtain ⟨l1, l2⟩ := eles_tree I s1 s1' el rv rv'
      refine eq_listsT (n := 50) (e := fun _ => true) pl.isList pl'.isList (by simpa using l1) (fun j h1 h2 => ?_) (by omega) ?_
      · refine l2 j _ _ ?_ ?_
        · have : j < its.length := by simpa using h1
          rw [List.getElem?_eq_getElem this]; simp
        · have : j < its'.length := by simpa using h2
          rw [List.getElem?_eq_getElem this]; simp
      · refine ⟨.bl true, H, I, ?_, q⟩
        show Value.bool ((List.range its.toArray.size).all fun _ => true) = Value.bool true
        congr 1
        simp
end
section
variable {X : Cx} {M : Mu} {ds : DS} {a b : Expr} {pos : Pos}
theorem c_eqA {d : D} (hu : X.A.units + 64 < cLine) (al : Alk d) (ha : DV X M a ds d) (hb : DV X M b ds d) : CmpD X M .Eq a b ds true := by
  rcases al.kind with ⟨sh, _⟩ | ⟨es, e, _, el⟩
  · exact c_eqD (n := 50) hu ha hb sh sh (by decide) (SeqAt.eqv_refl (py d) sh.2.1)
  · subst e
    exact cmp_mk (op_eqA hu) ha hb (nomark _) fun G H x y Q ok t1 t2 k => ⟨es, t1.mono ok.sub, t2.mono ok.sub, el, k _ _ G H rfl (Gr.refl ok) (.bl _)⟩
theorem d_repr {n : Str} {p : Pos} {d : D} (hgd : X.A.guards = some []) (hu : X.A.units + 64 < cLine) (al : Alk d) (ha : DV X M a ds d) (hm : X.mg n = none) (hg : Gl X n := by rfl) (hv : bootBuiltins n = some (.builtin "repr") := by rfl)
    (hn : n ≠ "__name__" := by decide) (hdb : (n == ("__debug__" : Str)) = false := by decide) (hs : starEach [a] X.env = (false, eval a X.env) :: starEach [] X.env := by rfl) (hpl : (backTo pos (starEach [] X.env)).any (·.1) = false := by rfl) : DV X M (.Call (.Name n p) [a] [] pos) ds (.str (py d).shown) :=
  dx_callB (Rl := Is [d]) (cr_repr hgd hu) (da_1 ha hs) (fun l e G H xs Q ok t k => by
    rw [show l = [d] from e] at t
    cases t with
    | cons t1 t2 =>
      cases t2
      exact ⟨G, _, d, rfl, ok.sub, t1, al, k _ _ G H rfl (Gr.refl ok) (.str _)⟩) hg hm hv hn hdb hs hpl
end
end DL
set_option maxHeartbeats 1000000
namespace DL
open PySem PySem.Spec PyProof.Rows L2 SO
/-! ### promises of defs that are called while no repr is under way -/
structure FnOkG (P : Program) (w : World) (K : PySem.W.Frag) (mg : Str → Option Value) (base : Heap) (k : Nat) (f : Addr) (fd : FuncData) (ps : List Str) (sp : Sp) : Prop where
  len : ∀ vs H Q E, sp vs H Q E → vs.length = ps.length
  run : ∀ (A : Around) (outer : List Env) (s : Shared) (H : Hp) (args : Args) (us : List Value) (vs : List V) (Q : VK) (E : XK), A.guards = some [] → Room k A → Env0 P w K mg base A outer s H → BindsTo s fd args (ps.zip us) → Vals vs us → sp vs H Q E →
    codeAny (model P w) A (.call (.ref f) args) (CR CX0 outer P w H s Q E) s
structure FnTG (P : Program) (w : World) (K : PySem.W.Frag) (mg : Str → Option Value) (base : Heap) (x : Str) (k : Nat) (Pre : Mu → List D → Prop) (Rt : List D → D → Prop) : Prop where
  ex : ∃ f fd ps, FnOkG P w K mg base k f fd ps (spD K Pre Rt) ∧ mg x = some (.ref f) ∧ PySem.W.keepIn K (.ref f) = true ∧ Binds K fd ps []
section
variable {P : Program} {w : World} {K : PySem.W.Frag} {mg : Str → Option Value} {base : Heap} {k : Nat} {N ps : List Str} {x : Str} {Pre : Mu → List D → Prop} {Rt : List D → D → Prop} {st : Stmt}
theorem okG_of {f : Addr} {fd : FuncData} {sp : Sp} (F : FunD K x x (defArgs st) (defBody st) (defScope st) [] [] f fd) (S : FnScope N ps (defScope st)) (len : ∀ vs H Q E, sp vs H Q E → vs.length = ps.length)
    (hb : ∀ (cdv : Value) (A : Around) (outer : List Env) (s : Shared) (H : Hp) (vs : List V) (Q : VK) (E : XK), A.guards = some [] → Room k (A.deeper (envOfC x (defScope st) s.heap.objs.size f cdv)) → sp vs H Q E →
      ∃ t, PSs (cxOf CX0 P w K mg base N x (defScope st) f cdv A outer s H E) (defBody st) t ∧ t { nx := fun _ H' => Q .non H', rt := Q } (L2.start N vs) H) : FnOkG P w K mg base (k + 1) f fd ps sp := by
  obtain ⟨oc, od, dV, kV, doc, pm, an, cdv, ct, osl, rfl, lk, hcd, _, _⟩ := F.ex
  exact ⟨len, fun A outer s H args us vs Q E hg hr e0 hbi r z => LamX.run_ofS lk hcd S hr e0 hbi r (len vs H Q E z) fun hr' => hb cdv A outer s H vs Q E hg hr' z⟩
theorem fn_defG (F : FnAt K mg x st) (S : FnScope N ps (defScope st)) (hbd : ∀ (kV doc pm : Value) (an : Option Addr) (cdv ct : Value) (us : List Value), us.length = ps.length → bindArgs (PySem.W.fnOf x x (defArgs st) (defBody st) (defScope st) .none kV doc pm an cdv ct) ⟨us, []⟩ = pure (ps.zip us))
    (hl : ∀ M l, Pre M l → l.length = ps.length)
    (hb : ∀ (f : Addr) (cdv : Value) (A : Around) (outer : List Env) (s : Shared) (H : Hp) (E : XK) (M : Mu) (l : List D), A.guards = some [] → Room k (A.deeper (envOfC x (defScope st) s.heap.objs.size f cdv)) → Pre M l →
      DPs (cxOf CX0 P w K mg base N x (defScope st) f cdv A outer s H E).nox M (defBody st) (slots N l) (fun _ => Rt l .non) (Rt l)) : FnTG P w K mg base x (k + 1) Pre Rt := by
  obtain ⟨f, fd, F, hm⟩ := F.ex
  refine ⟨f, fd, ps, okG_of F S (fun vs H Q E ⟨M, G, l, ok, t, p, _⟩ => t.length.trans (hl M l p)) fun cdv A outer s H vs Q E hg hr ⟨M, G, l, ok, t, p, q⟩ => ?_, hm, F.kp, F.bindsN hbd⟩
  exact ⟨_, PSs.nox (hb f cdv A outer s H E M l hg hr p), G, Sl.start t, ok, fun ds' σ' G' H' h1 _ g => q .non .non G' H' h1 g .non, q⟩
end
section
variable {X : Cx} {M M' : Mu} {ds : DS} {e : Expr} {es : List Expr} {R : D → Prop} {x : Str} {k : Nat} {p pos : Pos} {Pre : Mu → List D → Prop} {Rt : List D → D → Prop} {Rl : List D → Prop}
theorem runG {f : Addr} {fd : FuncData} {ps : List Str} {sp : Sp} {pins : List (Addr × Obj)} {σ : L2.St} {H : Hp} {s : Shared} {Q : VK} {us : List Value} {vs : List V} (F : FnOkG X.prog X.w X.K X.mg X.base k f fd ps sp) (hgd : X.A.guards = some []) (hr : Room k X.A) (hb : Binds X.K fd ps [])
    (I : Inv X pins σ H s) (r : Vals vs us) (h : sp vs H Q E0) : wpAny (model X.prog X.w) X.A (call (.ref f) us) (EP X pins σ Q) X.xe s := by
  have hl : us.length = ps.length := by rw [← r.length]; exact F.len _ _ _ _ h
  have hbb : BindsTo s fd ⟨us, []⟩ (ps.zip us) := by
    have q := hb s us I.kIn (by rw [List.append_nil]; exact hl)
    rwa [List.append_nil] at q
  refine wpAny_call (codeAny_mono (F.run X.A X.stack s H ⟨us, []⟩ us vs Q E0 hgd hr I.env0 hbb r h) fun z s' hz => ?_)
  match z, hz with
  | .error v, hz => exact pass0 pins σ H s v s' I hz
  | .ok (.ret v), hz => exact I.after hz
  | .ok .next, hz => exact hz.elim
  | .ok .brk, hz => exact hz.elim
  | .ok .cont, hz => exact hz.elim
theorem dx_callG (F : FnTG X.prog X.w X.K X.mg X.base x k Pre Rt) (hgd : X.A.guards = some []) (hr : Room k X.A) (le : Le M' M) (ha : DA X M (e :: es) ds Rl) (h : ∀ l, Rl l → Pre M' l ∧ ∀ d, Rt l d → R d) (hg : Gl X x := by rfl) (hdb : (x == ("__debug__" : Str)) = false := by decide)
    (he : starEach (e :: es) X.env = (false, eval e X.env) :: starEach es X.env := by rfl) (hpl : (backTo pos (starEach es X.env)).any (·.1) = false := by rfl) : DX X M (.Call (.Name x p) (e :: es) [] pos) ds R := by
  obtain ⟨f, fd, ps, F, hm, hk, hb⟩ := F.ex
  have key : PE X (.Call (.Name x p) (e :: es) [] pos) (fun σ H Q => tDA M X.K ds Rl σ H fun vs H1 => spD X.K Pre Rt vs H1 Q E0) := by
    refine ⟨fun pins s σ H Q I hz => wpAny_Call_Name_kw (ld_glob I hg hm ?_ hdb)⟩
    exact PySem.W.callWith_K (h₀ := X.base) I.ok.mod.kin hk (thn (ha.run pos pins s σ H _ I hz) fun us s1 ⟨vs, H1, I1, r, q⟩ => ⟨I1.kIn, runG F hgd hr hb I1 r q⟩) he hpl
  refine PE.imp key fun σ H Q ⟨G, s, ok, q⟩ => ⟨G, s, ok, fun l vs G1 H1 r1 g1 t1 => ?_⟩
  obtain ⟨h1, h2⟩ := h l r1
  exact ⟨M', G1, l, g1.ok.weaken le, t1, h1, fun d v G' H' hd g' t' => q d v G' H' (h2 d hd) (g1.trans ok (g'.lift g1.ok le)) t'⟩
end
end DL
set_option maxHeartbeats 1000000
namespace BB
open PySem PySem.Spec PyProof.Rows L2 DL SO PySem.W TL
variable {P : Program} {w : World} {K : PySem.W.Frag} {mg : Str → Option Value} {base : Heap} {CB : Addr}
structure Fl8 (K : PySem.W.Frag) (mg : Str → Option Value) : Prop where
  l7 : Fl7 K mg
  alike : FnAt K mg "_law_alike" (top 59)
  bag : FnAt K mg "_law_bag" (top 57)
theorem sc_alike : FnScope ["_law_found", "_law_due"] ["_law_found", "_law_due"] (defScope (top 59)) := ⟨rfl, rfl, rfl, by decide +kernel, rfl, by decide +kernel, by decide +kernel⟩
theorem fn_alike (T : Fk K mg) (L : Fl8 K mg) : FnTG P w K mg base "_law_alike" 1 (fun M l => ∃ d, l = [d, d] ∧ Alk d) (fun _ => Is (.bl true)) := by
  refine fn_defG L.alike sc_alike (fun _ _ _ _ _ _ us hl => match us, hl with | [_, _], _ => rfl) (fun M l ⟨d, e, _⟩ => by rw [e]; rfl) fun f cdv A outer s H E M l hg hr ⟨d, e, al⟩ => ?_
  subst e
  have hgd : (cxOf CX0 P w K mg base ["_law_found", "_law_due"] "_law_alike" (defScope (top 59)) f cdv A outer s H E).nox.A.guards = some [] := hg
  exact dps_one (dp_ret (DV.to (d_and2 (p := true) (q := true) (c_eqA (hu64 hr) al (dv (d := d) 0) (dv (d := d) 1)).v fun _ => DV.to (c_eqS (d_repr hgd (hu64 hr) al (dv (d := d) 0) T.b.repr) (d_repr hgd (hu64 hr) al (dv (d := d) 1) T.b.repr)).v (by simp)) rfl))
end BB
set_option maxHeartbeats 1000000
namespace BB
open PySem PySem.Spec PyProof.Rows L2 DL SO PySem.W TL
variable {P : Program} {w : World} {K : PySem.W.Frag} {mg : Str → Option Value} {base : Heap} {CB : Addr}
def spBag (K : PySem.W.Frag) : Sp := fun vs H Q _ => ∃ (T : List (Addr × Str)) (G : Hp) (a : Addr) (ns : List Int), Ok ⟨none, 0, T⟩ G H ∧ vs = [.ref a] ∧ SqL K H a (ns.map V.int) ∧ ns.length ≤ 63 ∧ ∀ b c G' H', Ok ⟨some b, c, T⟩ G' H' → Q (.ref b) H'
structure FnBag (P : Program) (w : World) (K : PySem.W.Frag) (mg : Str → Option Value) (base : Heap) : Prop where
  ex : ∃ f fd, FnOk P w K mg base CX0 1 f fd ["_law_script"] (spBag K) ∧ mg "_law_bag" = some (.ref f) ∧ PySem.W.keepIn K (.ref f) = true ∧ Binds K fd ["_law_script"] []
theorem sc_bag : FnScope ["_law_script", "_law_cell"] ["_law_script"] (defScope (top 57)) := ⟨rfl, rfl, rfl, by decide +kernel, rfl, by decide +kernel, by decide +kernel⟩
def absI (i : Int) : Int := if i < 0 then -i else i
theorem abs_pos (i : Int) : 0 ≤ absI i := by unfold absI; split <;> omega
theorem cut_all {α : Type} {xs : List α} (h : xs.length ≤ 63) : cutG xs none (some 63) = xs := (cut_upto xs 63).trans (List.take_of_length_le h)
theorem fn_bag (T : Fk K mg) (L : Fl8 K mg) : FnBag P w K mg base := by
  obtain ⟨f, fd, F, hm⟩ := L.bag.ex
  refine ⟨f, fd, F.ok sc_bag (fun vs H Q E ⟨_, _, a, ns, _, e, _⟩ => by rw [e]; rfl) fun cdv A outer s H vs Q E hr ⟨Ts, G, a, ns, ok, e, sq, few, fin⟩ => ?_, hm, F.kp, F.bindsN fun _ _ _ _ _ _ us hl => match us, hl with | [_], _ => rfl⟩
  subst e
  have M0 : Mu := ⟨none, 0, Ts⟩
  refine ⟨_, PSs.nox (pss_one (ps_ret (pe_lst (pa_cons pe_int (pa_cons pe_int (pa_cons pe_int (pa_cons (pe_lc (own := [("_law_cell", 1)]) (g := gName 1) (tt := fun σ H Q => Q true H)
    (te := fun σ H Q => ∃ z : Int, True ∧ tD ⟨none, 0, Ts⟩ K [none, some (.int z)] (Is (.int (absI z))) σ H Q) rfl sc_bag.nd (pi_list (pe_slice sl_list (pe_var (i := 0) rfl (.inl rfl)) po_none (po_some pe_int))) (blkOk_by (by rfl)) (fun _ _ _ _ _ => pg_name (i := 1) sc_bag.nd rfl (Or.inl rfl)) (fun _ _ _ _ _ => pts_nil)
      fun s H C cl fp => PE.ex fun z _ => dx_callB (Rl := Is [D.int z]) call_abs (da_1 (dv (d := .int z) 1)) (fun l e G H xs Q ok t k => ?_) rfl T.b.abs rfl) pa_nil))))))), ?_⟩
  · rw [show l = [D.int z] from e] at t
    cases t with
    | cons t1 t2 =>
      cases t2
      cases t1
      exact ⟨z, rfl, k _ _ G H rfl (Gr.refl ok) (.int _)⟩
  · refine ⟨.ref a, rfl, 63, rfl, a, ns.map V.int, rfl, sq, fun q hq => ?_⟩
    have ec : cutV (ns.map V.int) none (some 63) = ns.map V.int := cut_all (by rw [List.length_map]; exact few)
    rw [ec]
    have g1 := Gr.new (o := .lst (ns.map V.int)) ok hq (fun ps z => by cases z)
    refine ⟨q, rfl, ⟨_, SqL.of upd_same⟩, fun c hc => ?_⟩
    have sl : Sl K (upd G q (.lst (ns.map V.int))) (L2.start ["_law_script", "_law_cell"] [.ref a]) [none, none] := ⟨rfl, fun i d h => by
      match i, h with
      | 0, h => cases h
      | 1, h => cases h⟩
    refine lc_D (g := gName 1) (tt := fun σ H Q => Q true H) (te := fun σ H Q => ∃ z : Int, True ∧ tD ⟨none, 0, Ts⟩ K [none, some (.int z)] (Is (.int (absI z))) σ H Q) (Qd := fun H2 => 4 ≤ sizeLine ∧ ∀ p, H2 p = none → Q (.ref p) (upd H2 p (.lst [.int 0, .int 1234567891, .int 0, .ref c]))) (M := ⟨none, 0, Ts⟩) (K := K) (els := ns.map D.int) (ds := [none, none]) (own := [1]) (is := [1]) (u := fun d ds => ds.set 1 (some d)) (T := fun _ _ => true) (R := fun i d e => ∃ x, ns[i]? = some x ∧ e = .int (absI x)) (wk_list upd_same (dts_ints ns)) g1.ok sl hc (fun _ _ => tg1) (by decide) (fun i d _ σ H Q ⟨G, s, ok0, k⟩ => k true G H rfl (Gr.refl ok0)) (fun i d hd _ σ H Q q => ?_) (by rw [List.length_map]; exact Nat.le_trans few (by decide)) fun es G2 H2 ac g2 t2 => ?_
    · rw [List.getElem?_map] at hd
      cases z : ns[i]? with
      | none => rw [z] at hd; cases hd
      | some x =>
        rw [z] at hd; cases hd
        obtain ⟨G, s, ok0, k⟩ := q
        exact ⟨x, trivial, G, s, ok0, fun d v G' H' r => k d v G' H' ⟨x, z, r⟩⟩
    · obtain ⟨e1, e2⟩ := ac.all fun _ _ => rfl
      rw [List.length_map] at e1
      have ee : es = (ns.map absI).map D.int := by
        refine List.ext_getElem? fun i => ?_
        rw [List.map_map, List.getElem?_map]
        cases z : ns[i]? with
        | none =>
          rw [List.getElem?_eq_none_iff] at z
          exact List.getElem?_eq_none_iff.mpr (by omega)
        | some x =>
          have lt := (List.getElem?_eq_some_iff.mp z).1
          have h := List.getElem?_eq_getElem (show i < es.length by omega)
          obtain ⟨y, h1, h2⟩ := e2 i (.int x) es[i] (by rw [List.getElem?_map, z]; rfl) h
          rw [z] at h1; cases h1
          rw [h, h2]; rfl
      subst ee
      cases t2 with
      | lst h1 s1 =>
        rename_i ws
        have ew := s1.ints
        subst ew
        refine ⟨by show 4 ≤ sizeLine; decide, fun b hb => ?_⟩
        have hcH : H2 c = some (.lst ((ns.map absI).map V.int)) := g2.ok.sub _ _ h1
        have cb : c ≠ b := fun z => by rw [z, hb] at hcH; cases hcH
        have gb : G2 b = none := g2.ok.sub.free hb
        have ex : ∀ x o, H2 x = some o → upd H2 b (.lst [.int 0, .int 1234567891, .int 0, .ref c]) x = some o := fun x o e => by rw [upd_ne (ne_of_none e hb)]; exact e
        refine fin b c G2 _ ⟨fun x o e => ex x o (g2.ok.sub x o e), fun b' e => ?_, g2.ok.tab.ext ex, g2.ok.ntb⟩
        cases e
        exact ⟨gb, 0, 1234567891, 0, ns.map absI, upd_same, ex _ _ hcH, cb, by decide, by decide, by decide, by decide, fun z hz => by
          obtain ⟨x, _, rfl⟩ := List.mem_map.mp hz
          exact abs_pos x, by rw [List.length_map]; exact few⟩
end BB
set_option maxHeartbeats 1000000
namespace BB
open PySem PySem.Spec PyProof.Rows L2 DL SO PySem.W TL
/-! ### unlike things have unlike texts -/
theorem lines_inj {ls ms : List Str} (h1 : ls ≠ []) (h2 : ms ≠ []) (f1 : ∀ l ∈ ls, 10 ∉ tl l) (f2 : ∀ l ∈ ms, 10 ∉ tl l) (e : linesText ls = linesText ms) : ls = ms := by
  rw [lines_eq h1, lines_eq h2] at e
  have e2 := congrArg tl e
  rw [tl_append, tl_append] at e2
  have e3 := ext_tl (List.append_cancel_right e2)
  rw [← lines_read h1 f1, ← lines_read h2 f2, e3]
theorem word_inj : ∀ {a b : Bool}, wordOf a = wordOf b → a = b := by decide
theorem ans_inj {a b : An} (ha : AnOk a) (hb : AnOk b) (e : ansText a = ansText b) : a = b := by
  have h := ans_read ha
  rw [e, ans_read hb] at h
  injection h with h1 h
  injection h with h2 h
  injection h with h3 _
  obtain ⟨x, y, t⟩ := a
  obtain ⟨z, w, u⟩ := b
  have h1 : z = x := h1
  have h2 : wordOf u = wordOf t := h2
  have h3 : w = y := h3
  rw [h1, h3, word_inj h2]
theorem map_inj_on {α β : Type} {f : α → β} : ∀ {xs ys : List α}, (∀ x ∈ xs, ∀ y ∈ ys, f x = f y → x = y) → xs.map f = ys.map f → xs = ys
  | [], [], _, _ => rfl
  | [], _ :: _, _, e => by cases e
  | _ :: _, [], _, e => by cases e
  | x :: xs, y :: ys, h, e => by
    rw [List.map_cons, List.map_cons] at e
    injection e with e1 e2
    rw [h x List.mem_cons_self y List.mem_cons_self e1, map_inj_on (fun a ha b hb => h a (List.mem_cons_of_mem _ ha) b (List.mem_cons_of_mem _ hb)) e2]
theorem thingsLine_inj {xs ys : List Str} (hx : Nms xs) (hy : Nms ys) (e : thingsLine xs = thingsLine ys) : xs = ys := by
  have h := things_read hx
  rw [e, things_read hy] at h
  injection h with _ h
  exact h.symm
theorem free_line {xs : List Str} {as : List An} (hx : Nms xs) (ha : ∀ a ∈ as, AnOk a) : ∀ l ∈ thingsLine xs :: as.map ansText, 10 ∉ tl l := fun l h => by
  rcases List.mem_cons.mp h with rfl | h
  · exact things_free hx (by decide) (by decide)
  · obtain ⟨a, h1, rfl⟩ := List.mem_map.mp h
    exact ans_free (ha a h1) (by decide) (by decide)
theorem bookText_inj {xs ys : List Str} {as bs : List An} (hx : Nms xs) (hy : Nms ys) (ha : ∀ a ∈ as, AnOk a) (hb : ∀ a ∈ bs, AnOk a) (e : bookText xs as = bookText ys bs) : xs = ys ∧ as = bs := by
  have h := lines_inj (by simp) (by simp) (free_line hx ha) (free_line hy hb) e
  injection h with h1 h2
  exact ⟨thingsLine_inj hx hy h1, map_inj_on (fun a h3 b h4 => ans_inj (ha a h3) (hb b h4)) h2⟩
theorem tab_book (xs : List Str) (ps : List Pr) : tableText xs ps = bookText xs (ps.map prAn) := by
  unfold tableText bookText
  rw [List.map_map]
  rfl
theorem prAn_inj {p q : Pr} (e : prAn p = prAn q) : p = q := by
  obtain ⟨a, b⟩ := p
  obtain ⟨c, d⟩ := q
  unfold prAn at e
  injection e with e1 e2
  injection e2 with e2 _
  have e1 : a = c := e1
  have e2 : b = d := e2
  rw [e1, e2]
theorem prAn_ok {ps : List Pr} (h : ∀ p ∈ ps, PrOk p) : ∀ a ∈ ps.map prAn, AnOk a := fun a ha => by
  obtain ⟨p, hp, rfl⟩ := List.mem_map.mp ha
  exact h p hp
theorem tableText_inj {xs ys : List Str} {as bs : List Pr} (hx : Nms xs) (hy : Nms ys) (ha : ∀ a ∈ as, PrOk a) (hb : ∀ a ∈ bs, PrOk a) (e : tableText xs as = tableText ys bs) : xs = ys ∧ as = bs := by
  rw [tab_book, tab_book] at e
  obtain ⟨h1, h2⟩ := bookText_inj hx hy (prAn_ok ha) (prAn_ok hb) e
  exact ⟨h1, map_inj_on (fun a _ b _ => prAn_inj) h2⟩
theorem num_inj {i j : Int} (hi : i.natAbs < 10 ^ 40) (hj : j.natAbs < 10 ^ 40) (e : num i = num j) : i = j := by
  have h := num_read hi
  rw [e, num_read hj] at h
  exact (Option.some.inj h).symm
theorem worth_inj {p q : Wt} (hp : WtOk p) (hq : WtOk q) (e : worthLine p = worthLine q) : p = q := by
  have h := row_worth hp
  rw [e, row_worth hq] at h
  injection h with h1 h
  injection h with h2 _
  obtain ⟨x, i⟩ := p
  obtain ⟨y, j⟩ := q
  have h1 : y = x := h1
  have h2 : num j = num i := h2
  have h3 : j = i := num_inj hq.small hp.small h2
  rw [h1, h3]
theorem scaleText_inj {ws vs : List Wt} {st su : Int} (hw : ∀ p ∈ ws, WtOk p) (hv : ∀ p ∈ vs, WtOk p) (hs : st.natAbs < 10 ^ 40) (hu : su.natAbs < 10 ^ 40) (e : scaleText ws st = scaleText vs su) : ws = vs ∧ st = su := by
  have free : ∀ {ws : List Wt} {st : Int}, (∀ p ∈ ws, WtOk p) → ∀ l ∈ (("step " : Str) ++ num st) :: ws.map worthLine, 10 ∉ tl l := fun {ws st} hw l h => by
    rcases List.mem_cons.mp h with rfl | h
    · exact step_free st
    · obtain ⟨p, hp, rfl⟩ := List.mem_map.mp h
      exact worth_free (hw p hp)
  have h := lines_inj (by simp) (by simp) (free hw) (free hv) e
  injection h with h1 h2
  refine ⟨map_inj_on (fun a h3 b h4 => worth_inj (hw a h3) (hv b h4)) h2, ?_⟩
  have h3 := row_step st
  rw [h1, row_step su] at h3
  injection h3 with _ h3
  injection h3 with h3 _
  exact (num_inj hu hs h3).symm
theorem book_same {xs ys : List Str} {as bs : List An} (hx : Nms xs) (hy : Nms ys) (ha : ∀ a ∈ as, AnOk a) (hb : ∀ a ∈ bs, AnOk a) : decide (bookText xs as = bookText ys bs) = (decide (xs = ys) && decide (as = bs)) := by
  by_cases h : bookText xs as = bookText ys bs
  · obtain ⟨h1, h2⟩ := bookText_inj hx hy ha hb h
    rw [decide_eq_true h, decide_eq_true h1, decide_eq_true h2]; rfl
  · rw [decide_eq_false h]
    by_cases h1 : xs = ys
    · by_cases h2 : as = bs
      · exact absurd (by rw [h1, h2]) h
      · rw [decide_eq_false h2, Bool.and_false]
    · rw [decide_eq_false h1, Bool.false_and]
theorem table_same {xs ys : List Str} {as bs : List Pr} (hx : Nms xs) (hy : Nms ys) (ha : ∀ a ∈ as, PrOk a) (hb : ∀ a ∈ bs, PrOk a) : decide (tableText xs as = tableText ys bs) = (decide (xs = ys) && decide (as = bs)) := by
  by_cases h : tableText xs as = tableText ys bs
  · obtain ⟨h1, h2⟩ := tableText_inj hx hy ha hb h
    rw [decide_eq_true h, decide_eq_true h1, decide_eq_true h2]; rfl
  · rw [decide_eq_false h]
    by_cases h1 : xs = ys
    · by_cases h2 : as = bs
      · exact absurd (by rw [h1, h2]) h
      · rw [decide_eq_false h2, Bool.and_false]
    · rw [decide_eq_false h1, Bool.false_and]
theorem scale_same {ws vs : List Wt} {st su : Int} (hw : ∀ p ∈ ws, WtOk p) (hv : ∀ p ∈ vs, WtOk p) (hs : st.natAbs < 10 ^ 40) (hu : su.natAbs < 10 ^ 40) : decide (scaleText ws st = scaleText vs su) = (decide (ws = vs) && decide (st = su)) := by
  by_cases h : scaleText ws st = scaleText vs su
  · obtain ⟨h1, h2⟩ := scaleText_inj hw hv hs hu h
    rw [decide_eq_true h, decide_eq_true h1, decide_eq_true h2]; rfl
  · rw [decide_eq_false h]
    by_cases h1 : ws = vs
    · by_cases h2 : st = su
      · exact absurd (by rw [h1, h2]) h
      · rw [decide_eq_false h2, Bool.and_false]
    · rw [decide_eq_false h1, Bool.false_and]
end BB
set_option maxHeartbeats 1000000
namespace BB
open PySem PySem.Spec PyProof.Rows L2 DL SO PySem.W TL
/-! ### drawn betters make a table -/
theorem len_sub {α : Type} [DecidableEq α] {l m : List α} (nd : l.Nodup) (h : ∀ x ∈ l, x ∈ m) : l.length ≤ m.length := by
  by_cases c : m.length ≤ l.length
  · exact Nat.le_of_eq (perm_sub nd h c).length_eq
  · omega
theorem filter_one {xs : List Str} {x : Str} (h : x ∈ xs) : (xs.filter fun y => decide (y ≠ x)).length + 1 ≤ xs.length := by
  induction xs with
  | nil => cases h
  | cons y xs ih =>
    by_cases e : y = x
    · subst e
      rw [List.filter_cons, if_neg (by simp)]
      have := List.length_filter_le (fun z => decide (z ≠ y)) xs
      rw [List.length_cons]
      omega
    · rw [List.filter_cons, if_pos (by simp [e]), List.length_cons, List.length_cons]
      have := ih ((List.mem_cons.mp h).resolve_left fun z => e z.symm)
      omega
theorem pairs_le (ys : List Str) : ∀ xs : List Str, (∀ x ∈ xs, x ∈ ys) → (xs.flatMap fun x => (ys.filter fun y => decide (y ≠ x)).map fun y => (x, y)).length ≤ xs.length * (ys.length - 1)
  | [], _ => by simp
  | x :: xs, h => by
    rw [List.flatMap_cons, List.length_append, List.length_map, List.length_cons, Nat.succ_mul]
    have h1 := filter_one (h x List.mem_cons_self)
    have h2 := pairs_le ys xs fun z hz => h z (List.mem_cons_of_mem _ hz)
    omega
theorem swap_nd {ps : List Pr} (h : ps.Nodup) : (ps.map fun p => (p.2, p.1)).Nodup := nd_map (fun a b e => by
  obtain ⟨a1, a2⟩ := a
  obtain ⟨b1, b2⟩ := b
  injection e with e1 e2
  have e1 : a2 = b2 := e1
  have e2 : a1 = b1 := e2
  rw [e1, e2]) h
/-- of two pairs turned about but one is there -/
theorem half {xs : List Str} {ps : List Pr} (few : xs.length ≤ 12) (nd : ps.Nodup) (inn : ∀ p ∈ ps, p.1 ∈ xs ∧ p.2 ∈ xs ∧ p.1 ≠ p.2) (as : ∀ p ∈ ps, (p.2, p.1) ∉ ps) : ps.length ≤ 66 := by
  have h1 : (ps ++ ps.map fun p => (p.2, p.1)).Nodup := by
    rw [List.nodup_append]
    refine ⟨nd, swap_nd nd, fun a ha b hb e => ?_⟩
    obtain ⟨q, hq, rfl⟩ := List.mem_map.mp hb
    refine as q hq ?_
    rw [← e]
    exact ha
  have h2 : ∀ p ∈ ps ++ ps.map (fun p => (p.2, p.1)), p ∈ pairsOf xs := fun p hp => by
    rcases List.mem_append.mp hp with hp | hp
    · exact pairs_mem.mpr (inn p hp)
    · obtain ⟨q, hq, rfl⟩ := List.mem_map.mp hp
      obtain ⟨a, b, c⟩ := inn q hq
      exact pairs_mem.mpr ⟨b, a, Ne.symm c⟩
  have h3 := len_sub h1 h2
  have h4 : (pairsOf xs).length ≤ xs.length * (xs.length - 1) := pairs_le xs xs fun _ h => h
  have h5 : xs.length * (xs.length - 1) ≤ 12 * 11 := Nat.mul_le_mul few (by omega)
  rw [List.length_append, List.length_map] at h3
  omega
theorem bet_is {ws : List Wt} {st : Int} (hs : 1 ≤ st) {p : Pr} (h1 : p.1 ∈ ws.map (·.1)) (h2 : p.2 ∈ ws.map (·.1)) (h : st < worthOf ws p.1 - worthOf ws p.2) : p ∈ betOf ws st := by
  refine List.mem_filter.mpr ⟨pairs_mem.mpr ⟨srt_mem.mpr h1, srt_mem.mpr h2, fun e => ?_⟩, decide_eq_true h⟩
  rw [e] at h
  omega
theorem bet_gt {ws : List Wt} {st : Int} {p : Pr} (h : p ∈ betOf ws st) : st < worthOf ws p.1 - worthOf ws p.2 := of_decide_eq_true (List.mem_filter.mp h).2
theorem bet_nd {ws : List Wt} {st : Int} (nd : (ws.map (·.1)).Nodup) : (betOf ws st).Nodup := (pairs_nd (srt_nd nd)).sublist List.filter_sublist
theorem bet_pw {ws : List Wt} {st : Int} (nd : (ws.map (·.1)).Nodup) : (betOf ws st).Pairwise fun a b => leF dPr a b = true := (pairs_pw srt_pw (srt_nd nd)).sublist List.filter_sublist
theorem bet_nopat {ws : List Wt} {st : Int} (hs : 1 ≤ st) {xs : List Str} (hx : ∀ x ∈ xs, x ∈ ws.map (·.1)) : NoPat xs (betOf ws st) where
  two := fun p hp q hq => by
    have h1 := bet_gt hp
    have h2 := bet_gt hq
    have m1 := bet_mem hp
    have m2 := bet_mem hq
    by_cases c : st < worthOf ws p.1 - worthOf ws q.2
    · exact .inl (bet_is hs (p := (p.1, q.2)) m1.1 m2.2.1 c)
    · exact .inr (bet_is hs (p := (q.1, p.2)) m2.1 m1.2.1 (show st < worthOf ws q.1 - worthOf ws p.2 by omega))
  three := fun p hp q hq e v hv => by
    have h1 := bet_gt hp
    have h2 := bet_gt hq
    have m1 := bet_mem hp
    have m2 := bet_mem hq
    rw [e] at h2
    by_cases c : st < worthOf ws p.1 - worthOf ws v
    · exact .inl (bet_is hs (p := (p.1, v)) m1.1 (hx v hv) c)
    · exact .inr (bet_is hs (p := (v, q.2)) (hx v hv) m2.2.1 (show st < worthOf ws v - worthOf ws q.2 by omega))
theorem bet_few {ws : List Wt} {st : Int} (hs : 1 ≤ st) (nd : (ws.map (·.1)).Nodup) (few : ws.length ≤ 12) : (betOf ws st).length ≤ 66 := by
  refine half (xs := ws.map (·.1)) (by rw [List.length_map]; exact few) (bet_nd nd) (fun p hp => bet_mem hp) fun p hp hq => ?_
  have h1 := bet_gt hp
  have h2 := bet_gt hq
  have h2 : st < worthOf ws p.2 - worthOf ws p.1 := h2
  omega
/-- a table of drawn worths -/
theorem bet_tbn {xs : List Str} {ws : List Wt} {st : Int} (h : WtS xs ws st) (hx : Nms xs) (pw : xs.Pairwise fun a b => leF D.str a b = true) (few : xs.length ≤ 12) : TbN xs (betOf ws st) := by
  have nm := h.nms
  have nd : (ws.map (·.1)).Nodup := by rw [nm]; exact hx.nd
  have inn : ∀ p ∈ betOf ws st, p.1 ∈ xs ∧ p.2 ∈ xs ∧ p.1 ≠ p.2 := fun p hp => by
    have := bet_mem hp
    rwa [nm] at this
  have fw : ws.length ≤ 12 := by rw [← List.length_map (f := (·.1)), nm]; exact few
  exact ⟨⟨hx, fun p hp => ⟨hx.all _ (inn p hp).1, hx.all _ (inn p hp).2.1, (inn p hp).2.2⟩, fun p hp => ⟨(inn p hp).1, (inn p hp).2.1⟩, bet_nd nd, by have := bet_few h.s1 nd fw; omega, bet_nopat h.s1 fun x hx => by rw [nm]; exact hx⟩, pw, bet_pw nd⟩
end BB
set_option maxHeartbeats 1000000
namespace BB
open PySem PySem.Spec PyProof.Rows L2 DL SO PySem.W TL
/-! ### sizes of what is shown by repr -/
structure Sz (W : Nat) (d : D) : Prop where
  sh : (py d).showable = true
  lv : (py d).leavesShort 41 = true
  wt : (py d).weight ≤ W
theorem Sz.mono {W V : Nat} {d : D} (h : Sz W d) (l : W ≤ V) : Sz V d := ⟨h.sh, h.lv, Nat.le_trans h.wt l⟩
theorem sz_bl {b : Bool} : Sz 0 (.bl b) := ⟨by simp only [py, PyData.showable], by simp only [py, PyData.leavesShort], by simp only [py, PyData.weight]; exact Nat.le_refl 0⟩
theorem letter_small {c : Nat} (h : letter c = true) : c < 16 ^ 8 := by
  unfold letter at h
  have := of_decide_eq_true h
  exact Nat.lt_of_le_of_lt this.2 (by decide)
theorem sz_str {x : Str} (h : Nm x) : Sz 8 (.str x) := by
  refine ⟨by simp only [py, PyData.showable], ?_, ?_⟩
  · simp only [py, PyData.leavesShort]
    rw [List.all_eq_true]
    exact fun c hc => decide_eq_true (letter_small (h.sg c hc))
  · simp only [py, PyData.weight]
    exact h.short
theorem log_133 {n : Nat} (h : n < 10 ^ 40) : n.log2 < 133 := by
  by_cases z : n = 0
  · subst z; decide
  · exact (Nat.log2_lt z).mpr (Nat.lt_trans h (by decide))
theorem sz_int {i : Int} (h : i.natAbs < 10 ^ 40) : Sz 133 (.int i) := by
  have hl := log_133 h
  refine ⟨?_, ?_, ?_⟩
  · simp only [py, PyData.showable]
    exact decide_eq_true (by omega)
  · simp only [py, PyData.leavesShort, PyData.shown]
    exact decide_eq_true (num_len h)
  · simp only [py, PyData.weight]
    split <;> omega
theorem sz_all {W : Nat} : ∀ {ds : List D}, (∀ d ∈ ds, Sz W d) → PyData.showableAll (pys ds) = true ∧ PyData.leavesShortAll 41 (pys ds) = true ∧ PyData.weightAll (pys ds) ≤ ds.length * (W + 1)
  | [], _ => ⟨by simp only [pys, PyData.showableAll], by simp only [pys, PyData.leavesShortAll], by simp only [pys, PyData.weightAll]; exact Nat.zero_le _⟩
  | d :: ds, h => by
    obtain ⟨h1, h2, h3⟩ := sz_all fun e he => h e (List.mem_cons_of_mem _ he)
    have h0 := h d List.mem_cons_self
    refine ⟨by simp only [pys, PyData.showableAll, h0.sh, h1, Bool.and_self], by simp only [pys, PyData.leavesShortAll, h0.lv, h2, Bool.and_self], ?_⟩
    simp only [pys, PyData.weightAll, List.length_cons]
    have := h0.wt
    rw [Nat.succ_mul]
    omega
theorem sz_lst {W n : Nat} {ds : List D} (h : ∀ d ∈ ds, Sz W d) (hn : ds.length ≤ n) : Sz (n * (W + 1)) (.lst ds) := by
  obtain ⟨h1, h2, h3⟩ := sz_all h
  exact ⟨by simp only [py, PyData.showable]; exact h1, by simp only [py, PyData.leavesShort]; exact h2, by simp only [py, PyData.weight]; exact Nat.le_trans h3 (Nat.mul_le_mul_right _ hn)⟩
theorem sz_tup {W n : Nat} {ds : List D} (h : ∀ d ∈ ds, Sz W d) (hn : ds.length ≤ n) : Sz (n * (W + 1)) (.tup ds) := by
  obtain ⟨h1, h2, h3⟩ := sz_all h
  exact ⟨by simp only [py, PyData.showable]; exact h1, by simp only [py, PyData.leavesShort]; exact h2, by simp only [py, PyData.weight]; exact Nat.le_trans h3 (Nat.mul_le_mul_right _ hn)⟩
theorem sz_an {a : An} (h : AnOk a) : Sz 27 (dAn a) := sz_tup (W := 8) (n := 3) (fun d hd => by
  simp only [List.mem_cons, List.not_mem_nil, or_false] at hd
  rcases hd with rfl | rfl | rfl
  · exact sz_str h.n1
  · exact sz_str h.n2
  · exact sz_bl.mono (by decide)) (Nat.le_refl 3)
theorem sz_pr {a : Pr} (h : PrOk a) : Sz 27 (dPr a) := (sz_tup (W := 8) (n := 2) (ds := [.str a.1, .str a.2]) (fun d hd => by
  simp only [List.mem_cons, List.not_mem_nil, or_false] at hd
  rcases hd with rfl | rfl
  · exact sz_str h.n1
  · exact sz_str h.n2) (Nat.le_refl 2)).mono (by decide)
theorem sz_names {xs : List Str} {n : Nat} (h : ∀ x ∈ xs, Nm x) (hn : xs.length ≤ n) : Sz (n * 9) (.lst (dNs xs)) := sz_lst (W := 8) (fun d hd => by
  obtain ⟨x, hx, rfl⟩ := List.mem_map.mp hd
  exact sz_str (h x hx)) (by rw [List.length_map]; exact hn)
theorem sz_ans {as : List An} {n : Nat} (h : ∀ a ∈ as, AnOk a) (hn : as.length ≤ n) : Sz (n * 28) (.lst (as.map dAn)) := sz_lst (W := 27) (fun d hd => by
  obtain ⟨x, hx, rfl⟩ := List.mem_map.mp hd
  exact sz_an (h x hx)) (by rw [List.length_map]; exact hn)
theorem sz_prs {as : List Pr} {n : Nat} (h : ∀ a ∈ as, PrOk a) (hn : as.length ≤ n) : Sz (n * 28) (.lst (as.map dPr)) := sz_lst (W := 27) (fun d hd => by
  obtain ⟨x, hx, rfl⟩ := List.mem_map.mp hd
  exact sz_pr (h x hx)) (by rw [List.length_map]; exact hn)
theorem dWs_num (ws : List Wt) : dWs ws = .dk (dNum (ws.map fun p => (kS p.1, p.2))) := by
  unfold dWs dNum
  rw [List.map_map]
  rfl
theorem sz_kvs : ∀ {ws : List Wt}, (∀ p ∈ ws, WtOk p) → PyData.showableKv (pyk (ws.map dWk)) = true ∧ PyData.leavesShortKv 41 (pyk (ws.map dWk)) = true ∧ PyData.weightKv (pyk (ws.map dWk)) ≤ ws.length * 143
  | [], _ => ⟨by simp only [List.map_nil, pyk, PyData.showableKv], by simp only [List.map_nil, pyk, PyData.leavesShortKv], by simp only [List.map_nil, pyk, PyData.weightKv]; exact Nat.zero_le _⟩
  | p :: ws, h => by
    obtain ⟨h1, h2, h3⟩ := sz_kvs fun e he => h e (List.mem_cons_of_mem _ he)
    have h0 := h p List.mem_cons_self
    have k := sz_str h0.nm
    have v := sz_int h0.small
    have e : pyk ((p :: ws).map dWk) = (py (.str p.1), py (.int p.2)) :: pyk (ws.map dWk) := by simp only [List.map_cons, dWk, pyk, pyK, py]
    rw [e]
    refine ⟨by simp only [PyData.showableKv, k.sh, v.sh, h1, Bool.and_self], by simp only [PyData.leavesShortKv, k.lv, v.lv, h2, Bool.and_self], ?_⟩
    simp only [PyData.weightKv, List.length_cons]
    have := k.wt
    have := v.wt
    rw [Nat.succ_mul]
    omega
theorem sz_ws {ws : List Wt} {n : Nat} (h : ∀ p ∈ ws, WtOk p) (hn : ws.length ≤ n) : Sz (n * 143) (dWs ws) := by
  obtain ⟨h1, h2, h3⟩ := sz_kvs h
  exact ⟨by simp only [dWs, py, PyData.showable]; exact h1, by simp only [dWs, py, PyData.leavesShort]; exact h2, by simp only [dWs, py, PyData.weight]; exact Nat.le_trans h3 (Nat.mul_le_mul_right _ hn)⟩
theorem Sz.fits {d : D} (h : Sz 300000 d) : (py d).shown.length ≤ sizeLine := by
  have h1 := PyData.shown_le 41 (by decide) (py d) h.lv
  have h2 := Nat.mul_le_mul_left (41 + 2) h.wt
  rw [sizeLine_eq]
  omega
theorem depth_kv : ∀ ws : List (Key × Int), PyData.depthKv (pyk (dNum ws)) = 0
  | [] => by simp only [dNum, List.map_nil, pyk, PyData.depthKv]
  | p :: ws => by
    have e : pyk (dNum (p :: ws)) = (pyK p.1, .int p.2) :: pyk (dNum ws) := by simp only [dNum, List.map_cons, pyk, py]
    rw [e]
    have k : PyData.depth (pyK p.1) = 0 := by cases p.1 <;> simp only [pyK, PyData.depth]
    simp only [PyData.depthKv, k, depth_kv ws, PyData.depth, Nat.max_self]
theorem ele_depth {d : D} (h : Ele d) : (py d).depth ≤ 40 := by
  rcases h with h | ⟨ws, rfl⟩
  · exact h.2.2
  · simp only [py, PyData.depth, depth_kv]
    decide
theorem ele_depths : ∀ {ds : List D}, (∀ d ∈ ds, Ele d) → PyData.depthAll (pys ds) ≤ 40
  | [], _ => by simp only [pys, PyData.depthAll]; decide
  | d :: ds, h => by
    have h1 := ele_depth (h d List.mem_cons_self)
    have h2 := ele_depths fun e he => h e (List.mem_cons_of_mem _ he)
    simp only [pys, PyData.depthAll]
    omega
theorem ele_ws (ws : List Wt) : Ele (dWs ws) := .inr ⟨_, dWs_num ws⟩
theorem alk_ele {ds : List D} (ne : ds ≠ []) (el : ∀ e ∈ ds, Ele e) (sz : Sz 300000 (.lst ds)) : Alk (.lst ds) where
  kind := .inr ⟨ds, rfl, ne, el⟩
  sh := sz.sh
  sz := sz.fits
  dp := by
    have := ele_depths el
    simp only [py, PyData.depth]
    omega
theorem alk_flat {d : D} {xs : List D} (h : d = .lst xs ∨ d = .tup xs) (s : Shp 50 d) (sz : Sz 300000 d) : Alk d where
  kind := .inl ⟨s, xs, h⟩
  sh := sz.sh
  sz := sz.fits
  dp := s.2.2
theorem alk_an {a : An} (h : AnOk a) : Alk (dAn a) := alk_flat (.inr rfl) ((shp_anOk h).mono (by decide)) ((sz_an h).mono (by decide))
theorem shp_ans {as : List An} (h : ∀ a ∈ as, AnOk a) : Shp 2 (.lst (as.map dAn)) := shp_lst fun d hd => by
  obtain ⟨a, ha, rfl⟩ := List.mem_map.mp hd
  exact shp_anOk (h a ha)
theorem shp_prs {as : List Pr} (h : ∀ a ∈ as, PrOk a) : Shp 2 (.lst (as.map dPr)) := shp_lst fun d hd => by
  obtain ⟨a, ha, rfl⟩ := List.mem_map.mp hd
  exact shp_prOk (h a ha)
theorem shp_namesL {xs : List Str} (h : ∀ x ∈ xs, Nm x) : Shp 1 (.lst (dNs xs)) := shp_lst (shp_nss fun x hx => cps_le (h x hx))
theorem alk_walk {as : List An} (h : ∀ a ∈ as, AnOk a) (few : as.length ≤ 100) : Alk (.lst (as.map dAn)) := alk_flat (.inl rfl) ((shp_ans h).mono (by decide)) ((sz_ans h few).mono (by decide))
theorem alk_two {as : List An} {ps : List Pr} (h : ∀ a ∈ as, AnOk a) (fa : as.length ≤ 100) (hp : ∀ p ∈ ps, PrOk p) (fp : ps.length ≤ 100) : Alk (.lst [.lst (as.map dAn), .lst (ps.map dPr)]) := by
  refine alk_flat (.inl rfl) ((shp_lst (n := 2) fun d hd => ?_).mono (by decide)) ((sz_lst (W := 2800) (n := 2) (ds := [.lst (as.map dAn), .lst (ps.map dPr)]) (fun d hd => ?_) (Nat.le_refl 2)).mono (by decide))
  · simp only [List.mem_cons, List.not_mem_nil, or_false] at hd
    rcases hd with rfl | rfl
    · exact shp_ans h
    · exact shp_prs hp
  · simp only [List.mem_cons, List.not_mem_nil, or_false] at hd
    rcases hd with rfl | rfl
    · exact sz_ans h fa
    · exact sz_prs hp fp
theorem alk_scale {ws : List Wt} {st : Int} (h : ∀ p ∈ ws, WtOk p) (fw : ws.length ≤ 100) (hs : st.natAbs < 10 ^ 40) : Alk (.lst [dWs ws, .int st]) := by
  refine alk_ele (by simp) (fun d hd => ?_) ((sz_lst (W := 14300) (n := 2) (ds := [dWs ws, .int st]) (fun d hd => ?_) (Nat.le_refl 2)).mono (by decide))
  · simp only [List.mem_cons, List.not_mem_nil, or_false] at hd
    rcases hd with rfl | rfl
    · exact ele_ws ws
    · exact .inl (shp_int.mono (by decide))
  · simp only [List.mem_cons, List.not_mem_nil, or_false] at hd
    rcases hd with rfl | rfl
    · exact sz_ws h fw
    · exact (sz_int hs).mono (by decide)
theorem alk_wide {xs : List Str} {as : List An} {ps : List Pr} {ws : List Wt} {st : Int} (hx : ∀ x ∈ xs, Nm x) (fx : xs.length ≤ 100) (h : ∀ a ∈ as, AnOk a) (fa : as.length ≤ 200) (hp : ∀ p ∈ ps, PrOk p) (fp : ps.length ≤ 100) (hw : ∀ p ∈ ws, WtOk p) (fw : ws.length ≤ 100) (hs : st.natAbs < 10 ^ 40) :
    Alk (.lst [.lst (dNs xs), .lst (as.map dAn), .lst (dNs xs), .lst (ps.map dPr), dWs ws, .int st]) := by
  refine alk_ele (by simp) (fun d hd => ?_) ((sz_lst (W := 14300) (n := 6) (ds := [.lst (dNs xs), .lst (as.map dAn), .lst (dNs xs), .lst (ps.map dPr), dWs ws, .int st]) (fun d hd => ?_) (Nat.le_refl 6)).mono (by decide))
  · simp only [List.mem_cons, List.not_mem_nil, or_false] at hd
    rcases hd with rfl | rfl | rfl | rfl | rfl | rfl
    · exact .inl ((shp_namesL hx).mono (by decide))
    · exact .inl ((shp_ans h).mono (by decide))
    · exact .inl ((shp_namesL hx).mono (by decide))
    · exact .inl ((shp_prs hp).mono (by decide))
    · exact ele_ws ws
    · exact .inl (shp_int.mono (by decide))
  · simp only [List.mem_cons, List.not_mem_nil, or_false] at hd
    rcases hd with rfl | rfl | rfl | rfl | rfl | rfl
    · exact (sz_names hx fx).mono (by decide)
    · exact (sz_ans h fa).mono (by decide)
    · exact (sz_names hx fx).mono (by decide)
    · exact (sz_prs hp fp).mono (by decide)
    · exact sz_ws hw fw
    · exact (sz_int hs).mono (by decide)
end BB
set_option maxHeartbeats 1000000
namespace DL
open PySem PySem.Spec PyProof.Rows L2
theorem dhW {X : Cx} {M : Mu} {ds : DS} {e : Expr} {C : Prop} {R : Bool → Prop} (h : C → PW X e (tDT M X.K ds R)) : PW X e (fun σ H Q => ∃ _ : C, tDT M X.K ds R σ H Q) := ⟨fun wh pins s σ H Q I hw => let ⟨c, t⟩ := hw; (h c).run wh pins s σ H Q I t⟩
theorem dt_or3 {X : Cx} {M : Mu} {ds : DS} {a b c : Expr} {pos : Pos} {p q r : Bool} (ha : DT X M a ds (Is p)) (hb : p = false → DT X M b ds (Is q)) (hc : p = false → q = false → DT X M c ds (Is r)) : DT X M (.BoolOp .Or [a, b, c] pos) ds (Is (p || (q || r))) :=
  (dw_or ha (dhW fun h => dw_or (hb h) (dw_or1 fun h2 => hc h h2))).pt
end DL
namespace BB
open PySem PySem.Spec PyProof.Rows L2 DL SO PySem.W TL
structure Fl9 (K : PySem.W.Frag) (mg : Str → Option Value) : Prop where
  l8 : Fl8 K mg
  back : FnAt K mg "_law_all_back" (top 77)
  wide : FnAt K mg "_law_wide_right" (top 78)
  law : FnAt K mg "law" (top 79)
/-- where things stand -/
structure Ad where
  CB : Addr
  CT : Addr
  CS : Addr
  e0 : Addr
  CE : Addr
  cb : Addr
  tb : Addr
  ct : Addr
  tt : Addr
  cs : Addr
  ts : Addr
/-- all facts -/
structure All (K : PySem.W.Frag) (w : World) (base : Heap) (mg : Str → Option Value) (a : Ad) : Prop where
  T : Fk K mg
  W : Fw K mg
  Dr : Fr K w mg
  S : Fsh K mg
  B : Fb K a.CB
  BT : Ft K a.CT
  BS : Fs K a.CS
  BS2 : Fs2 K a.CS
  QB : Fbk K mg a.CB a.e0
  QT : Ftb K mg a.CT
  QS : Fsc K mg a.CS
  R : Fmd K base mg a.CE a.cb a.tb a.ct a.tt a.cs a.ts
  Q : Feq K mg a.CB a.CT a.CS
  eb : EqAt K a.CB
  et : EqAt K a.CT
  es : EqAt K a.CS
  L : Fl9 K mg
/-- the lambdas' tables are known -/
structure Tb3 (M : Mu) (a : Ad) : Prop where
  b : TabIn M a.tb "read_book.<locals>.<lambda>"
  t : TabIn M a.tt "read_table.<locals>.<lambda>"
  s : TabIn M a.ts "read_scale.<locals>.<lambda>"
variable {P : Program} {w : World} {K : PySem.W.Frag} {mg : Str → Option Value} {base : Heap} {a : Ad}
/-! ### texts are sound -/
theorem sok_of {x : Str} (h : ∀ c, 128 ≤ c → c ∉ tl x) : sOk x := by
  show PyData.canLay0 (.str x) = true
  rw [PyData.canLay0]
  show x.cps.all _ = true
  rw [Array.all_eq_true_iff_forall_mem]
  intro c hc
  refine decide_eq_true ?_
  by_cases z : 128 ≤ c
  · exact absurd (Array.mem_toList_iff.mpr hc) (h c z)
  · omega
theorem big_letter {c : Nat} (h : 128 ≤ c) : letter c = false := decide_eq_false (by omega)
theorem lines_free {ls : List Str} {c : Nat} (hc : 128 ≤ c) (h : ∀ l ∈ ls, c ∉ tl l) : c ∉ tl (linesText ls) := join_free (fun m => by cases (show c ∈ ([] : List Nat) from m)) fun l hl => by
  obtain ⟨k, hk, rfl⟩ := List.mem_map.mp hl
  rw [tl_append]
  intro m
  rcases List.mem_append.mp m with m | m
  · exact h k hk m
  · have : c = 10 := List.mem_singleton.mp m
    omega
theorem sok_book {xs : List Str} {as : List An} (hx : Nms xs) (ha : ∀ a ∈ as, AnOk a) : sOk (bookText xs as) := sok_of fun c hc => lines_free hc fun l h => by
  rcases List.mem_cons.mp h with rfl | h
  · exact things_free hx (big_letter hc) (by omega)
  · obtain ⟨a, h1, rfl⟩ := List.mem_map.mp h
    exact ans_free (ha a h1) (big_letter hc) (by omega)
theorem sok_table {xs : List Str} {ps : List Pr} (hx : Nms xs) (hp : ∀ p ∈ ps, PrOk p) : sOk (tableText xs ps) := by
  rw [tab_book]
  exact sok_book hx (prAn_ok hp)
theorem sok_scale {ws : List Wt} {st : Int} (hw : ∀ p ∈ ws, WtOk p) : sOk (scaleText ws st) := sok_of fun c hc => lines_free hc fun l h => by
  have num : ∀ i : Int, c ∉ tl (num i) := fun i => num_free (.inr (by omega)) (by omega)
  have sp : c ∉ tl (" " : Str) := fun m => by
    have : c = 32 := List.mem_singleton.mp m
    omega
  rcases List.mem_cons.mp h with rfl | h
  · rw [step_two]
    refine join_free sp fun l hl => ?_
    rcases List.mem_cons.mp hl with rfl | hl
    · intro m
      have : c ∈ [115, 116, 101, 112] := m
      simp only [List.mem_cons, List.not_mem_nil, or_false] at this
      omega
    · rw [List.mem_singleton.mp hl]; exact num st
  · obtain ⟨p, hp, rfl⟩ := List.mem_map.mp h
    unfold worthLine
    rw [← join_two]
    refine join_free sp fun l hl => ?_
    rcases List.mem_cons.mp hl with rfl | hl
    · exact (hw p hp).nm.free (big_letter hc)
    · rw [List.mem_singleton.mp hl]; exact num p.2
theorem shp_texts {l : List Str} (h : ∀ x ∈ l, sOk x) : Shp 1 (.lst (dNs l)) := shp_lst (shp_nss h)
theorem eqv_texts (xs : List Str) : PyData.eqv (py (.lst (dNs xs))) (py (.lst (dNs xs))) = true := by
  rw [py, PyData.eqv, eqv_all eqv_str]
  simp
end BB
set_option maxHeartbeats 1000000
namespace BB
open PySem PySem.Spec PyProof.Rows L2 DL SO PySem.W TL
variable {P : Program} {w : World} {K : PySem.W.Frag} {mg : Str → Option Value} {base : Heap} {a : Ad}
theorem d_lstS {X : Cx} {M : Mu} {ds : DS} {es : List Expr} {pos : Pos} {l : List D} (h : DVs X M es ds l) (hl : l.length ≤ 100 := by simp) : DV X M (.List es pos) ds (.lst l) := d_lst h hl
theorem sc_allBack : FnScope ["_law_bag_here", "_law_book", "_law_table", "_law_scale", "_law_again", "_law_texts", "_law_found"] ["_law_bag_here", "_law_book", "_law_table", "_law_scale"] (defScope (top 77)) := ⟨rfl, rfl, rfl, by decide +kernel, rfl, by decide +kernel, by decide +kernel⟩
theorem fn_allBack (F : All K w base mg a) (xs : List Str) (as : List An) (n : BkN xs as) (fa : as.length ≤ 100) (ys : List Str) (ps : List Pr) (m : TbN ys ps) (ws : List Wt) (st : Int) (q : ScN ws st) (fw : ws.length ≤ 100) :
    FnTG P w K mg base "_law_all_back" 12 (fun M l => Tb3 M a ∧ ∃ x, l = [x, dBook a.CB xs as, dTable a.CT ys ps, dScale a.CS ws st]) (fun _ => Is (.bl true)) := by
  refine fn_defG F.L.back sc_allBack (fun _ _ _ _ _ _ us hl => match us, hl with | [_, _, _, _], _ => rfl) (fun M l ⟨_, x, e⟩ => by rw [e]; rfl) fun f cdv A outer s H E M l hg hr ⟨tb, x, e⟩ => ?_
  subst e
  have hgd : (cxOf CX0 P w K mg base ["_law_bag_here", "_law_book", "_law_table", "_law_scale", "_law_again", "_law_texts", "_law_found"] "_law_all_back" (defScope (top 77)) f cdv A outer s H E).nox.A.guards = some [] := hg
  have hr1 : Room 1 _ := hr.mono (by decide)
  have hr2 : Room 2 _ := hr.mono (by decide)
  have hr3 : Room 3 _ := hr.mono (by decide)
  have hr4 : Room 4 _ := hr.mono (by decide)
  have few := m.ok.few
  have fp : ps.length ≤ 1000 := by omega
  have fp1 : ps.length ≤ 100 := by omega
  have sT : Shp 1 (.lst (dNs [bookText xs as, tableText ys ps, scaleText ws st])) := shp_texts fun z hz => by
    simp only [List.mem_cons, List.not_mem_nil, or_false] at hz
    rcases hz with rfl | rfl | rfl
    · exact sok_book n.ok.nms n.ok.ans
    · exact sok_table m.ok.nms m.ok.prs
    · exact sok_scale q.wt
  refine dps_cons (dp_forW (is := [4]) (u := fun d ds => ds.set 4 (some d)) PassesOwn.never rfl (di_rangeN (n := 2) d_int (by decide) F.T.b.range) (pg_name (i := 4) sc_allBack.nd rfl (Or.inl rfl)) um1 (fun _ _ _ => tg1) fun i d hd => ?_) (dps_one (dp_ret d_bl))
  refine dps_cons (dp_set (d := .lst (dNs [bookText xs as, tableText ys ps, scaleText ws st])) 5 sc_allBack.nd (d_lstS (da_cons (d_call (fn_showBook F.T F.W F.B F.S xs as n.ok.nms n.ok.ans n.ok.few) hr3 (da_1 (dv (d := dBook a.CB xs as) 1)) rfl fun z hz => hz) (da_cons (d_call (fn_showTable F.T F.W F.BT F.S ys ps m.ok.nms m.ok.prs fp) hr3 (da_1 (dv (d := dTable a.CT ys ps) 2)) rfl fun z hz => hz) (da_1 (d_call (fn_showScale F.T F.W F.BS F.BS2 F.S ws st q.wt q.few q.small) hr4 (da_1 (dv (d := dScale a.CS ws st) 3)) rfl fun z hz => hz))))))
    (dps_cons (dp_set (d := .lst [dBook a.CB xs as, dTable a.CT ys ps, dScale a.CS ws st]) 6 sc_allBack.nd (d_lstS (da_cons (d_callM (fn_readBook F.T F.W F.Dr F.S F.B F.QB F.R xs as n) hr (da_1 (d_ixL (dv (d := .lst (dNs [bookText xs as, tableText ys ps, scaleText ws st])) 5) d_int (atI_nat (j := 0) rfl))) ⟨tb.b, rfl⟩ fun z hz => hz)
      (da_cons (d_callM (fn_readTable F.T F.W F.Dr F.S F.BT F.QT F.R ys ps m) hr (da_1 (d_ixL (dv (d := .lst (dNs [bookText xs as, tableText ys ps, scaleText ws st])) 5) d_int (atI_nat (j := 1) rfl))) ⟨tb.t, rfl⟩ fun z hz => hz)
      (da_1 (d_callM (fn_readScale F.T F.W F.Dr F.S F.BS F.BS2 F.QS F.R ws st q) hr (da_1 (d_ixL (dv (d := .lst (dNs [bookText xs as, tableText ys ps, scaleText ws st])) 5) d_int (atI_nat (j := 2) rfl))) ⟨tb.s, rfl⟩ fun z hz => hz))))))
    (dps_cons (dp_if (p := false) (DT.to (dt_or3 (p := false) (q := false) (r := false) ((c_neO (mt_eqB F.T F.B F.Q xs xs as as n.ok.nms.all n.ok.nms.all n.as n.as) F.eb hr2 rfl (d_ixL (dv (d := .lst [dBook a.CB xs as, dTable a.CT ys ps, dScale a.CS ws st]) 6) d_int (atI_nat (j := 0) rfl)) (dv (d := dBook a.CB xs as) 1)).to (by simp)).t
        (fun _ => ((c_neO (mt_eqT F.T F.BT F.Q ys ys ps ps m.ok.nms.all m.ok.nms.all m.ok.prs m.ok.prs) F.et hr2 rfl (d_ixL (dv (d := .lst [dBook a.CB xs as, dTable a.CT ys ps, dScale a.CS ws st]) 6) d_int (atI_nat (j := 1) rfl)) (dv (d := dTable a.CT ys ps) 2)).to (by simp)).t)
        (fun _ _ => ((c_neO (mt_eqS F.T F.BS F.Q ws ws st st q.wn q.wn) F.es hr2 rfl (d_ixL (dv (d := .lst [dBook a.CB xs as, dTable a.CT ys ps, dScale a.CS ws st]) 6) d_int (atI_nat (j := 2) rfl)) (dv (d := dScale a.CS ws st) 3)).to (by simp)).t)) rfl) (fun h => nomatch h) fun _ => dps_nil rfl)
    (dps_cons (dp_if (p := false) ((c_neD (n := 1) (p := true) (hu64 hr) (d_lstS (l := dNs [bookText xs as, tableText ys ps, scaleText ws st]) (da_cons (d_call (fn_showBook F.T F.W F.B F.S xs as n.ok.nms n.ok.ans n.ok.few) hr3 (da_1 (d_ixL (dv (d := .lst [dBook a.CB xs as, dTable a.CT ys ps, dScale a.CS ws st]) 6) d_int (atI_nat (j := 0) rfl))) rfl fun z hz => hz) (da_cons (d_call (fn_showTable F.T F.W F.BT F.S ys ps m.ok.nms m.ok.prs fp) hr3 (da_1 (d_ixL (dv (d := .lst [dBook a.CB xs as, dTable a.CT ys ps, dScale a.CS ws st]) 6) d_int (atI_nat (j := 1) rfl))) rfl fun z hz => hz)
        (da_1 (d_call (fn_showScale F.T F.W F.BS F.BS2 F.S ws st q.wt q.few q.small) hr4 (da_1 (d_ixL (dv (d := .lst [dBook a.CB xs as, dTable a.CT ys ps, dScale a.CS ws st]) 6) d_int (atI_nat (j := 2) rfl))) rfl fun z hz => hz))))) (dv (d := .lst (dNs [bookText xs as, tableText ys ps, scaleText ws st])) 5) sT sT (by decide) (eqv_texts _)).to rfl).t (fun h => nomatch h) fun _ => dps_nil rfl)
    (dps_cons (dp_if (p := false) (DT.to (dt_not (p := true) (dt_v (dx_callG (R := Is (.bl true)) (fn_alike F.T F.L.l8) hgd hr1 Le.rfl' (da_cons (d_lstS (da_cons (d_meth0 (mt_bAnswers F.T F.B xs as) hr1 (d_ixL (dv (d := .lst [dBook a.CB xs as, dTable a.CT ys ps, dScale a.CS ws st]) 6) d_int (atI_nat (j := 0) rfl)) F.B.cls rfl rfl fun z hz => hz) (da_1 (d_meth0 (mt_tBetters F.T F.BT ys ps) hr1 (d_ixL (dv (d := .lst [dBook a.CB xs as, dTable a.CT ys ps, dScale a.CS ws st]) 6) d_int (atI_nat (j := 1) rfl)) F.BT.cls rfl rfl fun z hz => hz))))
        (da_1 (d_lstS (da_cons (d_meth0 (mt_bAnswers F.T F.B xs as) hr1 (dv (d := dBook a.CB xs as) 1) F.B.cls rfl rfl fun z hz => hz) (da_1 (d_meth0 (mt_tBetters F.T F.BT ys ps) hr1 (dv (d := dTable a.CT ys ps) 2) F.BT.cls rfl rfl fun z hz => hz)))))) fun l e => ⟨⟨_, e, alk_two n.ok.ans fa m.ok.prs fp1⟩, fun d hd => hd⟩))) rfl) (fun h => nomatch h) fun _ => dps_nil rfl)
    (dps_one (dp_if (p := false) (DT.to (dt_not (p := true) (dt_v (dx_callG (R := Is (.bl true)) (fn_alike F.T F.L.l8) hgd hr1 Le.rfl' (da_cons (d_lstS (da_cons (d_meth0 (mt_worths F.T F.BS ws st) hr1 (d_ixL (dv (d := .lst [dBook a.CB xs as, dTable a.CT ys ps, dScale a.CS ws st]) 6) d_int (atI_nat (j := 2) rfl)) F.BS.cls rfl rfl fun z hz => hz) (da_1 (d_prop (pr_step F.BS F.BS2 ws st) hr2 (d_ixL (dv (d := .lst [dBook a.CB xs as, dTable a.CT ys ps, dScale a.CS ws st]) 6) d_int (atI_nat (j := 2) rfl)) F.BS.cls rfl fun z hz => hz))))
        (da_1 (d_lstS (da_cons (d_meth0 (mt_worths F.T F.BS ws st) hr1 (dv (d := dScale a.CS ws st) 3) F.BS.cls rfl rfl fun z hz => hz) (da_1 (d_prop (pr_step F.BS F.BS2 ws st) hr2 (dv (d := dScale a.CS ws st) 3) F.BS.cls rfl fun z hz => hz)))))) fun l e => ⟨⟨_, e, alk_scale q.wt fw q.small⟩, fun d hd => hd⟩))) rfl) (fun h => nomatch h) fun _ => dps_nil ?_))))))
  exact (((WkS.refl _).put rfl).put rfl).put rfl
end BB
set_option maxHeartbeats 1000000
namespace DL
open PySem PySem.Spec PyProof.Rows L2 SO
section
variable {X : Cx} {M : Mu} {ds : DS} {e1 e2 a b c : Expr} {Rl : List D → Prop} {Nx : DS → Prop} {Rt : D → Prop} {rest : List Stmt}
theorem dp_par3 {d1 d2 d3 : D} (i j l : Nat) {x y z : Str} {px py pz pt pos : Pos} {kt k2 pt2} (hc : X.calm = true) (hN : X.N.Nodup) (ha : DVs X M [a, b, c] ds [d1, d2, d3]) (hi : X.N[i]? = some x := by rfl) (hj : X.N[j]? = some y := by rfl) (hl : X.N[l]? = some z := by rfl) (hij : i ≠ j := by decide) (hil : i ≠ l := by decide) (hjl : j ≠ l := by decide)
    (hx : X.env.scope.names.lookup x = some .local := by rfl) (hy : X.env.scope.names.lookup y = some .local := by rfl) (hz : X.env.scope.names.lookup z = some .local := by rfl) (hw : swappedStores [.Tuple [.Name x px, .Name y py, .Name z pz] kt pt] (.Tuple [a, b, c] k2 pt2) X.env = pure (some [x, y, z]) := by rfl)
    (hs : swapsWithSole [.Tuple [.Name x px, .Name y py, .Name z pz] kt pt] (.Tuple [a, b, c] k2 pt2) pos.line X.env = pure false := by rfl) :
    DP X M (.Assign [.Tuple [.Name x px, .Name y py, .Name z pz] kt pt] (.Tuple [a, b, c] k2 pt2) pos) ds (Is (((ds.set i (some d1)).set j (some d2)).set l (some d3))) Rt :=
  PS.imp (ps_par3 hc hN hi hj hl hij hil hjl hx hy hz ha hw hs) fun Z σ H ⟨G, s, ok, n, q⟩ => ⟨G, s, ok, fun ls vs G1 H1 r g t => by
    rw [show ls = _ from r] at t
    cases t with
    | cons t1 t =>
      cases t with
      | cons t2 t =>
        cases t with
        | cons t3 t =>
          cases t
          exact ⟨_, _, _, rfl, n _ _ G1 H1 rfl ((((s.mono g.ex).set i t1).set j t2).set l t3) g⟩⟩
/-- name = a new list, name.append(e2), then it is known -/
theorem dps_setApp {i : Nat} {x : Str} {d : D} {px pn pa cpos pos pos2 : Pos} (hN : X.N.Nodup) (he : DG X M e1 ds Rl) (h2 : ∀ p, DV X M e2 (ds.set i (some (.raw (.ref p)))) d) (len : ∀ l, Rl l → l.length < sizeLine) (hr : ∀ l, Rl l → DPs X M rest (ds.set i (some (.lst (l ++ [d])))) Nx Rt) (il : i < ds.length)
    (hi : X.N[i]? = some x := by rfl) (hx : Loc X.env.scope x := by exact .inl rfl) (hs : swapsWith e1 (some (.Name x px)) pos.line X.env = pure false := by rfl) (hf : X.fn x = true ∨ X.env.scope.names.lookup x = some .local := by first | exact .inl rfl | exact .inr rfl)
    (hv : Vis X.env.scope x := by first | exact Or.inl rfl | exact Or.inr (Or.inl rfl) | exact Or.inr (Or.inr rfl)) (h1 : (x == ("__debug__" : Str)) = false := by decide) (h3 : (x == ("__classdict__" : Str)) = false := by decide)
    (hbase : attributeBase (.Name x pn) "append" X.env (eval (.Name x pn) X.env) = eval (.Name x pn) X.env := by rfl)
    (hfew : ((backTo cpos (starEach [e2] X.env)).all (fun x => !x.1) && (backToKw cpos (keywordEach [] X.env)).all (fun x => x.1.isSome) && decide ([e2].length + ([] : List Keyword).length + (if ([] : List Keyword).isEmpty then 0 else 1) < 30)) = true := by rfl)
    (hline : (pa.endLine == cpos.line) = true := by rfl) (hst : starEach [e2] X.env = (false, eval e2 X.env) :: starEach [] X.env := by rfl) (hpl : (backTo cpos (starEach [] X.env)).any (·.1) = false := by rfl) (hw : swapsWith (.Call (.Attribute (.Name x pn) "append" pa) [e2] [] cpos) none pos2.line X.env = pure false := by rfl) :
    DPs X M (.Assign [.Name x px] e1 pos :: .Expr (.Call (.Attribute (.Name x pn) "append" pa) [e2] [] cpos) pos2 :: rest) ds Nx Rt :=
  PSs.imp (pss_cons (ps_set hN hi hx he hs hf) (pss_cons (ps_expr (pe_bm PySem.F.plainAttrs_list PySem.F.slot_list_append PySem.F.type_list_append mt_append (pe_var hi hv h1 h3) (pa_cons (PE.ex (ι := Addr) (P := fun _ => True) fun p _ => h2 p) pa_nil hst) hbase hfew hline hst hpl) hw) (PSs.ex (ι := List D) (P := Rl) hr))) fun Z σ H ⟨G, s, ok, n, q⟩ => ⟨G, s, ok, fun l ws p G1 H1 r g1 A1 => by
    have s1 := (s.mono g1.ex).set i (Dt.raw (K := X.K) (G := G1) (.ref p))
    have at_ : (ds.set i (some (.raw (.ref p))))[i]? = some (some (.raw (.ref p))) := by rw [List.getElem?_set_self il]
    refine ⟨.ref p, raw_at s1 at_, .inl ⟨rfl, ws, SqL.of A1.h⟩, p, trivial, G1, s1, g1.ok, fun d' v G2 H2 e g2 t2 => ?_⟩
    rw [show d' = d from e] at t2
    have A2 := A1.keep ok g2
    have g12 := g1.trans ok g2
    have wl : ws.length < sizeLine := by rw [A2.t.length]; exact len l r
    refine ⟨p, ws, v, rfl, rfl, A2.h, wl, ?_⟩
    have g3 := g12.pokeL ok A2.f A2.g A2.h (ys := ws ++ [v])
    have g4 := g3.knowF ok A2.f A2.g upd_same (fun ps z => by cases z)
    have ex := same_upd (o := .lst (ws ++ [v])) A2.g
    have s4 := sl_raw ((s1.mono g2.ex).mono ex) at_ (Dt.lst (K := X.K) (upd_same (H := G2) (a := p) (o := .lst (ws ++ [v]))) ((A2.t.append (.cons t2 .nil)).mono ex))
    rw [List.set_set] at s4
    exact ⟨l, r, _, s4, g4.ok, fun ds' σ' G' H' nx s' g' => n ds' σ' G' H' nx s' (g4.trans ok g'), fun d v G' H' rr g' t => q d v G' H' rr (g4.trans ok g') t⟩⟩
theorem dg_lst {l : List D} {es : List Expr} {pos : Pos} (h : DVs X M es ds l) (hl : l.length ≤ 100) : DG X M (.List es pos) ds (Is l) :=
  PE.imp (pe_lst h) fun σ H Q ⟨G, s, ok, k⟩ => ⟨G, s, ok, fun m vs G1 H1 e g t => by
    rw [show m = l from e] at t
    refine ⟨by rw [t.length]; exact Nat.le_trans hl (by decide), fun p hp => ?_⟩
    exact k l vs p G1 _ rfl (g.trans ok (Gr.drop g.ok hp fun ps z => by cases z)) ⟨(Fre.of hp).back g, g.ok.sub.free hp, upd_same, t⟩⟩
end
end DL
set_option maxHeartbeats 1000000
namespace BB
open PySem PySem.Spec PyProof.Rows L2 DL SO PySem.W TL
variable {P : Program} {w : World} {K : PySem.W.Frag} {mg : Str → Option Value} {base : Heap} {a : Ad}
/-! ### the wide names -/
def alph : List Str := (List.range 26).map fun i => one (97 + i)
theorem signs_alph : signsD (Str.ofString "abcdefghijklmnopqrstuvwxyz") = dNs alph := by
  unfold signsD
  rw [show (Str.ofString "abcdefghijklmnopqrstuvwxyz").cps.toList = (List.range 26).map fun i => 97 + i from by decide +kernel]
  unfold alph dNs
  rw [List.map_map, List.map_map]
  rfl
theorem alph_mem {x : Str} (h : x ∈ alph) : ∃ c, x = one c ∧ letter c = true := by
  obtain ⟨i, hi, rfl⟩ := List.mem_map.mp h
  exact ⟨97 + i, rfl, letter_at i (List.mem_range.mp hi)⟩
theorem alph_nd : alph.Nodup := by decide +kernel
theorem alph_nm {x : Str} (h : x ∈ alph) : Nm x := by
  obtain ⟨c, rfl, hc⟩ := alph_mem h
  exact ⟨Nat.le_refl 1, by show 1 ≤ 8; decide, fun d hd => by
    have : d = c := List.mem_singleton.mp hd
    rw [this]; exact hc⟩
def wName (x : Str) : Str := ("n" : Str) ++ x
theorem wName_nm {x : Str} (h : x ∈ alph) : Nm (wName x) := by
  obtain ⟨c, rfl, hc⟩ := alph_mem h
  have e : (wName (one c)).length = 2 := by unfold wName; rw [len_app]; rfl
  refine ⟨by rw [e]; decide, by rw [e]; decide, fun d hd => ?_⟩
  have hd : d ∈ tl (("n" : Str) ++ one c) := hd
  rw [tl_append, List.mem_append] at hd
  rcases hd with hd | hd
  · have : d = 110 := List.mem_singleton.mp hd
    rw [this]; decide
  · have : d = c := List.mem_singleton.mp hd
    rw [this]; exact hc
theorem wName_inj {x y : Str} (e : wName x = wName y) : x = y := by
  have e2 := congrArg tl e
  unfold wName at e2
  rw [tl_append, tl_append] at e2
  exact ext_tl (List.append_cancel_left e2)
/-- some of the letters -/
structure AlOk (zs : List Str) : Prop where
  inn : ∀ z ∈ zs, z ∈ alph
  nd : zs.Nodup
  few : zs.length ≤ 12
theorem AlOk.nms {zs : List Str} (h : AlOk zs) : NmsL 12 (zs.map wName) := ⟨fun x hx => by
  obtain ⟨z, hz, rfl⟩ := List.mem_map.mp hx
  exact wName_nm (h.inn z hz), nd_map (fun _ _ => wName_inj) h.nd, by rw [List.length_map]; exact h.few⟩
theorem sc_wide : FnScope ["_law_bag_here", "_law_things", "_law_worths_here", "_law_step", "_law_answers", "_law_betters_here", "_law_texts", "_law_book", "_law_table", "_law_scale", "_law_found", "_law_due", "_law_one", "_law_pair", "_law_thing"] ["_law_bag_here"] (defScope (top 78)) := ⟨rfl, rfl, rfl, by decide +kernel, rfl, by decide +kernel, by decide +kernel⟩
theorem ws_wn {xs : List Str} {ws : List Wt} {st : Int} (h : WtS xs ws st) (hx : Nms xs) (pw : xs.Pairwise fun a b => leF D.str a b = true) : WsN ws := ⟨by rw [h.nms]; exact hx.nd, by rw [h.nms]; exact pw⟩
theorem ws_scn {xs : List Str} {ws : List Wt} {st : Int} (h : WtS xs ws st) (hx : Nms xs) (pw : xs.Pairwise fun a b => leF D.str a b = true) (few : xs.length ≤ 100) : ScN ws st := by
  have p40 : (10 : Nat) ^ 40 = 10000000000000000000000000000000000000000 := by decide
  refine ⟨fun p hp => ⟨hx.all _ (by rw [← h.nms]; exact List.mem_map.mpr ⟨p, hp, rfl⟩), ?_⟩, ws_wn h hx pw, ?_, h.s1, ?_⟩
  · have := h.wt p hp
    rw [p40]
    omega
  · rw [← List.length_map (f := (·.1)), h.nms]; omega
  · have h1 := h.s1
    have h2 := h.s2
    rw [p40]
    omega
theorem fn_wide (F : All K w base mg a) : FnTG P w K mg base "_law_wide_right" 12 (fun M l => Tb3 M a ∧ ∃ b, M.bag = some b ∧ l = [.raw (.ref b)]) (fun _ => Is (.bl true)) := by
  refine fn_defG F.L.wide sc_wide (fun _ _ _ _ _ _ us hl => match us, hl with | [_], _ => rfl) (fun M l ⟨_, b, _, e⟩ => by rw [e]; rfl) fun f cdv A outer s H E M l hg hr ⟨tb, b, hM, e⟩ => ?_
  subst e
  have hgd : (cxOf CX0 P w K mg base ["_law_bag_here", "_law_things", "_law_worths_here", "_law_step", "_law_answers", "_law_betters_here", "_law_texts", "_law_book", "_law_table", "_law_scale", "_law_found", "_law_due", "_law_one", "_law_pair", "_law_thing"] "_law_wide_right" (defScope (top 78)) f cdv A outer s H E).nox.A.guards = some [] := hg
  have hr1 : Room 1 _ := hr.mono (by decide)
  have hr2 : Room 2 _ := hr.mono (by decide)
  have hr3 : Room 3 _ := hr.mono (by decide)
  have hr4 : Room 4 _ := hr.mono (by decide)
  have L := F.L.l8.l7.l6
  have L4 := L.l5.l4
  have T := F.T
  refine dps_consR (dp_setR (R := fun d => ∃ zs, d = .lst (dNs (srtF D.str (zs.map wName))) ∧ AlOk zs) 1 sc_wide.nd (dx_sorted (hu64 hr) (DX.weak (dx_lc (Re := fun els => ∃ zs, els = dNs zs ∧ AlOk zs) (Rb := fun i d e => ∃ z ∈ alph, d = .str z ∧ e = .str (wName z)) (R := fun d => ∃ zs, d = .lst (dNs (zs.map wName)) ∧ AlOk zs) (own := [("_law_one", 12)]) (is := [12]) (u := fun d ds => ds.set 12 (some d)) rfl sc_wide.nd
      (.inl (di_list (dx_slL (Rl := Is none) (Rh := fun o => ∃ m : Nat, o = some (m : Int) ∧ m ≤ 12) (dx_mix (f := D.str) (xs := alph) T L4.l2 hM hr3 (dv (d := .raw (.ref b)) 0) (DV.to (d_listS rfl d_str (by decide +kernel) T.b.list) (congrArg D.lst signs_alph)) (fun x hx => shp8_str (alph_nm hx)) (by decide +kernel)) do_none
        (dx_some (dx_opI0 op_add (Ra := Is (.int 7)) (Rb := fun d => ∃ i : Int, d = .int i ∧ 0 ≤ i ∧ i < 6) d_int (dx_take (many := 6) T L4.l2.l1 hM hr1 (dv (d := .raw (.ref b)) 0) d_int (by decide) (by decide)) fun x y e1 ⟨i, e2, i1, i2⟩ => ⟨7, i, e1, e2, 7 + i, rfl, (7 + i).toNat, by rw [Int.toNat_of_nonneg (by omega)], by omega⟩))
        fun x l u ⟨ys, e1, pm⟩ e2 ⟨m, e3, hm⟩ => ⟨ys.map D.str, e1, dNs (ys.take m), by rw [show l = none from e2, e3, cut_upto]; exact congrArg D.lst List.map_take.symm, ys.take m, rfl, fun z hz => pm.mem_iff.mp (List.mem_of_mem_take hz), nd_take (pm.nodup_iff.mpr alph_nd) m, by rw [List.length_take]; omega⟩))) (blkOk_by (by rfl)) (fun _ _ _ _ _ => pg_name (i := 12) sc_wide.nd rfl (Or.inl rfl)) (fun _ _ _ => tg1) (by decide)
      (fun _ _ _ _ _ i d hd => ?_) (fun els es ⟨zs, e1, al⟩ h2 h3 => ⟨zs, ?_, al⟩) (fun els ⟨zs, e1, al⟩ => by rw [e1, List.length_map]; exact Nat.le_trans al.few (by decide))) fun d ⟨zs, e1, al⟩ => ⟨dNs (zs.map wName), .inl e1, sortD_str (by rw [List.length_map]; exact Nat.le_trans al.few (by decide)), zs, by rw [srtD_map], al⟩) T.b.sorted)) fun ds1 ⟨d1, ⟨zs, e1, al⟩, e2⟩ => ?_
  · obtain ⟨els, ⟨zs, e1, al⟩, e2⟩ := hd
    rw [e1, List.getElem?_map] at e2
    cases q : zs[i]? with
    | none => rw [q] at e2; cases e2
    | some z =>
      rw [q] at e2; cases e2
      have hz := al.inn z (List.mem_of_getElem? q)
      refine DX.weak (d_cat d_str (dv (d := .str z) 12) ?_) fun d e => ⟨z, hz, rfl, e⟩
      obtain ⟨c, rfl, _⟩ := alph_mem hz
      exact (show 1 + 1 ≤ sizeLine by decide)
  · subst e1
    refine congrArg D.lst (List.ext_getElem? fun i => ?_)
    rw [dNs, List.map_map, List.getElem?_map]
    rw [List.length_map] at h2
    cases q : zs[i]? with
    | none =>
      rw [List.getElem?_eq_none_iff] at q
      exact List.getElem?_eq_none_iff.mpr (by omega)
    | some z =>
      have lt := (List.getElem?_eq_some_iff.mp q).1
      have h := List.getElem?_eq_getElem (show i < es.length by omega)
      obtain ⟨y, _, h4, h5⟩ := h3 i (.str z) es[i] (by rw [List.getElem?_map, q]; rfl) h
      cases h4
      rw [h, h5]; rfl
  subst e1 e2
  have nm0 := al.nms
  obtain ⟨xs, exs⟩ : ∃ xs, srtF D.str (zs.map wName) = xs := ⟨_, rfl⟩
  have nm : NmsL 12 xs := by
    rw [← exs]
    exact ⟨fun x hx => nm0.all x (srt_mem.mp hx), srt_nd nm0.nd, by rw [srt_len]; exact nm0.few⟩
  have pw : xs.Pairwise fun a b => leF D.str a b = true := by rw [← exs]; exact srt_pw
  rw [exs]
  clear exs
  have nms := nm.nms (by decide)
  have fx := nm.few
  have fx1 : xs.length ≤ 100 := by omega
  refine dps_consR (dp_asgR (is := [2, 3]) (u := u2 2 3) (dx_call (fn_worths T L4 xs nm.nd fx1) hr2 Le.rfl' (da_cons (dv (d := .raw (.ref b)) 0) (da_1 (dv (d := .lst (dNs xs)) 1))) (R := worthsRt xs) fun l e => ⟨⟨b, hM, e⟩, fun d r => r⟩)
    (pg_tup rfl (pgs_cons (pg_name (i := 2) sc_wide.nd rfl (Or.inr rfl)) (pgs_cons (pg_name (i := 3) sc_wide.nd rfl (Or.inl rfl)) pgs_nil))) (fun d ⟨ws, st, e, _⟩ => by rw [e]; exact tg2)) fun ds1 ⟨d1, ⟨ws, st, e1, hw⟩, e2⟩ => ?_
  subst e1 e2
  have wn := ws_wn hw nms pw
  have scn := ws_scn hw nms pw fx1
  have fw : ws.length ≤ 100 := by rw [← List.length_map (f := (·.1)), hw.nms]; exact fx1
  have tbn := bet_tbn hw nms pw fx
  obtain ⟨ps, eps⟩ : ∃ ps, betOf ws st = ps := ⟨_, rfl⟩
  have few := tbn.ok.few
  refine dps_consR (dp_parR (Rl := fun l => ∃ as : List An, l = [.lst (as.map dAn), .lst ((betOf ws st).map dPr)] ∧ BkN xs as ∧ as.length ≤ 200) 4 5 rfl sc_wide.nd (da_consR (R := fun d => ∃ as : List An, d = .lst (as.map dAn) ∧ BkN xs as ∧ as.length ≤ 200) (dx_sorted (hu64 hr) (dx_call (fn_some T L4 xs nm.nd nm.all fx1 9) hr4 Le.rfl' (da_cons (dv (d := .raw (.ref b)) 0) (da_cons (dv (d := .lst (dNs xs)) 1) (da_1 d_int))) fun l e => ⟨⟨b, hM, e⟩, fun d ⟨as, e1, h⟩ => ?_⟩) T.b.sorted)
      (da_1 (d_call (fn_betters T L4 ws st fw) hr2 (da_cons (dv (d := dWs ws) 2) (da_1 (dv (d := .int st) 3))) rfl fun z hz => hz)) fun d l ⟨as, e1, h⟩ e2 => ⟨as, by rw [e1, show l = _ from e2], h⟩) (fun l ⟨as, e, _⟩ => by rw [e]; rfl)) fun ds1 ⟨d1, d2, ⟨as, e1, bk, fa⟩, e2⟩ => ?_
  · have bk := ansOf_bkn nms pw fx h
    have fa : (srtF dAn as).length ≤ 200 := by rw [srt_len]; exact Nat.le_trans h.few (Nat.le_trans (Nat.mul_le_mul fx fx) (by decide))
    refine ⟨as.map dAn, .inl e1, sortD_an ?_, srtF dAn as, by rw [srtD_map], bk, fa⟩
    rw [srt_len] at fa
    exact Nat.le_trans fa (by decide)
  injection e1 with e1 e3
  injection e3 with e3 _
  subst e1 e3 e2
  rw [eps] at tbn few ⊢
  have fp : ps.length ≤ 1000 := by omega
  have fp1 : ps.length ≤ 100 := by omega
  have esr : scaleText (srtW ws) st = scaleText ws st := by rw [srtW_id wn]
  have sT : Shp 1 (.lst (dNs [bookText xs as, tableText xs ps, scaleText ws st])) := shp_texts fun z hz => by
    simp only [List.mem_cons, List.not_mem_nil, or_false] at hz
    rcases hz with rfl | rfl | rfl
    · exact sok_book nms bk.ok.ans
    · exact sok_table nms tbn.ok.prs
    · exact sok_scale scn.wt
  refine dps_setApp (i := 6) (d := .str (scaleText ws st)) (Rl := Is (dNs [bookText xs as, tableText xs ps])) sc_wide.nd (dg_lst (da_cons (d_call (fn_bookText T L xs as nms bk.ok.ans bk.ok.few) hr2 (da_cons (dv (d := .lst (dNs xs)) 1) (da_1 (dv (d := .lst (as.map dAn)) 4))) rfl fun z hz => hz)
      (da_1 (d_call (fn_bookText T L xs (ps.map prAn) nms (prAn_ok tbn.ok.prs) (by rw [List.length_map]; exact fp)) hr2 (da_cons (dv (d := .lst (dNs xs)) 1) (da_1 ?_)) rfl fun z hz => by rw [tab_book]; exact hz))) (by simp))
    (fun p => d_call (fn_scaleText T L ws st wn.nd scn.wt (by omega) scn.small) hr1 (da_cons (dv (d := dWs ws) 2) (da_1 (dv (d := .int st) 3))) rfl fun z hz => by rw [← esr]; exact hz) (fun l e => by rw [show l = _ from e]; show 2 < sizeLine; decide) (fun l e => ?_) (by show 6 < 15; decide)
  · rw [List.map_map]
    exact d_lc (F := dPr) (f := dAn ∘ prAn) (xs := ps) (own := [("_law_pair", 13)]) (is := [13]) (u := fun d ds => ds.set 13 (some d)) rfl sc_wide.nd (.inl (di_lstV (dv (d := .lst (ps.map dPr)) 5))) (blkOk_by (by rfl)) (fun _ _ _ _ _ => pg_name (i := 13) sc_wide.nd rfl (Or.inl rfl)) (fun _ _ => tg1) (by decide)
      (fun _ _ _ _ _ p hp => d_catT (l := [.str p.1, .str p.2]) (m := [.bl true]) (dv (d := dPr p) 13) (d_tup (da_1 d_bl) (by decide)) (by simp) (by simp) (by show 3 ≤ sizeLine; decide)) (Nat.le_trans fp (by decide))
  · rw [show l = _ from e]
    refine dps_cons (ds1 := ((((((((slots ["_law_bag_here", "_law_things", "_law_worths_here", "_law_step", "_law_answers", "_law_betters_here", "_law_texts", "_law_book", "_law_table", "_law_scale", "_law_found", "_law_due", "_law_one", "_law_pair", "_law_thing"] [.raw (.ref b)]).set 1 (some (.lst (dNs xs)))).set 2 (some (dWs ws))).set 3 (some (.int st))).set 4 (some (.lst (as.map dAn)))).set 5 (some (.lst (ps.map dPr)))).set 6 (some (.lst (dNs [bookText xs as, tableText xs ps, scaleText ws st]))) |>.set 7 (some (dBook a.CB xs as))).set 8 (some (dTable a.CT xs ps))).set 9 (some (dScale a.CS ws st))) (dp_par3 7 8 9 rfl sc_wide.nd
      (da_cons (d_callM (fn_readBook F.T F.W F.Dr F.S F.B F.QB F.R xs as bk) hr (da_1 (d_ixL (dv (d := .lst (dNs [bookText xs as, tableText xs ps, scaleText ws st])) 6) d_int (atI_nat (j := 0) rfl))) ⟨tb.b, rfl⟩ fun z hz => hz)
      (da_cons (d_callM (fn_readTable F.T F.W F.Dr F.S F.BT F.QT F.R xs ps tbn) hr (da_1 (d_ixL (dv (d := .lst (dNs [bookText xs as, tableText xs ps, scaleText ws st])) 6) d_int (atI_nat (j := 1) rfl))) ⟨tb.t, rfl⟩ fun z hz => hz)
      (da_1 (d_callM (fn_readScale F.T F.W F.Dr F.S F.BS F.BS2 F.QS F.R ws st scn) hr (da_1 (d_ixL (dv (d := .lst (dNs [bookText xs as, tableText xs ps, scaleText ws st])) 6) d_int (atI_nat (j := 2) rfl))) ⟨tb.s, rfl⟩ fun z hz => hz))))) ?_
    refine dps_cons (dp_set (d := .lst [.lst (dNs xs), .lst (as.map dAn), .lst (dNs xs), .lst (ps.map dPr), dWs ws, .int st]) 10 sc_wide.nd (d_lstS (da_cons (d_meth0 (mt_bThings F.T F.B xs as) hr1 (dv (d := dBook a.CB xs as) 7) F.B.cls rfl rfl fun z hz => hz) (da_cons (d_meth0 (mt_bAnswers F.T F.B xs as) hr1 (dv (d := dBook a.CB xs as) 7) F.B.cls rfl rfl fun z hz => hz) (da_cons (d_meth0 (mt_tThings F.T F.BT xs ps) hr1 (dv (d := dTable a.CT xs ps) 8) F.BT.cls rfl rfl fun z hz => hz)
      (da_cons (d_meth0 (mt_tBetters F.T F.BT xs ps) hr1 (dv (d := dTable a.CT xs ps) 8) F.BT.cls rfl rfl fun z hz => hz) (da_cons (d_meth0 (mt_worths F.T F.BS ws st) hr1 (dv (d := dScale a.CS ws st) 9) F.BS.cls rfl rfl fun z hz => hz) (da_1 (d_prop (pr_step F.BS F.BS2 ws st) hr2 (dv (d := dScale a.CS ws st) 9) F.BS.cls rfl fun z hz => hz)))))))))
      (dps_cons (dp_set (d := .lst [.lst (dNs xs), .lst (as.map dAn), .lst (dNs xs), .lst (ps.map dPr), dWs ws, .int st]) 11 sc_wide.nd (d_lstS (da_cons (dv (d := .lst (dNs xs)) 1) (da_cons (dv (d := .lst (as.map dAn)) 4) (da_cons (dv (d := .lst (dNs xs)) 1) (da_cons (dv (d := .lst (ps.map dPr)) 5) (da_cons ?_ (da_1 (dv (d := .int st) 3)))))))))
      (dps_one (dp_ret (DV.to (d_and2 (p := true) (q := true) (dx_callG (R := Is (.bl true)) (fn_alike F.T F.L.l8) hgd hr1 Le.rfl' (da_cons (dv (d := .lst [.lst (dNs xs), .lst (as.map dAn), .lst (dNs xs), .lst (ps.map dPr), dWs ws, .int st]) 10) (da_1 (dv (d := .lst [.lst (dNs xs), .lst (as.map dAn), .lst (dNs xs), .lst (ps.map dPr), dWs ws, .int st]) 11))) fun l e => ⟨⟨_, e, alk_wide nms.all fx1 bk.ok.ans fa tbn.ok.prs fp1 scn.wt fw scn.small⟩, fun d hd => hd⟩)
        fun _ => CmpD.v (c_eqD (n := 1) (p := true) (hu64 hr) (d_lstS (l := dNs [bookText xs as, tableText xs ps, scaleText ws st]) (da_cons (d_call (fn_showBook F.T F.W F.B F.S xs as nms bk.ok.ans bk.ok.few) hr3 (da_1 (dv (d := dBook a.CB xs as) 7)) rfl fun z hz => hz) (da_cons (d_call (fn_showTable F.T F.W F.BT F.S xs ps nms tbn.ok.prs fp) hr3 (da_1 (dv (d := dTable a.CT xs ps) 8)) rfl fun z hz => hz)
          (da_1 (d_call (fn_showScale F.T F.W F.BS F.BS2 F.S ws st scn.wt scn.few scn.small) hr4 (da_1 (dv (d := dScale a.CS ws st) 9)) rfl fun z hz => hz))))) (dv (d := .lst (dNs [bookText xs as, tableText xs ps, scaleText ws st])) 6) sT sT (by decide) (eqv_texts _))) rfl))))
    refine dx_dictP rfl (DX.weak (d_lc (F := fun p : Wt => D.str p.1) (f := fun p => .tup [.str p.1, .int p.2]) (xs := ws) (own := [("_law_thing", 14)]) (is := [14]) (u := fun d ds => ds.set 14 (some d)) rfl sc_wide.nd (.inl (di_lstV (DV.to (dv (d := .lst (dNs xs)) 1) (by rw [← hw.nms, dNs, List.map_map]; rfl)))) (blkOk_by (by rfl)) (fun _ _ _ _ _ => pg_name (i := 14) sc_wide.nd rfl (Or.inl rfl)) (fun _ _ => tg1) (by decide)
      (fun _ _ _ _ _ p hp => d_tup (da_cons (dv (d := .str p.1) 14) (da_1 (DV.to (d_getK (z := p.1) (hu1 hr) (dv (d := dWs ws) 2) (dv (d := .str p.1) 14) (look_ws (List.mem_map.mpr ⟨p, hp, rfl⟩))) (congrArg D.int (worth_at wn.nd p hp))))) (by simp)) (Nat.le_trans fw (by decide))) fun d e => ⟨ws.map fun p => (p.1, .int p.2), by rw [show d = _ from e, List.map_map]; rfl, by rw [List.map_map]; exact wn.nd, ?_⟩) T.b.dict
    show D.dk _ = dWs ws
    unfold dWs
    rw [List.map_map]
    rfl
end BB
set_option maxHeartbeats 1000000
namespace DL
open PySem PySem.Spec PyProof.Rows L2 SO
/-! ### a loop over a list that stands in a raw slot -/
def tDIP (Φ : Hp → Prop) (M : Mu) (K : PySem.W.Frag) (ds : DS) (Re : List D → Prop) : TI := fun σ H R => ∃ G, Sl K G σ ds ∧ Ok M G H ∧ Φ G ∧ ∀ J els G1 H1, Re els → Gr M G H G1 H1 → Wk M K J G1 els → R J H1
def tDP (Φ : Hp → Prop) (M : Mu) (K : PySem.W.Frag) (ds : DS) (Nx : DS → Prop) (Rt : D → Prop) : TS := fun Z σ H => ∃ G, Sl K G σ ds ∧ Ok M G H ∧ Φ G ∧
  (∀ ds' σ' G' H', Nx ds' → Sl K G' σ' ds' → Gr M G H G' H' → Z.nx σ' H') ∧ ∀ d v G' H', Rt d → Gr M G H G' H' → Dt K G' v d → Z.rt v H'
section
variable {X : Cx} {M : Mu} {ds : DS} {tg iter e e2 : Expr} {Re : List D → Prop} {body rest : List Stmt} {g : TG} {is : List Nat} {u : D → DS → DS} {Rt : D → Prop} {Φ : Hp → Prop} {pos : Pos}
theorem dp_forP (hp : PassesOwn (model X.prog X.w) X.A X.env X.xe) (hc : X.calm = true) (hi : PI X tg iter (tDIP Φ M X.K ds Re)) (hg : PG X tg g) (tgt : ∀ i d, El Re i d → TgOk X.K g is d (u d)) (hb : ∀ i d, El Re i d → DPs X M body (u d ds) (WkS ds) Rt)
    (hs : ∀ x, foldedSetIterable iter X.env x = pure x := by intro _; rfl) : PS X (.For tg iter body [] pos) (tDP Φ M X.K ds (Is ds) Rt) := by
  refine PS.imp (ps_for (tb := fun Z σ H => ∃ z : Nat × D, El Re z.1 z.2 ∧ tDS M X.K (u z.2 ds) (WkS ds) Rt Z σ H) hp hc hi hg (PSs.ex fun z hz => hb z.1 z.2 hz) hs) fun Z σ H ⟨G, s, ok, ph, n, q⟩ => ⟨G, s, ok, ph, fun J els G1 H1 re g1 wk => ?_⟩
  refine ⟨fun i m σ' H' => m = els.length - i ∧ i ≤ els.length ∧ ∃ G', Sl X.K G' σ' ds ∧ Gr M G1 H1 G' H', ⟨els.length, rfl, Nat.zero_le _, G1, s.mono g1.ex, Gr.refl g1.ok⟩, ?_⟩
  rintro i m σ' H' ⟨rfl, hi', G', s', g'⟩
  by_cases hlt : i < els.length
  · refine .inr ⟨wk.go i G' H' g'.ex g'.ok hlt, fun σ2 H2 => ∃ G2, Sl X.K G2 σ2 ds ∧ Gr M G1 H1 G2 H2, fun σ2 H2 hn => ⟨els.length - (i + 1), by omega, rfl, hlt, hn⟩, fun x H2 y => ?_⟩
    have hd' : els[i]? = some els[i] := List.getElem?_eq_getElem hlt
    obtain ⟨G2, g2, tx⟩ := wk.yld i _ G' H' x H2 hd' g'.ex g'.ok y
    have g12 := g'.trans g1.ok g2
    refine tgt i _ ⟨els, re, hd'⟩ G2 σ' H2 x _ ds (s'.mono g2.ex) g2.ok.sub tx fun σ3 s3 _ => ?_
    exact ⟨(i, els[i]), ⟨els, re, hd'⟩, G2, s3, g2.ok, fun ds3 σ4 G3 H3 hn s4 g3 => ⟨G3, s4.forget hn.1 hn.2, g12.trans g1.ok g3⟩, fun d v G3 H3 hr g3 t3 => q d v G3 H3 hr (g1.trans ok (g12.trans g1.ok g3)) t3⟩
  · have e : i = els.length := by omega
    subst e
    exact .inl ⟨wk.stop G' H' g'.ex g'.ok, n ds σ' G' H' rfl s' (g1.trans ok g')⟩
/-- the list at p, known -/
def KnL (K : PySem.W.Frag) (p : Addr) (ws : List V) (l : List D) : Hp → Prop := fun G => G p = some (.lst ws) ∧ Dts K G ws l
theorem pi_raw {i : Nat} {n : Str} {pn : Pos} {p : Addr} {ws : List V} {l : List D} (hi : ds[i]? = some (some (.raw (.ref p)))) (hN : X.N[i]? = some n := by rfl) (hv : Vis X.env.scope n := by first | exact Or.inl rfl | exact Or.inr (Or.inl rfl) | exact Or.inr (Or.inr rfl)) (h1 : (n == ("__debug__" : Str)) = false := by decide) (h2 : (n == ("__classdict__" : Str)) = false := by decide) :
    PI X tg (.Name n pn) (tDIP (KnL X.K p ws l) M X.K ds (Is l)) :=
  PI.imp (pi_list (pe_var hN hv h1 h2)) fun σ H R ⟨G, s, ok, ⟨kp, kt⟩, k⟩ => ⟨.ref p, raw_at s hi, p, rfl, ⟨ws, SqL.of (ok.sub _ _ kp)⟩, k _ l G H rfl (Gr.refl ok) (wk_list kp kt)⟩
/-! ### statements while such a list is known, then an item is appended -/
def tL (M : Mu) (K : PySem.W.Frag) (G0 H0 Gs : Hp) (p : Addr) (l : List D) (dsH ds : DS) (Fin : List D → Prop) (Rt : D → Prop) : TS := fun Z σ H => ∃ G ws, Sl K G σ ds ∧ Gr M G0 H0 G H ∧ Same Gs G ∧ KnL K p ws l G ∧
  (∀ σ' G' H' ws' l', Sl K G' σ' dsH → Gr M G0 H0 G' H' → Same Gs G' → LsAt M K H0 p G' H' ws' l' → Fin l' → Z.nx σ' H') ∧ ∀ d v G' H', Rt d → Gr M G0 H0 G' H' → Dt K G' v d → Z.rt v H'
abbrev LPs (X : Cx) (M : Mu) (G0 H0 Gs : Hp) (p : Addr) (l : List D) (dsH : DS) (sts : List Stmt) (ds : DS) (Fin : List D → Prop) (Rt : D → Prop) : Prop := PSs X sts (tL M X.K G0 H0 Gs p l dsH ds Fin Rt)
variable {G0 H0 Gs : Hp} {p : Addr} {l : List D} {dsH : DS} {Fin : List D → Prop} {st : Stmt} {N1 : DS → Prop}
theorem lps_consR (ok0 : Ok M G0 H0) (h : DP X M st ds N1 Rt) (r : ∀ ds1, N1 ds1 → LPs X M G0 H0 Gs p l dsH rest ds1 Fin Rt) : LPs X M G0 H0 Gs p l dsH (st :: rest) ds Fin Rt :=
  PSs.imp (pss_cons h (PSs.ex (ι := DS) (P := N1) fun ds1 hn => r ds1 hn)) fun Z σ H ⟨G, ws, s, g, sm, ⟨kp, kt⟩, n, q⟩ => ⟨G, s, g.ok, fun ds1 σ1 G1 H1 hn s1 g1 => ⟨ds1, hn, G1, ws, s1, g.trans ok0 g1, sm.trans g1.ex, ⟨g1.ex _ _ kp, kt.mono g1.ex⟩, n, q⟩, fun d v G' H' r g' t => q d v G' H' r (g.trans ok0 g') t⟩
theorem lps_cons {ds1 : DS} (ok0 : Ok M G0 H0) (h : DP X M st ds (Is ds1) Rt) (r : LPs X M G0 H0 Gs p l dsH rest ds1 Fin Rt) : LPs X M G0 H0 Gs p l dsH (st :: rest) ds Fin Rt := lps_consR ok0 h fun x e => by rw [show x = ds1 from e]; exact r
theorem lps_for (ok0 : Ok M G0 H0) (h : ∀ ws, PS X st (tDP (KnL X.K p ws l) M X.K ds (Is ds) Rt)) (r : LPs X M G0 H0 Gs p l dsH rest ds Fin Rt) : LPs X M G0 H0 Gs p l dsH (st :: rest) ds Fin Rt := by
  have h' : PS X st (fun Z σ H => ∃ ws : List V, True ∧ tDP (KnL X.K p ws l) M X.K ds (Is ds) Rt Z σ H) := ⟨fun pins s σ H Z I ⟨ws, _, hz⟩ => (h ws).run pins s σ H Z I hz⟩
  refine PSs.imp (pss_cons h' r) fun Z σ H ⟨G, ws, s, g, sm, ⟨kp, kt⟩, n, q⟩ => ⟨ws, trivial, G, s, g.ok, ⟨kp, kt⟩, fun ds1 σ1 G1 H1 hn s1 g1 => ?_, fun d v G' H' r g' t => q d v G' H' r (g.trans ok0 g') t⟩
  rw [show ds1 = ds from hn] at s1
  exact ⟨G1, ws, s1, g.trans ok0 g1, sm.trans g1.ex, ⟨g1.ex _ _ kp, kt.mono g1.ex⟩, n, q⟩
theorem lps_append {i : Nat} {n : Str} {d : D} {pn pa cpos pos2 : Pos} (ok0 : Ok M G0 H0) (fr : Fre M H0 p) (gs : Gs p = none) (hi : ds[i]? = some (some (.raw (.ref p)))) (he : DV X M e ds d) (ll : ∀ x ∈ l, Loose x) (ld : Loose d) (len : l.length < sizeLine) (hl : dsH.length = ds.length) (hw : ∀ (j : Nat) (x : D), dsH[j]? = some (some x) → ds[j]? = some (some x) ∧ ∃ v, x = .raw v) (fin : Fin (l ++ [d]))
    (hN : X.N[i]? = some n := by rfl) (hv : Vis X.env.scope n := by first | exact Or.inl rfl | exact Or.inr (Or.inl rfl) | exact Or.inr (Or.inr rfl)) (h1 : (n == ("__debug__" : Str)) = false := by decide) (h2 : (n == ("__classdict__" : Str)) = false := by decide)
    (hbase : attributeBase (.Name n pn) "append" X.env (eval (.Name n pn) X.env) = eval (.Name n pn) X.env := by rfl)
    (hfew : ((backTo cpos (starEach [e] X.env)).all (fun x => !x.1) && (backToKw cpos (keywordEach [] X.env)).all (fun x => x.1.isSome) && decide ([e].length + ([] : List Keyword).length + (if ([] : List Keyword).isEmpty then 0 else 1) < 30)) = true := by rfl)
    (hline : (pa.endLine == cpos.line) = true := by rfl) (hst : starEach [e] X.env = (false, eval e X.env) :: starEach [] X.env := by rfl) (hpl : (backTo cpos (starEach [] X.env)).any (·.1) = false := by rfl) (hsw : swapsWith (.Call (.Attribute (.Name n pn) "append" pa) [e] [] cpos) none pos2.line X.env = pure false := by rfl) :
    LPs X M G0 H0 Gs p l dsH [.Expr (.Call (.Attribute (.Name n pn) "append" pa) [e] [] cpos) pos2] ds Fin Rt := by
  refine PSs.imp (pss_one (ps_expr (pe_bm PySem.F.plainAttrs_list PySem.F.slot_list_append PySem.F.type_list_append mt_append (pe_var hN hv h1 h2) (pa_cons he pa_nil hst) hbase hfew hline hst hpl) hsw)) fun Z σ H ⟨G, ws, s, g, sm, ⟨kp, kt⟩, nx, q⟩ => ?_
  refine ⟨.ref p, raw_at s hi, .inl ⟨rfl, ws, SqL.of (g.ok.sub _ _ kp)⟩, G, s, g.ok, fun d' v G1 H1 ed g1 t1 => ?_⟩
  rw [show d' = d from ed] at t1
  have kp1 : G1 p = some (.lst ws) := g1.ex _ _ kp
  have hp1 : H1 p = some (.lst ws) := g1.ok.sub _ _ kp1
  have wl : ws.length < sizeLine := by rw [kt.length]; exact len
  refine ⟨p, ws, v, rfl, rfl, hp1, wl, ?_⟩
  have gd := (g.trans ok0 g1).unknowF ok0 fr
  have g3 := gd.pokeL ok0 fr del_same hp1 (ys := ws ++ [v])
  have dl : ∀ a o, G1 a = some o → (∀ xs, o ≠ .lst xs) → del G1 p a = some o := fun a o e0 nl => by
    rw [del_ne fun z => by rw [z, kp1] at e0; exact nl _ (Option.some.inj e0).symm]; exact e0
  refine nx σ (del G1 p) _ (ws ++ [v]) (l ++ [d]) ⟨s.1.trans hl.symm, fun j x hx => ?_⟩ g3 (fun a o e0 => ?_) ⟨fr, del_same, upd_same, ?_⟩ fin
  · obtain ⟨hx1, v', rfl⟩ := hw j x hx
    exact ⟨v', raw_at s hx1, .raw v'⟩
  · rw [del_ne (ne_of_none e0 gs)]
    exact g1.ex _ _ (sm _ _ e0)
  · exact (dts_loose dl ll (kt.mono g1.ex)).append (.cons (ld X.K G1 _ v dl t1) .nil)
/-- .. the list known at the start -/
theorem LPs.of {σ : L2.St} {H G' H' : Hp} {Z : Ends} {ws : List V} (A : LsAt M X.K H0 p G' H' ws l) (ok0 : Ok M G0 H0) (s : Sl X.K G' σ ds) (g : Gr M G0 H0 G' H') (sm : Same Gs G')
    (n : ∀ σ2 G2 H2 ws2 l2, Sl X.K G2 σ2 dsH → Gr M G0 H0 G2 H2 → Same Gs G2 → LsAt M X.K H0 p G2 H2 ws2 l2 → Fin l2 → Z.nx σ2 H2) (q : ∀ d v G2 H2, Rt d → Gr M G0 H0 G2 H2 → Dt X.K G2 v d → Z.rt v H2) : tL M X.K G0 H0 Gs p l dsH ds Fin Rt Z σ H' :=
  ⟨_, ws, s.mono (same_upd A.g), g.knowF ok0 A.f A.g A.h (fun ps z => by cases z), sm.trans (same_upd A.g), ⟨upd_same, A.t.mono (same_upd A.g)⟩, n, q⟩
end
end DL
set_option maxHeartbeats 1000000
namespace DL
open PySem PySem.Spec PyProof.Rows L2 SO
section
variable {X : Cx} {M : Mu} {ds : DS} {tg iter a b : Expr} {body : List Stmt} {g : TG} {is : List Nat} {u : D → DS → DS} {Rt : D → Prop} {pos : Pos}
/-- a and b, where b is false -/
theorem dt_andF {R : Bool → Prop} (ha : DT X M a ds R) (hb : DT X M b ds (Is false)) : DT X M (.BoolOp .And [a, b] pos) ds (Is false) :=
  PWd.dt ⟨PW.imp (pw_and ha (pw_and1 hb)) fun σ H Q ⟨G, s, ok, k⟩ => ⟨G, s, ok, fun c G1 H1 r g => by
    cases c with
    | true => refine iteT ?_; exact ⟨G1, s.mono g.ex, g.ok, fun b G2 H2 r2 g2 => k b G2 H2 r2 (g.trans ok g2)⟩
    | false => refine iteF ?_; exact k false G1 H1 rfl g⟩⟩
/-- a loop that keeps a list of one's own -/
theorem ps_forOwn {els : List D} {dsH : Addr → DS} {Good : Nat → List D → Prop} (hp : PassesOwn (model X.prog X.w) X.A X.env X.xe) (hc : X.calm = true) (hi : ∀ p, DI X M tg iter (dsH p) (Is els)) (hg : PG X tg g) (tgt : ∀ d ∈ els, TgOk X.K g is d (u d))
    (hb : ∀ (G0 H0 Gs : Hp) (p : Addr) (l : List D) (i : Nat) (d : D), Ok M G0 H0 → Fre M H0 p → Gs p = none → els[i]? = some d → Good i l → LPs X M G0 H0 Gs p l (dsH p) body (u d (dsH p)) (Good (i + 1)) Rt) (hs : ∀ x, foldedSetIterable iter X.env x = pure x := by intro _; rfl) :
    PS X (.For tg iter body [] pos) (fun Z σ H => ∃ G0 H0 G p ws l, Ok M G0 H0 ∧ Sl X.K G σ (dsH p) ∧ Gr M G0 H0 G H ∧ LsAt M X.K H0 p G H ws l ∧ Good 0 l ∧
      (∀ σ' G' H' ws' l', Sl X.K G' σ' (dsH p) → Gr M G0 H0 G' H' → LsAt M X.K H0 p G' H' ws' l' → Good els.length l' → Z.nx σ' H') ∧ ∀ d v G' H', Rt d → Gr M G0 H0 G' H' → Dt X.K G' v d → Z.rt v H') := by
  have hi' : PI X tg iter (fun σ H R => ∃ p : Addr, tDI M X.K (dsH p) (Is els) σ H R) := ⟨fun pins s σ H R I ⟨p, q⟩ => (hi p).run pins s σ H R I q⟩
  refine PS.imp (ps_for (tb := fun Z σ H => ∃ z : (Hp × Hp × Hp × Addr) × (List D × Nat × D), (Ok M z.1.1 z.1.2.1 ∧ Fre M z.1.2.1 z.1.2.2.2 ∧ z.1.2.2.1 z.1.2.2.2 = none ∧ els[z.2.2.1]? = some z.2.2.2 ∧ Good z.2.2.1 z.2.1) ∧ tL M X.K z.1.1 z.1.2.1 z.1.2.2.1 z.1.2.2.2 z.2.1 (dsH z.1.2.2.2) (u z.2.2.2 (dsH z.1.2.2.2)) (Good (z.2.2.1 + 1)) Rt Z σ H) hp hc hi' hg
    (PSs.ex fun z hz => hb _ _ _ _ _ _ _ hz.1 hz.2.1 hz.2.2.1 hz.2.2.2.1 hz.2.2.2.2) hs) fun Z σ H ⟨G0, H0, G, p, ws, l, ok0, s, g, A, gd, n, q⟩ => ⟨p, G, s, g.ok, fun J els' G1 H1 re g1 wk => ?_⟩
  have re : els' = els := re
  subst re
  have A1 := A.keep ok0 g1
  refine ⟨fun i m σ' H' => m = els'.length - i ∧ i ≤ els'.length ∧ ∃ G' ws' l', Sl X.K G' σ' (dsH p) ∧ Gr M G0 H0 G' H' ∧ Same G1 G' ∧ LsAt M X.K H0 p G' H' ws' l' ∧ Good i l', ⟨_, rfl, Nat.zero_le _, G1, ws, l, s.mono g1.ex, g.trans ok0 g1, Same.refl _, A1, gd⟩, ?_⟩
  rintro i m σ' H' ⟨rfl, hi', G', ws', l', s', g', sm, A', gd'⟩
  by_cases hlt : i < els'.length
  · refine .inr ⟨wk.go i G' H' sm g'.ok hlt, fun σ2 H2 => ∃ G2 ws2 l2, Sl X.K G2 σ2 (dsH p) ∧ Gr M G0 H0 G2 H2 ∧ Same G1 G2 ∧ LsAt M X.K H0 p G2 H2 ws2 l2 ∧ Good (i + 1) l2, fun σ2 H2 hn => ⟨els'.length - (i + 1), by omega, rfl, hlt, hn⟩, fun x H2 y => ?_⟩
    have hd' : els'[i]? = some els'[i] := List.getElem?_eq_getElem hlt
    obtain ⟨G2, g2, tx⟩ := wk.yld i _ G' H' x H2 hd' sm g'.ok y
    have A2 := A'.keep ok0 g2
    have g02 := g'.trans ok0 g2
    refine tgt _ (List.mem_of_getElem? hd') G2 σ' H2 x _ (dsH p) (s'.mono g2.ex) g2.ok.sub tx fun σ3 s3 _ => ?_
    refine ⟨((G0, H0, G1, p), (l', i, els'[i])), ⟨ok0, A.f, A1.g, hd', gd'⟩, ?_⟩
    exact LPs.of (H := H2) A2 ok0 s3 g02 (sm.trans g2.ex) (fun σ4 G4 H4 ws4 l4 s4 g4 sm4 A4 f4 => ⟨G4, ws4, l4, s4, g4, sm4, A4, f4⟩) fun d v G4 H4 r g4 t => q d v G4 H4 r g4 t
  · have e : i = els'.length := by omega
    subst e
    exact .inl ⟨wk.stop G' H' sm g'.ok, n σ' G' H' ws' l' s' g' A' gd'⟩
end
end DL
namespace BB
open PySem PySem.Spec PyProof.Rows L2 DL SO PySem.W TL
theorem loose_ob {C : Addr} {fs : List (Str × D)} (h : ∀ d ∈ fs.map (·.2), Loose d) : Loose (.ob C fs) := fun K G G' v k t => by
  cases t with
  | ob h1 hk s => exact .ob (k _ _ h1 fun xs z => by cases z) hk (dts_loose k h s)
theorem loose_dk {fs : List (Key × D)} (h : ∀ d ∈ fs.map (·.2), Loose d) : Loose (.dk fs) := fun K G G' v k t => by
  cases t with
  | dk h1 hk s =>
    refine .dk ?_ hk (dts_loose k h s)
    rcases h1 with h1 | ⟨o, h1⟩
    · exact .inl (k _ _ h1 fun xs z => by cases z)
    · exact .inr ⟨o, k _ _ h1 fun xs z => by cases z⟩
theorem loose_table {C : Addr} {xs : List Str} {ps : List Pr} : Loose (dTable C xs ps) := loose_ob fun d hd => by
  simp only [tableF, List.map_cons, List.map_nil, List.mem_cons, List.not_mem_nil, or_false] at hd
  rcases hd with rfl | rfl
  · exact loose_tup fun d hd => by
      obtain ⟨x, _, rfl⟩ := List.mem_map.mp hd
      exact loose_str
  · exact loose_tup fun d hd => by
      obtain ⟨x, _, rfl⟩ := List.mem_map.mp hd
      exact loose_pr
theorem loose_scale {C : Addr} {ws : List Wt} {st : Int} : Loose (dScale C ws st) := loose_ob fun d hd => by
  simp only [scaleF, List.map_cons, List.map_nil, List.mem_cons, List.not_mem_nil, or_false] at hd
  rcases hd with rfl | rfl
  · refine loose_dk fun d hd => ?_
    rw [List.map_map] at hd
    obtain ⟨x, _, rfl⟩ := List.mem_map.mp hd
    exact loose_int
  · exact loose_int
end BB
set_option maxHeartbeats 1000000
namespace DL
open PySem PySem.Spec PyProof.Rows L2 SO
section
variable {X : Cx} {M : Mu} {ds : DS} {e1 e2 c : Expr} {A : List Stmt} {Nx : DS → Prop} {Rt : D → Prop}
/-- name = a new list; if c: .. (c false, the list known); name.append(e2) -/
theorem dps_tellPoke {i : Nat} {x : Str} {l : List D} {d : D} {px pn pa cpos pos pos1 pos2 : Pos} (hN : X.N.Nodup) (he : DG X M e1 ds (Is l)) (ht : ∀ p : Addr, DT X M c ((ds.set i (some (.raw (.ref p)))).set i (some (.lst l))) (Is false)) (h2 : ∀ p : Addr, DV X M e2 (ds.set i (some (.raw (.ref p)))) d) (len : l.length < sizeLine) (nx : ∀ p : Addr, Nx (ds.set i (some (.raw (.ref p))))) (il : i < ds.length)
    (hi : X.N[i]? = some x := by rfl) (hx : Loc X.env.scope x := by exact .inl rfl) (hs : swapsWith e1 (some (.Name x px)) pos.line X.env = pure false := by rfl) (hf : X.fn x = true ∨ X.env.scope.names.lookup x = some .local := by first | exact .inl rfl | exact .inr rfl)
    (hv : Vis X.env.scope x := by first | exact Or.inl rfl | exact Or.inr (Or.inl rfl) | exact Or.inr (Or.inr rfl)) (h1 : (x == ("__debug__" : Str)) = false := by decide) (h3 : (x == ("__classdict__" : Str)) = false := by decide)
    (hbase : attributeBase (.Name x pn) "append" X.env (eval (.Name x pn) X.env) = eval (.Name x pn) X.env := by rfl)
    (hfew : ((backTo cpos (starEach [e2] X.env)).all (fun x => !x.1) && (backToKw cpos (keywordEach [] X.env)).all (fun x => x.1.isSome) && decide ([e2].length + ([] : List Keyword).length + (if ([] : List Keyword).isEmpty then 0 else 1) < 30)) = true := by rfl)
    (hline : (pa.endLine == cpos.line) = true := by rfl) (hst : starEach [e2] X.env = (false, eval e2 X.env) :: starEach [] X.env := by rfl) (hpl : (backTo cpos (starEach [] X.env)).any (·.1) = false := by rfl) (hw : swapsWith (.Call (.Attribute (.Name x pn) "append" pa) [e2] [] cpos) none pos2.line X.env = pure false := by rfl) :
    DPs X M [.Assign [.Name x px] e1 pos, .If c A [] pos1, .Expr (.Call (.Attribute (.Name x pn) "append" pa) [e2] [] cpos) pos2] ds Nx Rt :=
  PSs.imp (pss_cons (ps_set hN hi hx he hs hf) (pss_cons (ps_if (PT.ex (ι := Addr) (P := fun _ => True) (t := fun p => tDT M X.K ((ds.set i (some (.raw (.ref p)))).set i (some (.lst l))) (Is false)) fun p _ => ht p) pss_never pss_nil)
    (pss_one (ps_expr (pe_bm PySem.F.plainAttrs_list PySem.F.slot_list_append PySem.F.type_list_append mt_append (pe_var hi hv h1 h3) (pa_cons (PE.ex (ι := Addr) (P := fun _ => True) fun p _ => h2 p) pa_nil hst) hbase hfew hline hst hpl) hw)))) fun Z σ H ⟨G, s, ok, n, q⟩ => ⟨G, s, ok, fun l' ws p G1 H1 r g1 A1 => by
    have r : l' = l := r
    subst r
    have s1 := (s.mono g1.ex).set i (Dt.raw (K := X.K) (G := G1) (.ref p))
    have at_ : (ds.set i (some (.raw (.ref p))))[i]? = some (some (.raw (.ref p))) := by rw [List.getElem?_set_self il]
    refine ⟨p, trivial, tdt_of (ls_eval at_ s1 g1 ok A1 fun d' v G2 H2 ⟨c', ed, rc⟩ g2 e2' A2 _ tl => ?_)⟩
    subst ed
    cases tl loose_bl
    refine ⟨c', rfl, ?_⟩
    have rc : c' = false := rc
    subst rc
    refine iteF ?_
    have s2 := s1.mono e2'
    refine ⟨.ref p, raw_at s2 at_, .inl ⟨rfl, ws, SqL.of A2.h⟩, p, trivial, G2, s2, g2.ok, fun d' v G3 H3 e g3 t3 => ?_⟩
    have A3 := A2.keep ok g3
    have g23 := g2.trans ok g3
    have wl : ws.length < sizeLine := by rw [A3.t.length]; exact len
    exact ⟨p, ws, v, rfl, rfl, A3.h, wl, n _ _ G3 _ (nx p) (s2.mono g3.ex) (g23.pokeL ok A3.f A3.g A3.h)⟩⟩
end
end DL
set_option maxHeartbeats 2000000
namespace BB
open PySem PySem.Spec PyProof.Rows L2 DL SO PySem.W TL
variable {P : Program} {w : World} {K : PySem.W.Frag} {mg : Str → Option Value} {base : Heap} {a : Ad}
/-! ### one turn's Book, Table, Scale -/
structure E3 where
  xs : List Str
  as : List An
  ps : List Pr
  ws : List Wt
  st : Int
structure E3Ok (e : E3) : Prop where
  bk : BkN e.xs e.as
  tb : TbN e.xs e.ps
  sc : ScN e.ws e.st
def dE (a : Ad) (e : E3) : D := .tup [dBook a.CB e.xs e.as, dTable a.CT e.xs e.ps, dScale a.CS e.ws e.st]
theorem loose_E {e : E3} : Loose (dE a e) := loose_tup fun d hd => by
  simp only [List.mem_cons, List.not_mem_nil, or_false] at hd
  rcases hd with rfl | rfl | rfl
  · exact loose_book
  · exact loose_table
  · exact loose_scale
def GoodL (a : Ad) (i : Nat) (l : List D) : Prop := ∃ es : List E3, l = es.map (dE a) ∧ (∀ e ∈ es, E3Ok e) ∧ es.length = i
theorem goodL_app {i : Nat} {l : List D} {e : E3} (h : GoodL a i l) (ok : E3Ok e) : GoodL a (i + 1) (l ++ [dE a e]) := by
  obtain ⟨es, e1, h1, h2⟩ := h
  refine ⟨es ++ [e], by rw [e1, List.map_append]; rfl, fun x hx => ?_, by rw [List.length_append, h2]; rfl⟩
  rcases List.mem_append.mp hx with hx | hx
  · exact h1 x hx
  · rw [List.mem_singleton.mp hx]; exact ok
theorem wtg_scn {xs : List Str} {ws : List Wt} {st : Int} (h : WtG xs ws st) (hx : NmsL 6 xs) : ScN (srtW ws) st := by
  have few : (srtW ws).length ≤ 6 := by
    rw [← List.length_map (f := (·.1)), srtW_names, srt_len, h.nms]; exact hx.few
  have nd : (ws.map (·.1)).Nodup := by rw [h.nms]; exact hx.nd
  refine ⟨fun p hp => ?_, ⟨by rw [srtW_names]; exact srt_nd nd, by rw [srtW_names]; exact srt_pw⟩, by omega, h.s1, h.s2⟩
  unfold srtW at hp
  obtain ⟨x, hx2, rfl⟩ := List.mem_map.mp hp
  have hx3 := srt_mem.mp hx2
  obtain ⟨p, hp2, rfl⟩ := List.mem_map.mp hx3
  refine ⟨hx.all _ (by rw [← h.nms]; exact hx3), ?_⟩
  show (worthOf ws p.1).natAbs < 10 ^ 40
  rw [worth_at nd p hp2]
  exact h.wt p hp2
theorem srtW_few {xs : List Str} {ws : List Wt} {st : Int} (h : WtG xs ws st) (hx : NmsL 6 xs) : (srtW ws).length ≤ 100 := by
  rw [← List.length_map (f := (·.1)), srtW_names, srt_len, h.nms]; exact Nat.le_trans hx.few (by decide)
abbrev lawN : List Str := ["_law_script", "_law_bag_here", "_law_elder", "_law_turn", "_law_things", "_law_answers", "_law_worths_here", "_law_step", "_law_folk", "_law_its_step", "_law_book", "_law_scale", "_law_table", "_law_walk_here", "_law_answer", "_law_again", "_law_told", "_law_other", "_law_its_table", "_law_its_scale"]
theorem sc_law : FnScope lawN ["_law_script"] (defScope (top 79)) := ⟨rfl, rfl, rfl, by decide +kernel, rfl, by decide +kernel, by decide +kernel⟩
abbrev lawB (b : Addr) : DS := [none, some (.raw (.ref b)), none, none, none, none, none, none, none, none, none, none, none, none, none, none, none, none, none, none]
abbrev lawH (b p : Addr) : DS := [none, some (.raw (.ref b)), some (.raw (.ref p)), none, none, none, none, none, none, none, none, none, none, none, none, none, none, none, none, none]
theorem lawH_at {b p : Addr} {j : Nat} {x : D} (h : (lawH b p)[j]? = some (some x)) : (j = 1 ∧ x = .raw (.ref b)) ∨ (j = 2 ∧ x = .raw (.ref p)) := by
  match j, h with
  | 0, h => cases h
  | 1, h => cases h; exact .inl ⟨rfl, rfl⟩
  | 2, h => cases h; exact .inr ⟨rfl, rfl⟩
  | j + 3, h =>
    have h : (List.replicate 17 (none : Option D))[j]? = some (some x) := h
    rw [List.getElem?_replicate] at h
    split at h <;> cases h
def lawLoop : Stmt := match defBody (top 79) with
  | [_, _, _, s, _] => s
  | _ => .Pass ⟨0, 0, 0, 0⟩
def lawTurn : List Stmt := match lawLoop with
  | .For _ _ b _ _ => b
  | _ => []
abbrev lawX (P : Program) (w : World) (K : PySem.W.Frag) (mg : Str → Option Value) (base : Heap) (f : Addr) (cdv : Value) (A : Around) (outer : List Env) (s : Shared) (H : Hp) (E : XK) : Cx := (cxOf CX0 P w K mg base lawN "law" (defScope (top 79)) f cdv A outer s H E).nox
/-- one turn -/
theorem law_turn (F : All K w base mg a) {f : Addr} {cdv : Value} {A : Around} {outer : List Env} {s : Shared} {H : Hp} {E : XK} {b : Addr} {M : Mu} (hM : M.bag = some b) (tb : Tb3 M a) (hgd : A.guards = some []) (hr : Room 12 (lawX P w K mg base f cdv A outer s H E).A) {G0 H0 Gs : Hp} {p : Addr} {l : List D} {i : Nat} (ok0 : Ok M G0 H0) (fr : Fre M H0 p) (gs : Gs p = none) (hi : i < 5) (gd : GoodL a i l) :
    LPs (lawX P w K mg base f cdv A outer s H E) M G0 H0 Gs p l (lawH b p) lawTurn ((lawH b p).set 3 (some (.int (0 + (i : Nat))))) (GoodL a (i + 1)) (Is (.bl true)) := by
  have hgd : (lawX P w K mg base f cdv A outer s H E).A.guards = some [] := hgd
  have hr1 : Room 1 _ := hr.mono (by decide)
  have hr2 : Room 2 _ := hr.mono (by decide)
  have hr3 : Room 3 _ := hr.mono (by decide)
  have hr4 : Room 4 _ := hr.mono (by decide)
  have hr5 : Room 5 _ := hr.mono (by decide)
  have hr6 : Room 6 _ := hr.mono (by decide)
  have hr7 : Room 7 _ := hr.mono (by decide)
  have hr8 : Room 8 _ := hr.mono (by decide)
  have hr9 : Room 9 _ := hr.mono (by decide)
  have T := F.T
  have L7 := F.L.l8.l7
  have L6 := L7.l6
  have L5 := L6.l5
  have L4 := L5.l4
  refine lps_consR ok0 (dp_asgR (is := [4, 5]) (u := u2 4 5) (dx_call (fn_drawn T L6) hr5 Le.rfl' (da_cons (dv (d := .raw (.ref b)) 1) (da_1 d_int)) (R := drawnRt) fun l e => ⟨⟨b, hM, e⟩, fun d r => r⟩)
    (pg_tup rfl (pgs_cons (pg_name (i := 4) sc_law.nd rfl (Or.inl rfl)) (pgs_cons (pg_name (i := 5) sc_law.nd rfl (Or.inl rfl)) pgs_nil))) (fun d ⟨xs, as, e, _⟩ => by rw [e]; exact tg2)) fun ds1 ⟨d1, ⟨xs, as, e1, bk, fx, fa⟩, e2⟩ => ?_
  subst e1 e2
  have nms := bk.ok.nms
  have fx1 : xs.length ≤ 100 := by omega
  have fa1 : as.length ≤ 100 := by omega
  refine lps_consR ok0 (dp_asgR (is := [6, 7]) (u := u2 6 7) (dx_call (fn_great T L6) hr3 Le.rfl' (Rl := fun l => ∃ ys, NmsL 6 ys ∧ l = [.raw (.ref b), .lst (dNs ys)]) (da_consR (dv (d := .raw (.ref b)) 1) (da_consR (R := namesRt) (dx_call (fn_names2 T L5) hr4 Le.rfl' (Rl := fun l => ∃ n : Nat, n ≤ 6 ∧ l = [.raw (.ref b), .int (n : Int)]) (da_consR (dv (d := .raw (.ref b)) 1) (da_consR (dx_take (many := 7) T L4.l2.l1 hM hr1 (dv (d := .raw (.ref b)) 1) d_int (by decide) (by decide)) da_nil (Rm := fun l => ∃ n : Nat, n ≤ 6 ∧ l = [.int (n : Int)])
        fun d l ⟨i, e1, i1, i2⟩ e2 => ⟨i.toNat, by omega, by rw [e1, show l = _ from e2, Int.toNat_of_nonneg i1]⟩) fun d l e1 ⟨n, hn, e2⟩ => ⟨n, hn, by rw [show d = _ from e1, e2]⟩) fun l ⟨n, hn, e⟩ => ⟨⟨b, n, hM, hn, e⟩, fun d r => r⟩) da_nil (Rm := fun l => ∃ ys, NmsL 6 ys ∧ l = [.lst (dNs ys)]) fun d l ⟨ys, e1, nm⟩ e2 => ⟨ys, nm, by rw [e1, show l = _ from e2]⟩) fun d l e1 ⟨ys, nm, e2⟩ => ⟨ys, nm, by rw [show d = _ from e1, e2]⟩)
      (R := fun d => ∃ ys, NmsL 6 ys ∧ greatRt ys d) fun l ⟨ys, nm, e⟩ => ⟨⟨b, ys, hM, nm, e⟩, fun d r => r⟩)
    (pg_tup rfl (pgs_cons (pg_name (i := 6) sc_law.nd rfl (Or.inl rfl)) (pgs_cons (pg_name (i := 7) sc_law.nd rfl (Or.inl rfl)) pgs_nil))) (fun d ⟨ys, _, ws, st, e, _⟩ => by rw [e]; exact tg2)) fun ds1 ⟨d1, ⟨ys, nmy, ws, st, e1, hw⟩, e2⟩ => ?_
  subst e1 e2
  have scn := wtg_scn hw nmy
  have fws := srtW_few hw nmy
  have fw0 : ws.length ≤ 1000 := by
    rw [← List.length_map (f := (·.1)), hw.nms]; exact Nat.le_trans nmy.few (by decide)
  refine lps_consR ok0 (dp_asgR (is := [8, 9]) (u := u2 8 9) (dx_call (fn_worths T L4 xs nms.nd fx1) hr2 Le.rfl' (da_cons (dv (d := .raw (.ref b)) 1) (da_1 (dv (d := .lst (dNs xs)) 4))) (R := worthsRt xs) fun l e => ⟨⟨b, hM, e⟩, fun d r => r⟩)
    (pg_tup rfl (pgs_cons (pg_name (i := 8) sc_law.nd rfl (Or.inl rfl)) (pgs_cons (pg_name (i := 9) sc_law.nd rfl (Or.inl rfl)) pgs_nil))) (fun d ⟨ws, st, e, _⟩ => by rw [e]; exact tg2)) fun ds1 ⟨d1, ⟨vs, su, e1, hv⟩, e2⟩ => ?_
  subst e1 e2
  have fv : vs.length ≤ 100 := by rw [← List.length_map (f := (·.1)), hv.nms]; exact fx1
  have tbn := bet_tbn hv nms bk.xs (by omega)
  refine lps_cons ok0 (dp_par (d1 := dBook a.CB xs as) (d2 := dScale a.CS (srtW ws) st) 10 11 rfl sc_law.nd (da_cons (d_callM (fn_made2 T F.B F.QB L7 xs as bk fx1 fa1) hr9 (da_cons (dv (d := .raw (.ref b)) 1) (da_cons (dv (d := .lst (dNs xs)) 4) (da_1 (dv (d := .lst (as.map dAn)) 5)))) ⟨b, hM, rfl⟩ fun z hz => hz)
    (da_1 (d_make (mk_scale T F.BS F.QS ws st (fun p hp => nmy.all _ (by rw [← hw.nms]; exact List.mem_map.mpr ⟨p, hp, rfl⟩)) (by rw [hw.nms]; exact nmy.nd) fw0 hw.s1) hr5 (da_cons (dv (d := dWs ws) 6) (da_1 (dv (d := .int st) 7))) rfl)))) ?_
  obtain ⟨ps, eps⟩ : ∃ ps, betOf vs su = ps := ⟨_, rfl⟩
  have few := tbn.ok.few
  rw [eps] at tbn few
  have fp : ps.length ≤ 1000 := by omega
  have fp1 : ps.length ≤ 100 := by omega
  refine lps_consR ok0 (dp_parR (Rl := fun l => ∃ zs : List An, l = [dTable a.CT xs ps, .lst (zs.map dAn)] ∧ (∀ a ∈ zs, AnOk a) ∧ zs.length ≤ 100) 12 13 rfl sc_law.nd (da_consR (R := Is (dTable a.CT xs ps)) (DV.to (d_make (mk_table T F.BT F.QT xs ps tbn.ok) hr8 (da_cons (dv (d := .lst (dNs xs)) 4) (da_1 (DV.to (d_call (fn_betters T L4 vs su fv) hr2 (da_cons (dv (d := dWs vs) 8) (da_1 (dv (d := .int su) 9))) rfl fun z hz => hz) (by rw [eps])))) rfl) (by rw [srt_id bk.xs, srt_id tbn.ps]; rfl))
      (da_consR (R := walkRt xs) (dx_call (fn_walk T L4 xs nms.all fx1) hr3 Le.rfl' (da_cons (dv (d := .raw (.ref b)) 1) (da_1 (dv (d := .lst (dNs xs)) 4))) fun l e => ⟨⟨b, hM, e⟩, fun d r => r⟩) da_nil (Rm := fun l => ∃ zs : List An, l = [.lst (zs.map dAn)] ∧ (∀ a ∈ zs, AnOk a) ∧ zs.length ≤ 100) fun d l ⟨zs, e1, inn, fz⟩ e2 => ⟨zs, by rw [e1, show l = _ from e2], fun z hz => ⟨nms.all _ (inn z hz).1, nms.all _ (inn z hz).2.1, (inn z hz).2.2⟩, fz⟩)
      fun d l e1 ⟨zs, e2, h⟩ => ⟨zs, by rw [show d = _ from e1, e2], h⟩) (fun l ⟨zs, e, _⟩ => by rw [e]; rfl)) fun ds1 ⟨d1, d2, ⟨zs, e1, zok, fz⟩, e2⟩ => ?_
  injection e1 with e1 e3
  injection e3 with e3 _
  subst e1 e3 e2
  have fz1 : zs.length ≤ 1000 := by omega
  show LPs _ M G0 H0 Gs p l _ _ [none, some (.raw (.ref b)), some (.raw (.ref p)), some (.int (0 + (i : Nat))), some (.lst (dNs xs)), some (.lst (as.map dAn)), some (dWs ws), some (.int st), some (dWs vs), some (.int su), some (dBook a.CB xs as), some (dScale a.CS (srtW ws) st), some (dTable a.CT xs ps), some (.lst (zs.map dAn)), none, none, none, none, none, none] _ _
  refine lps_cons ok0 (dp_if (p := false) (DT.to (dt_not (p := true) (dt_v (dx_callG (R := Is (.bl true)) (fn_allBack F xs as bk fa1 xs ps tbn (srtW ws) st scn fws) hgd hr Le.rfl' (da_cons (dv (d := .raw (.ref b)) 1) (da_cons (dv (d := dBook a.CB xs as) 10) (da_cons (dv (d := dTable a.CT xs ps) 12) (da_1 (dv (d := dScale a.CS (srtW ws) st) 11))))) fun l e => ⟨⟨tb, _, e⟩, fun d hd => hd⟩))) rfl) (fun h => nomatch h) fun _ => dps_nil rfl) ?_
  refine lps_cons ok0 (dp_forW (is := [14]) (u := fun d ds => ds.set 14 (some d)) PassesOwn.never rfl (di_lstV (els := (as.take 5).map dAn) (DV.to (d_slL (dv (d := .lst (as.map dAn)) 5) do_none (do_some d_int)) (by rw [show (5 : Int) = ((5 : Nat) : Int) from rfl, cut_upto, List.map_take]))) (pg_name (i := 14) sc_law.nd rfl (Or.inl rfl)) um1 (fun _ _ _ => tg1) fun i d hd => ?_) ?_
  · obtain ⟨els, e1, e2⟩ := hd
    have e1 : els = (as.take 5).map dAn := e1
    subst e1
    rw [List.getElem?_map] at e2
    cases q : (as.take 5)[i]? with
    | none => rw [q] at e2; cases e2
    | some y =>
      rw [q] at e2; cases e2
      have hy := bk.ok.ans y (List.mem_of_mem_take (List.mem_of_getElem? q))
      refine dps_one (dp_if (p := false) (DT.to (dt_not (p := true) (dt_v (dx_callG (R := Is (.bl true)) (fn_alike T F.L.l8) hgd hr1 Le.rfl' (da_cons (d_call (fn_readAnswer T F.Dr y hy) hr6 (da_1 (d_call (fn_showAnswer T F.W y hy) hr1 (da_1 (dv (d := dAn y) 14)) rfl fun z hz => hz)) rfl fun z hz => hz) (da_1 (dv (d := dAn y) 14))) fun l e => ⟨⟨_, e, alk_an hy⟩, fun d hd => hd⟩))) rfl) (fun h => nomatch h) fun _ => dps_nil ?_)
      exact (WkS.refl _).put rfl
  refine lps_cons ok0 (dp_forW (is := [15]) (u := fun d ds => ds.set 15 (some d)) PassesOwn.never rfl (di_rangeN (n := 3) d_int (by decide) T.b.range) (pg_name (i := 15) sc_law.nd rfl (Or.inl rfl)) um1 (fun _ _ _ => tg1) fun i d hd => ?_) ?_
  · refine dps_tellPoke (i := 16) (l := zs.map dAn) sc_law.nd (dg_callL (fn_readWalkF T F.W F.Dr zs zok fz1) hr7 (da_1 (d_call (fn_showWalk T F.W zs zok fz1) hr2 (da_1 (dv (d := .lst (zs.map dAn)) 13)) rfl fun z hz => hz)) fun l e => ⟨e, fun d hd => hd⟩) (fun p => ?_) (fun p => d_non) (Nat.lt_of_le_of_lt (by rw [List.length_map]; exact fz) (by decide)) (fun p => ((WkS.refl _).put rfl).put rfl) (by show 16 < 20; decide)
    refine DT.to (dt_or (p := false) (q := false) (DT.to (dt_not (p := true) (dt_v (dx_callG (R := Is (.bl true)) (fn_alike T F.L.l8) hgd hr1 Le.rfl' (da_cons (dv (d := .lst (zs.map dAn)) 16) (da_1 (dv (d := .lst (zs.map dAn)) 13))) fun l e => ⟨⟨_, e, alk_walk zok fz⟩, fun d hd => hd⟩))) rfl)
      fun _ => ((c_neS (d_call (fn_showWalk T F.W zs zok fz1) hr2 (da_1 (dv (d := .lst (zs.map dAn)) 16)) rfl fun z hz => hz) (d_call (fn_showWalk T F.W zs zok fz1) hr2 (da_1 (dv (d := .lst (zs.map dAn)) 13)) rfl fun z hz => hz)).to (by simp)).t) rfl
  refine lps_for ok0 (fun us => dp_forP (is := [17, 18, 19]) (u := u3 17 18 19) PassesOwn.never rfl (pi_raw (i := 2) rfl) (pg_tup rfl (pgs_cons (pg_name (i := 17) sc_law.nd rfl (Or.inl rfl)) (pgs_cons (pg_name (i := 18) sc_law.nd rfl (Or.inl rfl)) (pgs_cons (pg_name (i := 19) sc_law.nd rfl (Or.inl rfl)) pgs_nil)))) (fun i d hd => ?_) fun i d hd => ?_) ?_
  · obtain ⟨els, e1, e2⟩ := hd
    obtain ⟨es, e3, h3, _⟩ := gd
    rw [show els = l from e1, e3, List.getElem?_map] at e2
    cases q : es[i]? with
    | none => rw [q] at e2; cases e2
    | some y => rw [q] at e2; cases e2; exact tg3
  · obtain ⟨els, e1, e2⟩ := hd
    obtain ⟨es, e3, h3, _⟩ := gd
    rw [show els = l from e1, e3, List.getElem?_map] at e2
    cases q : es[i]? with
    | none => rw [q] at e2; cases e2
    | some y =>
      rw [q] at e2; cases e2
      have oky := h3 y (List.mem_of_getElem? q)
      refine dps_cons (dp_if (p := false) ((c_neB (c_eqS (d_call (fn_showBook T F.W F.B F.S y.xs y.as oky.bk.ok.nms oky.bk.ok.ans oky.bk.ok.few) hr3 (da_1 (dv (d := dBook a.CB y.xs y.as) 17)) rfl fun z hz => hz) (d_call (fn_showBook T F.W F.B F.S xs as nms bk.ok.ans bk.ok.few) hr3 (da_1 (dv (d := dBook a.CB xs as) 10)) rfl fun z hz => hz)).v
          (c_eqO (mt_eqB T F.B F.Q y.xs xs y.as as oky.bk.ok.nms.all nms.all oky.bk.as bk.as) hr1 rfl (dv (d := dBook a.CB y.xs y.as) 17) (dv (d := dBook a.CB xs as) 10)).v).to (by rw [book_same oky.bk.ok.nms nms oky.bk.ok.ans bk.ok.ans]; simp)).t (fun h => nomatch h) fun _ => dps_nil rfl)
        (dps_cons (dp_if (p := false) ((c_neB (c_eqS (d_call (fn_showTable T F.W F.BT F.S y.xs y.ps oky.tb.ok.nms oky.tb.ok.prs (by have := oky.tb.ok.few; omega)) hr3 (da_1 (dv (d := dTable a.CT y.xs y.ps) 18)) rfl fun z hz => hz) (d_call (fn_showTable T F.W F.BT F.S xs ps nms tbn.ok.prs fp) hr3 (da_1 (dv (d := dTable a.CT xs ps) 12)) rfl fun z hz => hz)).v
          (c_eqO (mt_eqT T F.BT F.Q y.xs xs y.ps ps oky.tb.ok.nms.all nms.all oky.tb.ok.prs tbn.ok.prs) hr1 rfl (dv (d := dTable a.CT y.xs y.ps) 18) (dv (d := dTable a.CT xs ps) 12)).v).to (by rw [table_same oky.tb.ok.nms nms oky.tb.ok.prs tbn.ok.prs]; simp)).t (fun h => nomatch h) fun _ => dps_nil rfl)
        (dps_one (dp_if (p := false) ((c_neB (c_eqS (d_call (fn_showScale T F.W F.BS F.BS2 F.S y.ws y.st oky.sc.wt oky.sc.few oky.sc.small) hr4 (da_1 (dv (d := dScale a.CS y.ws y.st) 19)) rfl fun z hz => hz) (d_call (fn_showScale T F.W F.BS F.BS2 F.S (srtW ws) st scn.wt scn.few scn.small) hr4 (da_1 (dv (d := dScale a.CS (srtW ws) st) 11)) rfl fun z hz => hz)).v
          (c_eqO (mt_eqS T F.BS F.Q y.ws (srtW ws) y.st st oky.sc.wn scn.wn) hr1 rfl (dv (d := dScale a.CS y.ws y.st) 19) (dv (d := dScale a.CS (srtW ws) st) 11)).v).to (by rw [scale_same oky.sc.wt scn.wt oky.sc.small scn.small]; simp)).t (fun h => nomatch h) fun _ => dps_nil ?_)))
      exact (((WkS.refl _).put rfl).put rfl).put rfl
  refine lps_append (i := 2) (d := dE a ⟨xs, as, ps, srtW ws, st⟩) ok0 fr gs rfl (d_tup (da_cons (dv (d := dBook a.CB xs as) 10) (da_cons (dv (d := dTable a.CT xs ps) 12) (da_1 (dv (d := dScale a.CS (srtW ws) st) 11)))) (by simp)) (fun x hx => ?_) loose_E ?_ rfl (fun j x hx => ?_) (goodL_app gd ⟨bk, tbn, scn⟩)
  · obtain ⟨es, e3, _, _⟩ := gd
    rw [e3] at hx
    obtain ⟨y, _, rfl⟩ := List.mem_map.mp hx
    exact loose_E
  · obtain ⟨es, e3, _, e4⟩ := gd
    rw [e3, List.length_map, e4]
    exact Nat.lt_of_lt_of_le hi (by decide)
  · rcases lawH_at hx with ⟨rfl, rfl⟩ | ⟨rfl, rfl⟩
    · exact ⟨rfl, _, rfl⟩
    · exact ⟨rfl, _, rfl⟩
end BB
set_option maxHeartbeats 2000000
namespace BB
open PySem PySem.Spec PyProof.Rows L2 DL SO PySem.W TL
variable {P : Program} {w : World} {K : PySem.W.Frag} {mg : Str → Option Value} {base : Heap} {a : Ad}
def lawRest : List Stmt := match defBody (top 79) with
  | _ :: r => r
  | _ => []
theorem law_rest (F : All K w base mg a) {f : Addr} {cdv : Value} {A : Around} {outer : List Env} {s : Shared} {H : Hp} {E : XK} {b : Addr} {M : Mu} (hM : M.bag = some b) (tb : Tb3 M a) (hgd : A.guards = some []) (hr : Room 12 (lawX P w K mg base f cdv A outer s H E).A) :
    PSs (lawX P w K mg base f cdv A outer s H E) lawRest (fun Z σ H => (∃ G, Sl K G σ (lawB b) ∧ Ok M G H) ∧ ∀ H', Z.rt (.bl true) H') := by
  have hgd' : (lawX P w K mg base f cdv A outer s H E).A.guards = some [] := hgd
  have hr1 : Room 1 _ := hr.mono (by decide)
  have T := F.T
  have L4 := F.L.l8.l7.l6.l5.l4
  refine PSs.imp (pss_cons (dp_if (M := M) (ds := lawB b) (Nx := Is (lawB b)) (Rt := Is (.bl true)) (p := false) (dt_andF (R := fun _ => True) (dt_cmp op_eq (Ra := fun d => ∃ i : Int, d = .int i ∧ 0 ≤ i ∧ i < 3) (Rb := Is (.int 0)) (dx_take (many := 3) T L4.l2.l1 hM hr1 (dv (d := .raw (.ref b)) 1) d_int (by decide) (by decide)) d_int (nomark _) fun x y ⟨i, e1, _⟩ e2 G H v w Q ok t1 t2 k => by
      subst e1
      rw [show y = _ from e2] at t2
      cases t1; cases t2
      exact ⟨rfl, k (.bl _) _ G H ⟨_, rfl, trivial⟩ (Gr.refl ok) (.bl _)⟩)
    (DT.to (dt_not (p := true) (dt_v (dx_callG (R := Is (.bl true)) (fn_wide F) hgd' hr Le.rfl' (da_1 (dv (d := .raw (.ref b)) 1)) fun l e => ⟨⟨tb, b, hM, e⟩, fun d hd => hd⟩))) rfl)) (fun h => nomatch h) fun _ => dps_nil rfl) (pss_cons (ps_set (i := 2) sc_law.nd rfl (.inl rfl) (dg_nil (M := M) (ds := lawB b))) (pss_cons (ps_forOwn (M := M) (is := [3]) (u := fun d ds => ds.set 3 (some d)) (els := (List.range 5).map fun i : Nat => D.int (0 + (i : Nat))) (dsH := lawH b) (Good := GoodL a) (Rt := Is (.bl true)) PassesOwn.never rfl (fun p => di_rangeN (n := 5) d_int (by decide) T.b.range) (pg_name (i := 3) sc_law.nd rfl (Or.inl rfl)) (fun _ _ => tg1) fun G0 H0 Gs p l i d ok0 fr gs hd gd => ?_)
    (pss_one (ps_ret pe_bl))))) fun Z σ H ⟨⟨G, s, ok⟩, fin⟩ => ⟨G, s, ok, fun ds1 σ1 G1 H1 e s1 g1 => ?_, fun d v G' H' r g t => ?_⟩
  · rw [List.getElem?_map] at hd
    cases q : (List.range 5)[i]? with
    | none => rw [q] at hd; cases hd
    | some j =>
      rw [q] at hd
      have lt := (List.getElem?_eq_some_iff.mp q).1
      rw [List.length_range] at lt
      rw [List.getElem?_range lt] at q
      cases q
      cases hd
      exact law_turn F hM tb hgd hr ok0 fr gs lt gd
  · rw [show ds1 = lawB b from e] at s1
    refine ⟨G1, s1, g1.ok, fun l ws p G2 H2 r g2 A2 => ?_⟩
    rw [show l = [] from r] at A2
    exact ⟨G1, H1, G2, p, ws, [], g1.ok, (s1.mono g2.ex).set 2 (.raw (.ref p)), g2, A2, ⟨[], rfl, fun e h => (List.not_mem_nil h).elim, rfl⟩, fun σ' G' H' ws' l' s' g' A' gd' => fin H', fun d v G' H' r g t => by
      rw [show d = .bl true from r] at t
      cases t
      exact fin H'⟩
  · rw [show d = .bl true from r] at t
    cases t
    exact fin H'
def spLaw (K : PySem.W.Frag) (a : Ad) : Sp := fun vs H Q _ => ∃ (T : List (Addr × Str)) (G : Hp) (x : Addr) (ns : List Int), Ok ⟨none, 0, T⟩ G H ∧ Tb3 ⟨none, 0, T⟩ a ∧ vs = [.ref x] ∧ SqL K H x (ns.map V.int) ∧ ns.length ≤ 63 ∧ ∀ H', Q (.bl true) H'
theorem fn_law (F : All K w base mg a) : ∃ f fd, FnOkG P w K mg base 13 f fd ["_law_script"] (spLaw K a) ∧ mg "law" = some (.ref f) ∧ PySem.W.keepIn K (.ref f) = true ∧ Binds K fd ["_law_script"] [] := by
  obtain ⟨f, fd, Fd, hm⟩ := F.L.law.ex
  refine ⟨f, fd, okG_of Fd sc_law (fun vs H Q E ⟨T, G, x, ns, _, _, e, _⟩ => by rw [e]; rfl) fun cdv A outer s H vs Q E hg hr ⟨T, G, x, ns, ok, tb, e, sq, few, fin⟩ => ?_, hm, Fd.kp, Fd.bindsN fun _ _ _ _ _ _ us hl => match us, hl with | [_], _ => rfl⟩
  subst e
  obtain ⟨fb, fdb, Fb, hmb, hkb, hbb⟩ := (fn_bag (P := P) (w := w) (base := base) F.T F.L.l8).ex
  refine ⟨_, PSs.nox (pss_cons (ps_set (i := 1) sc_law.nd rfl (.inl rfl) (pe_call Fb (hr.mono (by decide)) rfl hmb hkb hbb .nil pass0 (pa_cons (pe_var (i := 0) rfl (.inl rfl)) pa_nil))) (PSs.ex (ι := Addr × Addr) (P := fun _ => True) fun z _ => law_rest F (b := z.1) (M := ⟨some z.1, z.2, T⟩) rfl ⟨⟨tb.b.inn, tb.b.uni⟩, ⟨tb.t.inn, tb.t.uni⟩, ⟨tb.s.inn, tb.s.uni⟩⟩ hg hr)), ?_⟩
  refine ⟨.ref x, rfl, T, G, x, ns, ok, rfl, sq, few, fun b c G' H' ok' => ⟨(b, c), trivial, ⟨G', ⟨rfl, fun i d h => ?_⟩, ok'⟩, fin⟩⟩
  match i, h with
  | 0, h => cases h
  | 1, h => cases h; exact ⟨.ref b, rfl, .raw _⟩
  | j + 2, h =>
    have h : (List.replicate 18 (none : Option D))[j]? = some (some d) := h
    rw [List.getElem?_replicate] at h
    split at h <;> cases h
end BB
set_option maxHeartbeats 1000000
namespace EN
open PySem PySem.Spec PyProof.Rows L2 BB DL
/-! ### the heap that the law starts from -/
def bareTab : Obj := { cls := .none, data := .fields #[] }
/-- tracked: the tables, empty; the script as it stands, where K does not know it -/
def startH (K : PySem.W.Frag) (ts : List Addr) (x : Addr) (so : Obj) (xs : List V) : Hp := fun b => if b ∈ ts then some (.tbl #[]) else if b = x ∧ K.lookup x = none then some (.frz so (.lst xs)) else none
section
variable {P : Program} {w : World} {K : PySem.W.Frag} {ts : List Addr} {x : Addr} {so : Obj} {xs : List V} {h : Heap}
theorem start_tab {b : Addr} (m : b ∈ ts) : startH K ts x so xs b = some (.tbl #[]) := if_pos m
theorem start_scr (m : x ∉ ts) (n : K.lookup x = none) : startH K ts x so xs x = some (.frz so (.lst xs)) := by
  unfold startH
  rw [if_neg m, if_pos ⟨rfl, n⟩]
theorem start_is {b : Addr} {u : HO} (e : startH K ts x so xs b = some u) : (b ∈ ts ∧ u = .tbl #[]) ∨ (b ∉ ts ∧ b = x ∧ K.lookup x = none ∧ u = .frz so (.lst xs)) := by
  unfold startH at e
  by_cases m : b ∈ ts
  · rw [if_pos m] at e
    exact .inl ⟨m, (Option.some.inj e).symm⟩
  · rw [if_neg m] at e
    by_cases n : b = x ∧ K.lookup x = none
    · rw [if_pos n] at e
      exact .inr ⟨m, n.1, n.2, (Option.some.inj e).symm⟩
    · rw [if_neg n] at e
      cases e
theorem start_not {b : Addr} (m : b ∉ ts) (n : b ≠ x) : startH K ts x so xs b = none := by
  cases q : startH K ts x so xs b with
  | none => rfl
  | some u =>
    rcases start_is q with ⟨z, _⟩ | ⟨_, z, _⟩
    · exact absurd z m
    · exact absurd z n
/-- what stands at the start -/
structure Laid (K : PySem.W.Frag) (ts : List Addr) (x : Addr) (vs : List Value) (ns : List Int) (h : Heap) : Prop where
  k : K.In h
  tab : ∀ b ∈ ts, h.get? b = some bareTab
  un : ∀ b ∈ ts, K.lookup b = none
  scr : h.get? x = some { cls := .type "list", data := .seq vs.toArray }
  nums : IntsAre vs ns
  few : ns.length ≤ sizeLine
abbrev scrO (vs : List Value) : Obj := { cls := .type "list", data := .seq vs.toArray }
variable {vs : List Value} {ns : List Int}
theorem Laid.apart (L : Laid K ts x vs ns h) : x ∉ ts := fun m => by
  have e := (L.scr).symm.trans (L.tab x m)
  have e := congrArg Obj.data (Option.some.inj e)
  cases e
theorem Laid.hok (L : Laid K ts x vs ns h) : HOk P w (startH K ts x (scrO vs) (ns.map V.int)) h := fun b u e => by
  rcases start_is e with ⟨m, rfl⟩ | ⟨_, rfl, _, rfl⟩
  · exact L.tab b m
  · exact ⟨L.scr, by rw [List.length_map]; exact L.few, vs, _, vals_ints L.nums, L.scr⟩
theorem Laid.seq (L : Laid K ts x vs ns h) : SqL K (startH K ts x (scrO vs) (ns.map V.int)) x (ns.map V.int) := by
  cases q : K.lookup x with
  | none => exact .inl (.inr ⟨_, start_scr L.apart q⟩)
  | some o =>
    have e := (L.k x o q).symm.trans L.scr
    cases e
    refine .inr ⟨_, vs.toArray, _, q, rfl, rfl, rfl, ?_, by simpa using vals_ints L.nums⟩
    rw [List.size_toArray, L.nums.length]
    exact L.few
/-- what is neither a list nor an empty table is hidden from nobody -/
theorem Laid.seen (L : Laid K ts x vs ns h) {b : Addr} {o : Obj} (e : h.get? b = some o) (n1 : ∀ a n, o.data ≠ .seq a n) (n2 : o.data ≠ .fields #[]) : (hidT h (startH K ts x (scrO vs) (ns.map V.int))).get? b = some o := by
  refine hidT_get e (start_not (fun m => ?_) fun z => ?_)
  · cases e.symm.trans (L.tab b m)
    exact n2 rfl
  · subst z
    cases e.symm.trans L.scr
    exact n1 _ _ rfl
theorem Laid.space (L : Laid K ts x vs ns h) {b : Addr} {m : Str → Option Value} (g : h.Ns b m) : (hidT h (startH K ts x (scrO vs) (ns.map V.int))).Ns b m := by
  obtain ⟨o, es, ep, e, d, r⟩ := g
  refine ⟨o, es, ep, L.seen e (fun a n z => ?_) (fun z => ?_), d, r⟩ <;> (rw [d] at z; cases z)
theorem Laid.kin (L : Laid K ts x vs ns h) : K.In (hidT h (startH K ts x (scrO vs) (ns.map V.int))) := fun b o e => by
  refine hidT_get (L.k b o e) ?_
  cases q : startH K ts x (scrO vs) (ns.map V.int) b with
  | none => rfl
  | some u =>
    rcases start_is q with ⟨m, _⟩ | ⟨_, z, n, _⟩
    · rw [L.un b m] at e; cases e
    · rw [z, n] at e; cases e
/-- a table and its code object in what is left -/
theorem Laid.tabB (L : Laid K ts x vs ns h) {mg : Str → Option Value} {c p : Addr} (g : h.Ns mainGlobals mg) (m : p ∈ ts) (cd : PySem.W.CodeHd h c p)
    (bm : ∃ (bm : Addr) (ob : Obj), mg "__builtins__" = some (.ref bm) ∧ bm ≠ builtinsNs ∧ h.get? bm = some ob ∧ ob.cls = .type "module" ∧ ob.dict = some builtinsNs ∧ ob.data = .plain) : LamX.TabB (hidT h (startH K ts x (scrO vs) (ns.map V.int))) mg c p := by
  have hp := L.tab p m
  have gl : mainGlobals ≠ p := fun z => by
    obtain ⟨o, es, ep, e, d, _⟩ := g
    rw [z] at e
    cases e.symm.trans hp
    cases d
  refine ⟨?_, ?_, gl⟩
  · obtain ⟨o, us, file, tf, flags, tg, inF, text, tt, e, k1, k2, k3, r⟩ := cd
    refine ⟨o, us, file, tf, flags, tg, inF, text, tt, L.seen e (fun a n z => ?_) (fun z => ?_), k1, k2, k3, r⟩
    · rw [k2] at z; cases z
    · rw [k2] at z
      cases z
      cases k3
  · obtain ⟨b, ob, e1, e2, e3, e4, e5, e6⟩ := bm
    refine ⟨b, ob, e1, e2, fun z => ?_, fun z => ?_, L.seen e3 (fun a n z => ?_) (fun z => ?_), e4, e5, e6⟩
    · obtain ⟨o, es, ep, e, d, _⟩ := g
      rw [z] at e3
      cases e3.symm.trans e
      rw [e6] at d
      cases d
    · rw [z] at e3
      cases e3.symm.trans hp
      cases e6
    · rw [e6] at z; cases z
    · rw [e6] at z; cases z
end
section
variable {P : Program} {w : World} {K : PySem.W.Frag} {mg mb : Str → Option Value} {cs : List (Addr × Addr)} {x fa : Addr} {s : Shared} {vs : List Value} {ns : List Int} {a : Ad}
/-- the call: true, and nothing old is changed but the tables, which grow -/
theorem law_callG (L : Laid K (cs.map (·.2)) x vs ns s.heap) (cd : ∀ p ∈ cs, PySem.W.CodeHd s.heap p.1 p.2) (hg : s.heap.Ns mainGlobals mg) (hb : s.heap.Ns builtinsNs mb) (hbb : ∀ y : Str, y ≠ "__name__" → mb y = bootBuiltins y) (hlim : s.heap.NoLimit) (hgen : s.gens = #[])
    (bm : ∃ (bm : Addr) (ob : Obj), mg "__builtins__" = some (.ref bm) ∧ bm ≠ builtinsNs ∧ s.heap.get? bm = some ob ∧ ob.cls = .type "module" ∧ ob.dict = some builtinsNs ∧ ob.data = .plain)
    (hr : Room 13 callerA) (F : ∀ base : Heap, K.In base → base.Ns mainGlobals mg → (∀ p ∈ cs, LamX.TabB base mg p.1 p.2) → ∃ fd, FnOkG P w K mg base 13 fa fd ["_law_script"] (spLaw K a) ∧ Binds K fd ["_law_script"] [])
    (sp : ∀ H : Hp, (∀ p ∈ cs, H p.2 = some (.tbl #[])) → SqL K H x (ns.map V.int) → spLaw K a [.ref x] H (fun v _ => v = .bl true) E0) :
    codeAny (model P w) callerA (.call (.ref fa) ⟨[.ref x], []⟩) (fun r s' => r = .ok (.ret (.bool true)) ∧ OldK s.heap s'.heap ∧ s'.os = s.os ∧ AllBare s'.gens) s := by
  have mem : ∀ p ∈ cs, p.2 ∈ cs.map (·.2) := fun p hp => List.mem_map.mpr ⟨p, hp, rfl⟩
  obtain ⟨H, eH⟩ : ∃ H, startH K (cs.map (·.2)) x (scrO vs) (ns.map V.int) = H := ⟨_, rfl⟩
  have kin := L.kin
  have gB := L.space hg
  obtain ⟨fd, R, bnd⟩ := F _ kin gB fun p hp => L.tabB hg (mem p hp) (cd p hp) bm
  have md : L2.Mod K mg (hidT s.heap H) := by
    rw [← eH]
    exact ⟨kin, gB, ⟨mb, L.space hb, hbb⟩, let ⟨mc, h1, h2⟩ := hlim; ⟨mc, L.space h1, h2⟩⟩
  have hok : HOk P w H s.heap := by rw [← eH]; exact L.hok
  have e0 : Env0 P w K mg (hidT s.heap H) callerA [] s H := ⟨rfl, md, fun b o e => of_hidT e, Nat.le_of_eq (hidT_size _ _), trivial, fun b m => (List.not_mem_nil m).elim, hok, .of_eq hgen⟩
  have bt : BindsTo s fd ⟨[.ref x], []⟩ ((["_law_script"] : List Str).zip [Value.ref x]) := by
    have q := bnd s [.ref x] L.k rfl
    exact q
  rw [eH] at R
  have tabs : ∀ p ∈ cs, H p.2 = some (.tbl #[]) := fun p hp => by rw [← eH]; exact start_tab (mem p hp)
  refine codeAny_mono (R.run callerA [] s H ⟨[.ref x], []⟩ [.ref x] [.ref x] _ _ rfl hr e0 bt (.cons rfl .nil) (sp H tabs (by rw [← eH]; exact L.seq))) fun r s' z => ?_
  match r, z with
  | .error _, z => exact z.elim
  | .ok .next, z => exact z.elim
  | .ok .brk, z => exact z.elim
  | .ok .cont, z => exact z.elim
  | .ok (.ret u), z =>
    obtain ⟨v, H', os, bare, un, hok', rv, rfl⟩ := z
    have rv : u = Value.bool true := rv
    refine ⟨by rw [rv], ?_, os, bare⟩
    -- an old object: kept, or a table that grew
    have two : ∀ b o, s.heap.get? b = some o → s'.heap.get? b = some o ∨ ∃ p ∈ cs, p.2 = b ∧ o = bareTab ∧ ∃ more : Array Value, s'.heap.get? b = some { cls := .none, data := .fields more } := fun b o e => by
      cases q : H b with
      | none => exact .inl (un.keep b o e q (List.not_mem_nil) (List.not_mem_nil))
      | some u =>
        rcases start_is (eH ▸ q) with ⟨m, rfl⟩ | ⟨_, rfl, _, rfl⟩
        · obtain ⟨p, hp, rfl⟩ := List.mem_map.mp m
          obtain ⟨more, y⟩ := un.tbls _ _ q
          exact .inr ⟨p, hp, rfl, Option.some.inj (e.symm.trans (L.tab _ m)), _, hok' _ _ y⟩
        · exact .inl ((e ▸ (hok' _ _ (un.frzs _ _ _ q)).1.trans L.scr.symm))
    refine ⟨fun b o e => ?_, fun b o e => ?_⟩
    · rcases two b o e with y | ⟨p, hp, rfl, rfl, more, y⟩
      · exact .inl y
      · exact .inr (.inl ⟨((cd p hp).tab e).isCodeTable, rfl, #[], more, rfl, by rw [Array.empty_append]; exact y⟩)
    · rcases two b o e with y | ⟨_, _, _, _, _, y⟩
      · exact ⟨_, y⟩
      · exact ⟨_, y⟩
end
end EN
set_option maxHeartbeats 1000000
namespace HW
open PySem PySem.Spec PyProof.Rows L2 He
/-! ### the head's facts over a list of addresses of one's own -/
def objRefs (g : Addr → Option Obj) (a : Addr) : List Addr := match g a with
  | some o => refsD o
  | none => []
def isFT (g : Addr → Option Obj) (a : Addr) : Bool := match g a with
  | some o => (match o.data with
    | .func _ => true
    | .seq _ _ => true
    | _ => false)
  | none => false
def nsOf (g : Addr → Option Obj) (a : Addr) : List Addr := match g a with
  | some o => (match o.data with
    | .cls cd => [cd.ns]
    | _ => [])
  | none => []
/-- the wanted globals, what they name, the classes' members, what these name -/
def asW (gl : List Str) (g : Addr → Option Obj) : List Addr :=
  let l1 := gl.map fun x => ga (frG g [mainGlobals]) x
  let l2 := l1.flatMap (objRefs g)
  let l3 := (l1.flatMap (nsOf g)).flatMap (objRefs g)
  let l4 := l3.flatMap (objRefs g)
  let l5 := (l4.filter (isFT g)).flatMap (objRefs g)
  mainGlobals :: (l1 ++ (l2 ++ (l3 ++ (l4 ++ l5))))
def frW (gl : List Str) (g : Addr → Option Obj) : PySem.W.Frag := frT g (asW gl g)
def tabG (g : Addr → Option Obj) (K : PySem.W.Frag) (p : Defn) : Bool := PySem.W.codeHdIn K (cT K p).1 (cT K p).2 && ((K.lookup (cT K p).2).isNone && (match g (cT K p).2 with
  | some o => emptyTab o
  | none => false))
theorem tabG_ok {g : Addr → Option Obj} {K : PySem.W.Frag} {p : Defn} (h : tabG g K p = true) : PySem.W.codeHdIn K (cT K p).1 (cT K p).2 = true ∧ K.lookup (cT K p).2 = none ∧ g (cT K p).2 = some { cls := .none, data := .fields #[] } := by
  unfold tabG at h
  rw [Bool.and_eq_true, Bool.and_eq_true] at h
  refine ⟨h.1, Option.isNone_iff_eq_none.mp h.2.1, ?_⟩
  have h3 := h.2.2
  cases q : g (cT K p).2 with
  | none => rw [q] at h3; cases h3
  | some o => rw [q] at h3; exact congrArg some (emptyTab_eq h3)
theorem tabG_keeps {g g' : Addr → Option Obj} {K : PySem.W.Frag} {p : Defn} (k : ∀ b o, g b = some o → g' b = some o) (h : tabG g K p = true) : tabG g' K p = true := by
  obtain ⟨h1, h2, h3⟩ := tabG_ok h
  unfold tabG
  rw [h1, h2, k _ _ h3]
  rfl
/-- a def found by a path of one's own -/
abbrev Gd : Type := (PySem.W.Frag → Addr) × DefD
def fnX (K : PySem.W.Frag) (a : Addr) : FnW := match K.lookup a with
  | some ⟨_, _, .func fd, _⟩ => some (fd.name, fd.qualname, fd.params, fd.body, fd.scope, fd.globals, fd.closure, fd.builtins)
  | _ => none
def okX (K : PySem.W.Frag) (a : Addr) (q : Str) : Bool := PySem.W.keepIn K (.ref a) && (match K.lookup a with
  | some ⟨_, _, .func fd, _⟩ => PySem.W.codeIn K fd.code q && dflB K fd.defaults []
  | _ => false)
theorem funX {K : PySem.W.Frag} {a : Addr} {d : DefD} (e : fnX K a = d.val) (c : okX K a d.qual = true) : ∃ fd, FunD K d.name d.qual d.params d.body d.scope [] [] a fd := by
  obtain ⟨kp, c2⟩ := Bool.and_eq_true_iff.mp c
  unfold fnX at e
  cases q : K.lookup a with
  | none => rw [q] at c2; cases c2
  | some ob =>
    obtain ⟨oc, od, dt, osl⟩ := ob
    rw [q] at c2 e
    cases dt with
    | func fd =>
      obtain ⟨m1, m2, m3, m4, m5, m6, m7, m8, m9, m10, m11, m12, m13, m14, m15⟩ := fd
      have e : (some (m1, m2, m3, m4, m5, m6, m7, m15) : FnW) = d.val := e
      unfold DefD.val at e
      simp only [Option.some.injEq, Prod.mk.injEq] at e
      obtain ⟨g1, g2, g3, g4, g5, g6, g7, g8⟩ := e
      subst g1 g2 g3 g4 g5 g6 g7 g8
      obtain ⟨k1, k2⟩ := Bool.and_eq_true_iff.mp c2
      exact ⟨_, ⟨oc, od, m8, m9, m10, m11, m12, m13, m14, osl, rfl, q, k1, dflB_ok k2, .inl rfl⟩, kp⟩
    | _ => cases c2
abbrev AlW : Type := AlT × List FnW × Bool
def obsW (gl : List Str) (fa : List Fa) (fn : List DefD) (ts : List Tab) (tf : List Defn) (gs : List Gd) (ex : PySem.W.Frag → Bool) (g : Addr → Option Obj) : AlW :=
  (obsT fa fn ts (frW gl g), gs.map (fun q => fnX (frW gl g) (q.1 (frW gl g))), ex (frW gl g) && (gs.all (fun q => okX (frW gl g) (q.1 (frW gl g)) q.2.qual) && tf.all (tabG g (frW gl g))))
structure SaysW (fa : List Fa) (fn : List DefD) (ts : List Tab) (tf : List Defn) (gs : List Gd) (ex : PySem.W.Frag → Bool) (w : World) (h : Heap) (K : PySem.W.Frag) : Prop where
  t : SaysT fa fn ts w K
  gd : gs.map (fun q => fnX K (q.1 K)) = gs.map (fun q => q.2.val)
  go : ∀ q ∈ gs, okX K (q.1 K) q.2.qual = true
  ex : ex K = true
  tb : ∀ p ∈ tf, tabG h.get? K p = true
def hookW (gl : List Str) (fa : List Fa) (fn : List DefD) (ts : List Tab) (tf : List Defn) (gs : List Gd) (ex : PySem.W.Frag → Bool) : PySem.W.Hook where
  α := AlW
  obs := fun s => obsW gl fa fn ts tf gs ex s.heap.get?
  val := fun w => (valT fn ts w, gs.map (fun q => q.2.val), true)
  says := fun w h => ∃ K : PySem.W.Frag, K.In h ∧ SaysW fa fn ts tf gs ex w h K
  of := fun w s e => by
    have e1 := congrArg (fun z : AlW => z.1) e
    have e3 := congrArg (fun z : AlW => z.2.1) e
    have e2 : (ex (frW gl s.heap.get?) && (gs.all (fun q => okX (frW gl s.heap.get?) (q.1 (frW gl s.heap.get?)) q.2.qual) && tf.all (tabG s.heap.get? (frW gl s.heap.get?)))) = true := congrArg (fun z : AlW => z.2.2) e
    rw [Bool.and_eq_true, Bool.and_eq_true, List.all_eq_true, List.all_eq_true] at e2
    exact ⟨frW gl s.heap.get?, frT_in, e1, e3, e2.2.1, e2.1, e2.2.2⟩
  keeps := fun w h h' ⟨K, hK, c⟩ k => ⟨K, PySem.W.Frag.In.keeps hK k, c.t, c.gd, c.go, c.ex, fun p hp => tabG_keeps k (c.tb p hp)⟩
theorem obsW_eq {gl : List Str} {fa : List Fa} {fn : List DefD} {ts : List Tab} {tf : List Defn} {gs : List Gd} {ex : PySem.W.Frag → Bool} {g : Addr → Option Obj} {s : Shared} (h : ∀ a, g a = s.heap.get? a) : obsW gl fa fn ts tf gs ex g = (hookW gl fa fn ts tf gs ex).obs s := by
  have e : g = s.heap.get? := funext h
  rw [e]
  rfl
theorem SaysW.gdef {fa : List Fa} {fn : List DefD} {ts : List Tab} {tf : List Defn} {gs : List Gd} {ex : PySem.W.Frag → Bool} {w : World} {h : Heap} {K : PySem.W.Frag} (c : SaysW fa fn ts tf gs ex w h K) (i : Nat) {q : Gd} (hi : gs[i]? = some q := by rfl) : ∃ fd, FunD K q.2.name q.2.qual q.2.params q.2.body q.2.scope [] [] (q.1 K) fd := by
  have e2 : (gs.map fun q => fnX K (q.1 K))[i]? = (gs.map fun q => q.2.val)[i]? := by rw [c.gd]
  rw [List.getElem?_map, List.getElem?_map, hi] at e2
  exact funX (Option.some.inj e2) (c.go q (List.mem_of_getElem? hi))
end HW
set_option maxHeartbeats 0
namespace HW
open PySem PySem.Spec PyProof.Rows L2 He BB
abbrev R : PySem.W.OpenRow := PySem.W.OpenLaw.row PySem.Challenge.rw_barelybetter_k91_whole_read_back
def tD (x : Str) (i : Nat) : DefD := ⟨(x, none), x, x, defArgs (top i), defBody (top i), defScope (top i), [], []⟩
def mD (C m q : Str) (i j : Nat) (dfl : List Dv) : DefD := ⟨(C, some m), m, q, defArgs (mth i j), defBody (mth i j), defScope (mth i j), dfl, []⟩
def e0W (K : PySem.W.Frag) : Addr := dflAt ("Book", some "__init__") 0 K
def fn0 : List DefD := [tD "is_integer" 13, tD "is_name" 14, tD "are_names" 15, tD "is_pair" 16, tD "is_answer" 17, tD "are_answers" 18, tD "pair_of" 19, tD "show_answer" 26, tD "show_walk" 27, tD "lines_text" 28, tD "things_line" 29, tD "show_book" 30, tD "show_table" 31, tD "show_scale" 32, tD "are_worths" 34, tD "twos" 37, tD "threes" 38, tD "patterns_of" 39, tD "are_pairs" 40, tD "need" 46]
def fn1 : List DefD := [tD "number_in" 47, tD "lines_of" 48, tD "things_in" 49, tD "need_made" 50, tD "read_answer" 51, tD "read_walk" 52, tD "read_book" 53, tD "read_table" 54, tD "read_scale" 55, tD "_law_bag" 57, tD "_law_take" 58, tD "_law_alike" 59, tD "_law_pick" 60, tD "_law_mix" 61, tD "_law_names" 62, tD "_law_pairs" 63, tD "_law_worths" 64, tD "_law_betters" 65, tD "_law_all_answers" 66, tD "_law_some" 67]
def fn2 : List DefD := [tD "_law_any" 68, tD "_law_walk" 69, tD "_law_made" 70, tD "_law_drawn" 71, tD "_law_every" 72, tD "_law_answer_text" 73, tD "_law_book_text" 74, tD "_law_scale_text" 75, tD "_law_great_worths" 76, tD "_law_all_back" 77, tD "_law_wide_right" 78, tD "law" 79]
def fnM : List DefD := [mD "Book" "__init__" "Book.__init__" 22 0 [.adr e0W], mD "Book" "things" "Book.things" 22 1 [], mD "Book" "answers" "Book.answers" 22 2 [], mD "Book" "__eq__" "Book.__eq__" 22 18 [], mD "Table" "__init__" "Table.__init__" 41 0 [], mD "Table" "things" "Table.things" 41 1 [], mD "Table" "betters" "Table.betters" 41 2 [], mD "Table" "__eq__" "Table.__eq__" 41 6 [], mD "Scale" "__init__" "Scale.__init__" 35 0 [], mD "Scale" "worths" "Scale.worths" 35 3 [], mD "Scale" "__eq__" "Scale.__eq__" 35 14 []]
def fn : List DefD := fn0 ++ (fn1 ++ (fn2 ++ (fnM)))
def fa0 : List Fa := [.glo "is_integer", .glo "is_name", .glo "are_names", .glo "is_pair", .glo "is_answer", .glo "are_answers", .glo "pair_of", .glo "show_answer", .glo "show_walk", .glo "lines_text", .glo "things_line", .glo "show_book", .glo "show_table", .glo "show_scale", .glo "are_worths", .glo "twos", .glo "threes", .glo "patterns_of", .glo "are_pairs", .glo "need"]
def fa1 : List Fa := [.glo "number_in", .glo "lines_of", .glo "things_in", .glo "need_made", .glo "read_answer", .glo "read_walk", .glo "read_book", .glo "read_table", .glo "read_scale", .glo "_law_bag", .glo "_law_take", .glo "_law_alike", .glo "_law_pick", .glo "_law_mix", .glo "_law_names", .glo "_law_pairs", .glo "_law_worths", .glo "_law_betters", .glo "_law_all_answers", .glo "_law_some"]
def fa2 : List Fa := [.glo "_law_any", .glo "_law_walk", .glo "_law_made", .glo "_law_drawn", .glo "_law_every", .glo "_law_answer_text", .glo "_law_book_text", .glo "_law_scale_text", .glo "_law_great_worths", .glo "_law_all_back", .glo "_law_wide_right", .glo "law", .glo "Book", .glo "Table", .glo "Scale", .glo "BarelyError", .glo "WORDS", .glo "TRUTHS"]
def faB : List Fa := [.free "isinstance", .free "int", .free "bool", .free "str", .free "list", .free "tuple", .free "dict", .free "set", .free "len", .free "all", .free "sorted", .free "range", .free "enumerate", .free "abs", .free "repr"]
def faC : List Fa := [.str "LETTERS" "abcdefghijklmnopqrstuvwxyz", .int "LONGEST" 8, .str "EMPTY" "-", .str "DIGITS" "0123456789", .int "MOST_DIGITS" 40, .cls "Book", .cls "Table", .cls "Scale", .mkr "Book", .mkr "Table", .mkr "Scale"]
def faN : List Fa := [.noat "Book" "its_things", .noat "Book" "its_truths", .noat "Book" "its_answers", .noat "Table" "kept_things", .noat "Table" "kept_betters", .noat "Scale" "its_worths", .noat "Scale" "its_step"]
def faM : List Fa := [.meth "Book" "things", .meth "Book" "answers", .meth "Book" "__eq__", .meth "Table" "things", .meth "Table" "betters", .meth "Table" "__eq__", .meth "Scale" "worths", .meth "Scale" "__eq__"]
def fa : List Fa := fa0 ++ (fa1 ++ (fa2 ++ (faB ++ (faC ++ (faN ++ (faM))))))
def gl0 : List Str := ["is_integer", "is_name", "are_names", "is_pair", "is_answer", "are_answers", "pair_of", "show_answer", "show_walk", "lines_text", "things_line", "show_book", "show_table", "show_scale", "are_worths", "twos", "threes", "patterns_of", "are_pairs", "need"]
def gl1 : List Str := ["number_in", "lines_of", "things_in", "need_made", "read_answer", "read_walk", "read_book", "read_table", "read_scale", "_law_bag", "_law_take", "_law_alike", "_law_pick", "_law_mix", "_law_names", "_law_pairs", "_law_worths", "_law_betters", "_law_all_answers", "_law_some"]
def gl2 : List Str := ["_law_any", "_law_walk", "_law_made", "_law_drawn", "_law_every", "_law_answer_text", "_law_book_text", "_law_scale_text", "_law_great_worths", "_law_all_back", "_law_wide_right", "law", "Book", "Table", "Scale", "BarelyError", "WORDS", "TRUTHS"]
def gl : List Str := gl0 ++ (gl1 ++ (gl2))
def tsW : List Tab := [(fun K => ga K "TRUTHS", ["better", "not"])]
def tfW : List Defn := [("read_book", none), ("read_table", none), ("read_scale", none)]
def propP (K : PySem.W.Frag) : Addr := ma K (ga K "Scale") "step"
def propG (K : PySem.W.Frag) : Addr := match PySem.W.recIn K (propP K) "property" with
  | some (.ref g :: _) => g
  | _ => 0
def gsW : List Gd := [(propG, ⟨("step", none), "step", "Scale.step", defArgs (mth 35 1), defBody (mth 35 1), defScope (mth 35 1), [], []⟩)]
def clsB (C : Str) (K : PySem.W.Frag) : Bool := eqO (PySem.W.findIn K (.ref (ga K C)) "__class__") (some (some (.builtin "object.__class__"))) && (eqO (PySem.W.specialIn K (.builtin "object.__class__") "__get__") (some (some (.builtin "getset_descriptor.__get__"))) &&
  (decide (PySem.W.takesIn K (.builtin "object.__class__") = some true) && (decide (PySem.W.mroIn K (ga K C) (.type "object") = some true) && (eqO (PySem.W.findIn K (.ref (ga K C)) "__ne__") (some (some (.builtin "object.__ne__"))) && decide (PySem.W.subIn K (.ref (ga K C)) (.type "object") = some true)))))
def propB (K : PySem.W.Frag) : Bool := eqO (PySem.W.findIn K (.ref (ga K "Scale")) "step") (some (some (.ref (propP K)))) && (eqO (PySem.W.specialIn K (.ref (propP K)) "__get__") (some (some (.builtin "property.__get__"))) && (decide (PySem.W.takesIn K (.ref (propP K)) = some true) &&
  (match PySem.W.recIn K (propP K) "property" with
    | some (.ref _ :: _) => true
    | _ => false)))
def entBB (e : DictEntry) (p : Bool) (z : Str) : Bool := decide (e.hash = PpSet.hB p) && ((match e.key with
  | .bool q => decide (q = p)
  | _ => false) && (match e.val with
  | .str y _ => decide (y = z)
  | _ => false))
def wordsB (K : PySem.W.Frag) : Bool := match K.lookup (ga K "WORDS") with
  | some ⟨.type c, none, .dict es _, sl⟩ => decide (c = "dict") && (sl.isEmpty && (match es.toList with
    | [e1, e2] => entBB e1 true yesW && entBB e2 false noW
    | _ => false))
  | _ => false
def truthsB (K : PySem.W.Frag) : Bool := eqO (PySem.W.nsIn K (ga K "TRUTHS") "better") (some (some (.bool true))) && eqO (PySem.W.nsIn K (ga K "TRUTHS") "not") (some (some (.bool false)))
def emptyB (K : PySem.W.Frag) : Bool := match K.lookup (e0W K) with
  | some ⟨.type c, _, .seq its _, _⟩ => decide (c = "tuple") && its.toList.isEmpty
  | _ => false
def distB (K : PySem.W.Frag) : Bool := decide ((cT K ("read_book", none)).2 ≠ (cT K ("read_table", none)).2) && (decide ((cT K ("read_book", none)).2 ≠ (cT K ("read_scale", none)).2) && decide ((cT K ("read_table", none)).2 ≠ (cT K ("read_scale", none)).2))
def exW (K : PySem.W.Frag) : Bool := distB K && (clsB "Book" K && (clsB "Table" K && (clsB "Scale" K && (propB K && (wordsB K && (truthsB K && emptyB K))))))
def hk : PySem.W.Hook := hookW gl fa fn tsW tfW gsW exW
def ob (s : PySem.W.SharedT) : AlW := obsW gl fa fn tsW tfW gsW exW (HandSHeadRun.getT s)
theorem ob_eq (s : PySem.W.SharedT) : ob s = hk.obs s.abs := obsW_eq (HandSHeadRun.getT_eq s)
def loose0 : List PySem.Str := ["_wall", "BarelyError", "Wrong", "NoThing", "Clash", "NoPair", "Unlike", "NoTable", "NoText", "LETTERS", "LONGEST", "is_integer", "is_name", "are_names", "is_pair", "is_answer", "are_answers", "pair_of", "mirrored", "Book", "WORDS", "EMPTY", "show_answer", "show_walk", "lines_text", "things_line", "show_book", "show_table", "show_scale", "are_worths"]
def loose1 : List PySem.Str := ["Scale", "twos", "threes", "patterns_of", "are_pairs", "Table", "DIGITS", "MOST_DIGITS", "TRUTHS", "need", "number_in", "lines_of", "things_in", "need_made", "read_answer", "read_walk", "read_book", "read_table", "read_scale", "_law_bag", "_law_take", "_law_alike", "_law_pick", "_law_mix", "_law_names", "_law_pairs", "_law_worths", "_law_betters", "_law_all_answers", "_law_some"]
def loose2 : List PySem.Str := ["_law_any", "_law_walk", "_law_made", "_law_drawn", "_law_every", "_law_answer_text", "_law_book_text", "_law_scale_text", "_law_great_worths", "_law_all_back", "_law_wide_right"]
def loose : List PySem.Str := loose0 ++ (loose1 ++ (loose2))
end HW
set_option maxHeartbeats 0
namespace HW
open PySem PySem.Spec PyProof.Rows L2 He BB
theorem runF (w : World) : HandSHeadRun.RunEq R (PySem.W.view R.prog [79]) hk ob 6000 loose (w.withFollow "special-get-raises" false) := by
  intro os
  kernel_rfl
end HW
set_option maxHeartbeats 0
namespace HW
open PySem PySem.Spec PyProof.Rows L2 He BB
theorem runT (w : World) : HandSHeadRun.RunEq R (PySem.W.view R.prog [79]) hk ob 6000 loose (w.withFollow "special-get-raises" true) := by
  intro os
  kernel_rfl
theorem run (w : World) : HandSHeadRun.RunEq R (PySem.W.view R.prog [79]) hk ob 6000 loose w := PySem.W.byRow2 "special-get-raises" runF runT w
end HW
set_option maxHeartbeats 1000000
namespace HW
open PySem PySem.Spec PyProof.Rows L2 He BB DL
section
variable {w : World} {h base : Heap} {K : PySem.W.Frag} {mg : Str → Option Value}
abbrev Says (w : World) (h : Heap) (K : PySem.W.Frag) : Prop := SaysW fa fn tsW tfW gsW exW w h K
theorem fnAt (c : Says w h K) (X : K.In h) (G : h.Ns mainGlobals mg) (i : Nat) {x : Str} {k : Nat} (hd : fn[i]? = some (tD x k) := by rfl) (hf : fa[i]? = some (.glo x) := by rfl) : FnAt K mg x (top k) := by
  obtain ⟨fd, F⟩ := c.t.d.def_ i hd
  exact ⟨ga K x, fd, F, glo_ok X G (c.t.d.fact i hf)⟩
theorem mtAt (c : Says w h K) (i j : Nat) {C m q : Str} {k l : Nat} (hd : fn[i]? = some (mD C m q k l []) := by rfl) (hf : fa[j]? = some (.meth C m) := by rfl) : MtAt K (ga K C) m q (mth k l) := by
  obtain ⟨fd, F⟩ := c.t.d.def_ i hd
  exact ⟨ma K (ga K C) m, fd, F, meth_ok (c.t.d.fact j hf)⟩
theorem inAt (c : Says w h K) (i j : Nat) {C q : Str} {k l : Nat} {dv : List Dv} (hd : fn[i]? = some (mD C "__init__" q k l dv) := by rfl) (hf : fa[j]? = some (.mkr C) := by rfl) : InAt K (ga K C) q (mth k l) (dv.map (Dv.v K)) := by
  obtain ⟨fd, F⟩ := c.t.d.def_ i hd
  exact ⟨ma K (ga K C) "__init__", fd, F, mkr_ok (c.t.d.fact j hf)⟩
theorem gloAt (c : Says w h K) (X : K.In h) (G : h.Ns mainGlobals mg) (j : Nat) {x : Str} (hf : fa[j]? = some (.glo x) := by rfl) : mg x = some (.ref (ga K x)) := glo_ok X G (c.t.d.fact j hf)
theorem freeAt (c : Says w h K) (X : K.In h) (G : h.Ns mainGlobals mg) (j : Nat) {x : Str} (hf : fa[j]? = some (.free x) := by rfl) : mg x = none := free_ok X G (c.t.d.fact j hf)
theorem clsAt {C : Str} (cl : Cls K (ga K C)) (e : clsB C K = true) : ClsAt K (ga K C) ∧ EqAt K (ga K C) := by
  unfold clsB at e
  simp only [Bool.and_eq_true] at e
  obtain ⟨e1, e2, e3, e4, e5, e6⟩ := e
  exact ⟨⟨cl, eqO_ok e1, eqO_ok e2, of_decide_eq_true e3, of_decide_eq_true e4⟩, eqO_ok e5, of_decide_eq_true e6⟩
theorem prAt (c : Says w h K) (e : propB K = true) : PrAt K (ga K "Scale") "step" "Scale.step" (mth 35 1) := by
  obtain ⟨fd, F⟩ := c.gdef 0
  unfold propB at e
  simp only [Bool.and_eq_true] at e
  obtain ⟨e1, e2, e3, e4⟩ := e
  refine ⟨propP K, propG K, fd, F, eqO_ok e1, eqO_ok e2, of_decide_eq_true e3, ?_⟩
  unfold propG
  split at e4
  · rename_i g r q
    rw [q]
    exact ⟨r, rfl⟩
  · cases e4
theorem entBB_ok {e : DictEntry} {p : Bool} {z : Str} (h : entBB e p z = true) : entB e p z := by
  unfold entBB at h
  simp only [Bool.and_eq_true] at h
  obtain ⟨h1, h2, h3⟩ := h
  refine ⟨of_decide_eq_true h1, ?_, ?_⟩
  · split at h2
    · rename_i q eq
      rw [eq, of_decide_eq_true h2]
    · cases h2
  · split at h3
    · rename_i y t eq
      exact ⟨t, by rw [eq, of_decide_eq_true h3]⟩
    · cases h3
theorem words_ok (e : wordsB K = true) : DictB K (ga K "WORDS") yesW noW := by
  unfold wordsB at e
  split at e
  · rename_i c es n sl q
    simp only [Bool.and_eq_true] at e
    obtain ⟨e1, e2, e3⟩ := e
    split at e3
    · rename_i a b q2
      simp only [Bool.and_eq_true] at e3
      obtain ⟨e3, e4⟩ := e3
      have ee : es = #[a, b] := by rw [← Array.toArray_toList (xs := es), q2]
      rw [of_decide_eq_true e1, Array.isEmpty_iff.mp e2, ee] at q
      exact ⟨a, b, n, q, entBB_ok e3, entBB_ok e4⟩
    · cases e3
  · cases e
theorem empty_ok (e : emptyB K = true) (H : Hp) : SqT K H (e0W K) [] := by
  unfold emptyB at e
  split at e
  · rename_i c od its n sl q
    simp only [Bool.and_eq_true] at e
    obtain ⟨e1, e2⟩ := e
    have z : its.toList = [] := List.isEmpty_iff.mp e2
    refine .inr ⟨_, its, n, q, congrArg Value.type (of_decide_eq_true e1), rfl, ?_, by rw [z]; exact .nil⟩
    rw [← Array.length_toList, z]
    exact Nat.zero_le _
  · cases e
theorem lamAt (c : Says w h K) (X : K.In h) (G : h.Ns mainGlobals mg) (i : Nat) {x : Str} {k : Nat} (tb : LamX.TabB base mg (cT K (x, none)).1 (cT K (x, none)).2) (hd : fn[i]? = some (tD x k) := by rfl) (hf : fa[i]? = some (.glo x) := by rfl) : LamAt K base mg x (top k) (cT K (x, none)).1 (cT K (x, none)).2 := by
  obtain ⟨fd, F⟩ := c.t.d.def_ i hd
  have kp := F.kp
  obtain ⟨oc, od, dV, kV, doc, pm, an, cdv, ct, osl, e, lk, hcd, df, _⟩ := F.ex
  subst e
  have dn : dV = .none := by
    rcases df with ⟨_, z⟩ | ⟨z, _⟩
    · exact z
    · exact absurd rfl z
  subst dn
  obtain ⟨c', e⟩ := codeIn_ref hcd
  subst e
  have ec : codeOf K (x, none) = c' := codeOf_eq lk rfl
  exact ⟨⟨ga K x, oc, od, kV, doc, pm, an, ct, osl, by rw [show (cT K (x, none)).1 = c' from ec]; exact lk, by rw [show (cT K (x, none)).1 = c' from ec]; exact hcd, kp, glo_ok X G (c.t.d.fact i hf)⟩, tb⟩
def adW (K : PySem.W.Frag) : Ad := ⟨ga K "Book", ga K "Table", ga K "Scale", e0W K, ga K "BarelyError", (cT K ("read_book", none)).1, (cT K ("read_book", none)).2, (cT K ("read_table", none)).1, (cT K ("read_table", none)).2, (cT K ("read_scale", none)).1, (cT K ("read_scale", none)).2⟩
theorem all_ok (c : Says w h K) (X : K.In h) (G : h.Ns mainGlobals mg) (tb : ∀ p ∈ tfW.map (cT K), LamX.TabB base mg p.1 p.2) : All K w base mg (adW K) := by
  have ex := c.ex
  unfold exW at ex
  simp only [Bool.and_eq_true] at ex
  obtain ⟨_, xb, xt, xs, xp, xw, xr, xe⟩ := ex
  have cb : Cls K (ga K "Book") := cls_ok (c.t.d.fact 78 rfl)
  have ct : Cls K (ga K "Table") := cls_ok (c.t.d.fact 79 rfl)
  have cs : Cls K (ga K "Scale") := cls_ok (c.t.d.fact 80 rfl)
  obtain ⟨kb, qb⟩ := clsAt cb xb
  obtain ⟨kt, qt⟩ := clsAt ct xt
  obtain ⟨ks, qs⟩ := clsAt cs xs
  have gb := gloAt c X G 52 (x := "Book")
  have gt := gloAt c X G 53 (x := "Table")
  have gs := gloAt c X G 54 (x := "Scale")
  have eb : MtAt K (ga K "Book") "__eq__" "Book.__eq__" (mth 22 18) := mtAt c 55 93
  have et : MtAt K (ga K "Table") "__eq__" "Table.__eq__" (mth 41 6) := mtAt c 59 96
  have es : MtAt K (ga K "Scale") "__eq__" "Scale.__eq__" (mth 35 14) := mtAt c 62 98
  have ib : InAt K (ga K "Book") "Book.__init__" (mth 22 0) [V.ref (e0W K)] := inAt c 52 81 (dv := [.adr e0W])
  have it : InAt K (ga K "Table") "Table.__init__" (mth 41 0) [] := inAt c 56 82 (dv := [])
  have is : InAt K (ga K "Scale") "Scale.__init__" (mth 35 0) [] := inAt c 60 83 (dv := [])
  have tk : Fk K mg := ⟨⟨freeAt c X G 58, freeAt c X G 59, freeAt c X G 60, freeAt c X G 61, freeAt c X G 62, freeAt c X G 63, freeAt c X G 64, freeAt c X G 65, freeAt c X G 66, freeAt c X G 67, freeAt c X G 68, freeAt c X G 69, freeAt c X G 70, freeAt c X G 71, freeAt c X G 72⟩,
    ⟨str_ok X G (c.t.d.fact 73 rfl), int_ok X G (c.t.d.fact 74 rfl)⟩, fnAt c X G 0, fnAt c X G 1, fnAt c X G 2, fnAt c X G 3, fnAt c X G 4, fnAt c X G 5, fnAt c X G 6⟩
  have tw : Fw K mg := ⟨⟨_, gloAt c X G 56 (x := "WORDS"), words_ok xw⟩, str_ok X G (c.t.d.fact 75 rfl), fnAt c X G 7, fnAt c X G 8, fnAt c X G 9, fnAt c X G 10⟩
  have tt : DictT K w (ga K "TRUTHS") yesW noW := by
    obtain ⟨es, n, D⟩ := c.t.tab 0
    unfold truthsB at xr
    simp only [Bool.and_eq_true] at xr
    exact ⟨es, n, D, eqO_ok xr.1, eqO_ok xr.2⟩
  have tr : Fr K w mg := ⟨str_ok X G (c.t.d.fact 76 rfl), int_ok X G (c.t.d.fact 77 rfl), ⟨_, gloAt c X G 57 (x := "TRUTHS"), tt⟩, fnAt c X G 19, fnAt c X G 20, fnAt c X G 21, fnAt c X G 22, fnAt c X G 24, fnAt c X G 25⟩
  have tsh : Fsh K mg := ⟨fnAt c X G 11, fnAt c X G 12, fnAt c X G 13⟩
  have fb : Fb K (ga K "Book") := ⟨cb, noat_ok (c.t.d.fact 84 rfl), noat_ok (c.t.d.fact 85 rfl), noat_ok (c.t.d.fact 86 rfl), mtAt c 53 91, mtAt c 54 92⟩
  have fT : Ft K (ga K "Table") := ⟨ct, noat_ok (c.t.d.fact 87 rfl), noat_ok (c.t.d.fact 88 rfl), mtAt c 57 94, mtAt c 58 95⟩
  have fs : Fs K (ga K "Scale") := ⟨cs, noat_ok (c.t.d.fact 89 rfl), noat_ok (c.t.d.fact 90 rfl), mtAt c 61 97⟩
  have l1 : Fl1 K mg := ⟨fnAt c X G 30⟩
  have l2 : Fl2 K mg := ⟨l1, fnAt c X G 33⟩
  have l3 : Fl3 K mg := ⟨fnAt c X G 35, fnAt c X G 44⟩
  have l4 : Fl4 K mg := ⟨l2, l3, fnAt c X G 32, fnAt c X G 36, fnAt c X G 37, fnAt c X G 38, fnAt c X G 39, fnAt c X G 40, fnAt c X G 41⟩
  have l5 : Fl5 K mg := ⟨l4, fnAt c X G 34⟩
  have l6 : Fl6 K mg := ⟨l5, fnAt c X G 45, fnAt c X G 46, fnAt c X G 47, fnAt c X G 48, fnAt c X G 43⟩
  have l7 : Fl7 K mg := ⟨l6, fnAt c X G 42⟩
  have l8 : Fl8 K mg := ⟨l7, fnAt c X G 31, fnAt c X G 29⟩
  have l9 : Fl9 K mg := ⟨l8, fnAt c X G 49, fnAt c X G 50, fnAt c X G 51⟩
  have tin : ∀ p ∈ tfW, LamX.TabB base mg (cT K p).1 (cT K p).2 := fun p hp => tb _ (List.mem_map.mpr ⟨p, hp, rfl⟩)
  exact ⟨tk, tw, tr, tsh, fb, fT, fs, ⟨prAt c xp⟩, ⟨ib, gb, empty_ok xe⟩, ⟨fnAt c X G 15, fnAt c X G 16, fnAt c X G 17, fnAt c X G 18, it, gt⟩, ⟨fnAt c X G 14, is, gs⟩,
    ⟨fnAt c X G 23, gloAt c X G 55, lamAt c X G 26 (tin ("read_book", none) (by simp [tfW])), lamAt c X G 27 (tin ("read_table", none) (by simp [tfW])), lamAt c X G 28 (tin ("read_scale", none) (by simp [tfW]))⟩,
    ⟨gb, gt, gs, kb, kt, ks, eb, et, es⟩, qb, qt, qs, l9⟩
end
end HW
set_option maxHeartbeats 0
namespace HW
open PySem PySem.Spec PyProof.Rows L2 He BB DL EN
theorem tabs0 {T : List (Addr × Str)} {H : Hp} (h : ∀ p ∈ T, H p.1 = some (.tbl #[])) : LamX.Tabs T H := fun p hp => ⟨#[], h p hp, trivial, fun pos cv z => by cases z⟩
def tabW (K : PySem.W.Frag) : List (Addr × Str) := [((cT K ("read_book", none)).2, "read_book.<locals>.<lambda>"), ((cT K ("read_table", none)).2, "read_table.<locals>.<lambda>"), ((cT K ("read_scale", none)).2, "read_scale.<locals>.<lambda>")]
theorem tabW_is {K : PySem.W.Frag} {p : Addr × Str} (hp : p ∈ tabW K) : p = ((cT K ("read_book", none)).2, ("read_book.<locals>.<lambda>" : Str)) ∨ p = ((cT K ("read_table", none)).2, ("read_table.<locals>.<lambda>" : Str)) ∨ p = ((cT K ("read_scale", none)).2, ("read_scale.<locals>.<lambda>" : Str)) := by
  rcases List.mem_cons.mp hp with z | hp
  · exact .inl z
  rcases List.mem_cons.mp hp with z | hp
  · exact .inr (.inl z)
  exact .inr (.inr (List.mem_singleton.mp hp))
theorem tb3_ok {K : PySem.W.Frag} (e : distB K = true) : Tb3 ⟨none, 0, tabW K⟩ (adW K) := by
  unfold distB at e
  simp only [Bool.and_eq_true] at e
  have e1 := of_decide_eq_true e.1
  have e2 := of_decide_eq_true e.2.1
  have e3 := of_decide_eq_true e.2.2
  refine ⟨⟨List.mem_cons_self, fun p hp q => ?_⟩, ⟨List.mem_cons_of_mem _ List.mem_cons_self, fun p hp q => ?_⟩, ⟨List.mem_cons_of_mem _ (List.mem_cons_of_mem _ List.mem_cons_self), fun p hp q => ?_⟩⟩
  all_goals
    rcases tabW_is hp with rfl | rfl | rfl
  · rfl
  · exact absurd q.symm e1
  · exact absurd q.symm e2
  · exact absurd q e1
  · rfl
  · exact absurd q.symm e3
  · exact absurd q e2
  · exact absurd q e3
  · rfl
abbrev LW : PySem.W.OpenLaw := PySem.Challenge.rw_barelybetter_k91_whole_read_back
theorem walk {q : Program} {loose : List Str} {XP : (Str → Option Value) → Heap → Prop} {d : DefRec} (hn : LW.most = some 63) (hdf : d.params.defaults = []) (hname : d.name = ("law" : Str)) :
    PySem.W.WalkO q loose XP hk.says LW.row.toRowW d [] (fun f vs => PySem.call f vs) := by
  refine Att.attach_callB hn hdf fun w s₀ s₁ mg mb fa o pm cd doc x vs ns G Y ho hd hcd hmg hobj hints hlen hbits hg => ?_
  obtain ⟨K, KX, c⟩ := Y
  have c : Says w s₁.heap K := c
  have tok : ∀ p ∈ tfW, PySem.W.codeHdIn K (cT K p).1 (cT K p).2 = true ∧ K.lookup (cT K p).2 = none ∧ s₁.heap.get? (cT K p).2 = some { cls := .none, data := .fields #[] } := fun p hp => tabG_ok (c.tb p hp)
  have L : Laid K ((tfW.map (cT K)).map (·.2)) x vs ns s₁.heap := ⟨KX, fun b hb => by
    obtain ⟨p, hp, rfl⟩ := List.mem_map.mp hb
    obtain ⟨z, hz, rfl⟩ := List.mem_map.mp hp
    exact (tok z hz).2.2, fun b hb => by
    obtain ⟨p, hp, rfl⟩ := List.mem_map.mp hb
    obtain ⟨z, hz, rfl⟩ := List.mem_map.mp hp
    exact (tok z hz).2.1, hobj, hints, Nat.le_trans hlen (by decide)⟩
  refine law_callG (a := adW K) L (fun p hp => ?_) G.T.g G.T.b G.T.builtins G.T.nolimit hg G.T.bmain ⟨rfl, by decide, by decide⟩ (fun base kb gb tb => ?_) fun H tabs sq => ?_
  · obtain ⟨z, hz, rfl⟩ := List.mem_map.mp hp
    exact PySem.W.codeHd_of_K KX (tok z hz).1
  · obtain ⟨f, fd, R, hm, _, B⟩ := fn_law (P := LW.prog) (w := w) (all_ok (base := base) c KX G.T.g tb)
    rw [hname] at hmg
    cases hm.symm.trans hmg
    exact ⟨fd, R, B⟩
  · have ex := c.ex
    unfold exW at ex
    simp only [Bool.and_eq_true] at ex
    refine ⟨tabW K, fun _ => none, x, ns, ⟨fun b u e => (by cases e), fun b e => (by cases e), tabs0 fun p hp => ?_, fun b ps e => (by cases e)⟩, tb3_ok ex.1, rfl, sq, hlen, fun _ => rfl⟩
    rcases tabW_is hp with rfl | rfl | rfl
    · exact tabs (cT K ("read_book", none)) (List.mem_map.mpr ⟨("read_book", none), List.mem_cons_self, rfl⟩)
    · exact tabs (cT K ("read_table", none)) (List.mem_map.mpr ⟨("read_table", none), List.mem_cons_of_mem _ List.mem_cons_self, rfl⟩)
    · exact tabs (cT K ("read_scale", none)) (List.mem_map.mpr ⟨("read_scale", none), List.mem_cons_of_mem _ (List.mem_cons_of_mem _ List.mem_cons_self), rfl⟩)
end HW
set_option maxHeartbeats 0
open PySem PySem.W PySem.Calls PyProof.Rows
theorem PySem.Challenge.cw_barelybetter_k91_whole_read_back_holds : PySem.Challenge.rw_barelybetter_k91_whole_read_back.Holds := by
  w_on; o_law
  refine HandSHeadRun.head_any (r := OpenLaw.row PySem.Challenge.rw_barelybetter_k91_whole_read_back) (q := view (OpenLaw.row PySem.Challenge.rw_barelybetter_k91_whole_read_back).prog [79]) (H := HW.hk) (ob := HW.ob) (M := 6000) (loose := HW.loose) (d := HandSHeadRun.topDef (OpenLaw.row PySem.Challenge.rw_barelybetter_k91_whole_read_back).prog 79) (kwd := []) HW.ob_eq
    (by kernel_rfl) (fun s => by kernel_rfl) HW.run (by kernel_rfl) (by kernel_rfl) (by kernel_rfl) (by rfl) (by first | assumption | decide +kernel) (by decide +kernel) ⟨rfl, rfl, rfl, rfl, rfl, by decide +kernel⟩ ?hw ?hc
  case hw => w_witness2
  case hc => exact HW.walk rfl (by kernel_rfl) (by kernel_rfl)
